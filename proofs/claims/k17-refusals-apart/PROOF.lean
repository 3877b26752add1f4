import PyProof.Rows.All
import Wide.All
import OpenK.AllK
import Wide.FinOn
import HandS.ForMost
import HandS.ForExc
import KE.DataEq
import KE.KBits
import KE.KStateDown
import HandS.IsInst
import HandS.CallSlots
import HandS.Defaults
import HandS.Sort
import HandS.HeadEnd
import HandS.HeadHook2
import HandS.HeadHook3
import HandS.Head2
import HandS.TupAny
import HandS.Style
import HandS.CallRecv
import HandS.Walk
import HandS.Strs
import HandS.Zip
import HandS.ExcIs
import HandS.TryOnly
import HandS.Flow
import HandS.Conv
import HandS.Dict
import HandS.Small
import HandS.HotCalls
import HandS.Text
import HandS.StrMore
import HandS.Codes
import HandS.More
import HandS.RaiseMore
import PyProof.ExcBaseAll.ValueError
import HandS.TupMul
import PyProof.SumWalkG
import PyProof.Rows.SumGenD
import KE.GoesMore
import KE.KDictZip
import HandS.ExcInit
import HandS.ExcValue
import HandS.ClsMeth
import KE.KExcIs
import HandS.Replace
import HandS.DeepEq
import HandS.ExcField
import KE.KTryMore
import HandS.ReplaceLit
import KE.OsScanText
import PySem.Challenge.RW_rowmill_k17_refusals_apart
set_option Elab.async false
set_option linter.all false
set_option maxRecDepth 100000
set_option maxHeartbeats 4000000
namespace Rw
open PySem PySem.W PySem.Calls PyProof.Rows
set_option maxHeartbeats 0 in
theorem bare0 : (OpenLaw.row PySem.Challenge.rw_rowmill_k17_refusals_apart).prog.bare := ⟨rfl, rfl, rfl, rfl, rfl, by decide +kernel⟩
set_option maxHeartbeats 0 in
theorem early (h : (OpenLaw.row PySem.Challenge.rw_rowmill_k17_refusals_apart).wellSaid = true → (OpenLaw.row PySem.Challenge.rw_rowmill_k17_refusals_apart).Holds) : PySem.Challenge.rw_rowmill_k17_refusals_apart.Holds := by
  w_on; o_law
  exact h (by assumption)
end Rw
set_option Elab.async false
set_option linter.all false
set_option maxRecDepth 100000
set_option maxHeartbeats 4000000
namespace Rw
open PySem L2
inductive T where
  | non | bl (b : Bool) | int (i : Int) | str (x : Str)
  | tup (xs : List T) | lst (xs : List T)
  | ins (c : Nat) (fs : List (Nat × T))
  | dct (kvs : List (Key × T))
  | fn (g : Nat)
  | scr (ns : List Int)
  | exn (c : Nat) (fs : List (Nat × T))
  | exv (c : Nat) (fs : List (Nat × T))
inductive Val where
  | t (x : T) | r (n : Nat)
inductive Cell where
  | dead | lst (xs : List Val) | ins (c : Nat) (fs : List (Nat × Val)) | dct (kvs : List (Key × Val))
abbrev Store := List Cell
structure Exn where
  c : Nat
  fs : List (Nat × T)
inductive R (α : Type) where
  | ok (a : α) (S : Store) | ex (x : Exn) (S : Store) | bad
def R.bind {α β : Type} (m : R α) (k : α → Store → R β) : R β := match m with
  | .ok a S => k a S
  | .ex x S => .ex x S
  | .bad => .bad
def R.nob {α β : Type} (m : R α) (k : α → Store → R β) : R β := match m with
  | .ok a S => k a S
  | _ => .bad
@[simp] theorem R.nob_ok {α β : Type} (a : α) (S : Store) (k : α → Store → R β) : (R.ok a S).nob k = k a S := rfl
@[simp] theorem R.bind_ok {α β : Type} (a : α) (S : Store) (k : α → Store → R β) : (R.ok a S).bind k = k a S := rfl
@[simp] theorem R.bind_ex {α β : Type} (x : Exn) (S : Store) (k : α → Store → R β) : (R.ex x S : R α).bind k = .ex x S := rfl
@[simp] theorem R.bind_bad {α β : Type} (k : α → Store → R β) : (R.bad : R α).bind k = .bad := rfl
inductive Blt where
  | len | int | str | min2 | max2 | abs | list | tuple | all | any | sum | minl | maxl | divmod | sorted | bool | dict
  deriving DecidableEq
inductive Ty where
  | int | bool | str | list | tuple | dict | cls (c : Nat)
  deriving DecidableEq
inductive BM where
  | append | pop | popi | insert | extend | index | count
  deriving DecidableEq
inductive TM where
  | strip | starts | ends | find | zfill | part | idx
  deriving DecidableEq
inductive ItK where
  | seq | range | enum | zip
  deriving DecidableEq
mutual
inductive IE where
  | var (i : Nat) | con (t : T) | glob (g : Nat)
  | bin (op : Operator) (a b : IE) | binM (op : Operator) (a b : IE) | neg (a : IE)
  | cmp (op : CmpOp) (a b : IE) | cmp2 (o p : CmpOp) (a b c : IE)
  | not (a : IE) | ands (es : IEs) | ors (es : IEs) | ife (t : IC) (a b : IE)
  | tup (es : IEs) | lst (m : Bool) (es : IEs)
  | sub (a i : IE) | slc (m : Bool) (a lo hi : IE) | rev (m : Bool) (a : IE)
  | fld (o : IE) (f : Nat)
  | call (f : Nat) (es : IEs) | new (c : Nat) (es : IEs) | meth (o : IE) (f : Nat) (es : IEs)
  | blt (b : Blt) (m : Bool) (es : IEs)
  | isi (e : IE) (many : Bool) (ts : List Ty)
  | exIs (i : Nat) (many : Bool) (ts : List (Option Nat)) | hot (f i : Nat) | exAt (i f : Nat)
  | bm (b : BM) (m : Bool) (o : IE) (es : IEs)
  | cix (g : Nat) (e : IE) | lenSet (e : IE) | join (a : IE) (es : IEs) | dget (g : Nat) (e : IE) | dgetI (g : Nat) (e : IE) (i : Int) | tm (k : TM) (a : IE) (es : IEs) | tcount (a : IE) (es : IEs) | listRg (e : IE) | inRg (neg : Bool) (a b : IE) | dct0 | dct1 (k v : Int) | dctD (m : Bool) (ks : List Key) (es : IEs) | upd (o e : IE) | sumV (e : IE) | dctZ (m : Bool) (a b : IE) | eqD (neg : Bool) (a b : IE) | split (m : Bool) (a : IE) (es : IEs) | dgetT (o e : IE) | dgetD (o e d : IE) | repl (a : IE) (y z : Str) | mkx (c : Nat) (es : IEs) | isx (e : IE) (ts : List (Option Nat)) | exvAt (e : IE) (f : Nat) | fnv (g : Nat) | callV (a : IE) (gs : List Nat) (es : IEs)
  | comp (m : Bool) (k : ItK) (src : IEs) (many : Bool) (tg : List Nat) (ifs : ICs) (elt : IE)
inductive IEs where
  | nil | cons (e : IE) (es : IEs)
/-- a test -/
inductive IC where
  | val (e : IE) | not (c : IC) | ands (cs : ICs) | ors (cs : ICs)
inductive ICs where
  | nil | cons (c : IC) (cs : ICs)
end
mutual
inductive IS where
  | pass | expr (e : IE) | set (i : Nat) (e : IE) | setT (is : List Nat) (e : IE) | setF (o : IE) (f : Nat) (e : IE) | setS (o i e : IE) | setL (o lo hi e : IE)
  | setM (is : List Nat) (es : IEs) | aug (i : Nat) (op : Operator) (e : IE) | augF (o : IE) (f : Nat) (op : Operator) (e : IE) | augS (o i : IE) (op : Operator) (e : IE) | setTF (is fs : List Nat) (e : IE) | never
  | ife (t : IC) (a b : ISs)
  | for_ (k : ItK) (src : IEs) (many : Bool) (tg : List Nat) (body : ISs)
  | while_ (n : Nat) (t : IC) (body : ISs)
  | ret (e : IE) | retN | raise (c : Nat) (es : IEs) | raiseA (c : Nat) (e : IE) | try_ (body : ISs) (cs : List Nat) (nm : Option Nat) (suite : ISs) | try3 (body : ISs) (d1 d2 d3 : Nat) (suite : ISs)
  | cont | brk
inductive ISs where
  | nil | cons (s : IS) (ss : ISs)
end
structure Fn where
  pure : Bool
  np : Nat
  ns : Nat
  dfl : List T
  body : ISs
  hot : Bool := false
structure Cl where
  frozen : Bool
  init : Option Nat
  flds : List Nat
  meths : List (Nat × Nat)
  sup : List Nat
structure Tab where
  fn : Nat → Option Fn
  cl : Nat → Option Cl
  con : Nat → Option T
  exc : Nat → Option (List Nat)
  exr : Nat → Bool := fun _ => true
  exa : Nat → Option (Nat × Nat) := fun _ => none
  dc : Nat → Option (List (Str × T)) := fun _ => none
def arity (tab : Tab) (f m : Nat) : Bool := match tab.fn f with
  | some d => (decide (m ≤ d.np) && decide (d.np - m ≤ d.dfl.length)) && !d.hot
  | none => false
def IEs.len : IEs → Nat
  | .nil => 0
  | .cons _ es => es.len + 1
abbrev Env := List (Option Val)
abbrev Call := Nat → List Val → Store → R Val
def szLine : Nat := 16777216
def bigI (i : Int) : Bool := decide (i.natAbs < 18446744073709551616)
def binI (op : Operator) (i j : Int) : Option Int := match op with
  | .Add => some (i + j)
  | .Sub => some (i - j)
  | .Mult => if bigI i || bigI j then some (i * j) else none
  | .FloorDiv => if 0 < j ∧ j.toNat < 1073741824 then some (i / j) else none
  | .Mod => if 0 < j then some (i % j) else none
  | .Pow => if (0 ≤ j ∧ j.toNat ≤ 1000000) ∧ i.natAbs < 18446744073709551616 then some (i ^ j.toNat) else none
  | .LShift => if (0 ≤ j ∧ j.toNat ≤ 1000000) ∧ i.natAbs < 18446744073709551616 then some (i * 2 ^ j.toNat) else none
  | .RShift => if 0 ≤ j then some (i / 2 ^ j.toNat) else none
  | .BitAnd => some (Builtin.bitAnd i j)
  | .BitOr => some (Builtin.bitOr i j)
  | .BitXor => some (Builtin.bitXor i j)
  | _ => none
def binT (op : Operator) : T → T → Option T
  | .int i, .int j => (binI op i j).map .int
  | .str x, .str y => if op = .Add ∧ x.length + y.length ≤ szLine then some (.str (x ++ y)) else none
  | .str x, .int k => if op = .Mult ∧ (0 ≤ k ∧ k ≤ 8) ∧ x.length ≤ 1000 then some (.str (Txt.mul x k)) else none
  | _, _ => none
mutual
def T.py : T → Option PyData
  | .non => some .none
  | .bl b => some (.bool b)
  | .int i => some (.int i)
  | .str x => some (.str x)
  | .tup xs => (T.pys xs).map .tuple
  | .lst xs => (T.pys xs).map .list
  | .scr ns => some (.list (ns.map .int))
  | _ => none
def T.pys : List T → Option (List PyData)
  | [] => some []
  | x :: xs => match T.py x with
    | some d => (T.pys xs).map (d :: ·)
    | none => none
end
def eqT (a b : T) : Option Bool := match a.py, b.py with
  | some d, some e => if min d.depth e.depth ≤ 60 then some (PyData.eqv d e) else none
  | _, _ => none
def isNon : T → Bool
  | .non => true
  | _ => false
def isB : T → T → Option Bool
  | .bl a, .bl b => some (a == b)
  | _, _ => none
def ordT (op : CmpOp) (i j : Int) : Bool := match op with
  | .Lt => decide (i < j)
  | .LtE => decide (i ≤ j)
  | .Gt => decide (j < i)
  | .GtE => decide (j ≤ i)
  | _ => false
def ordO (op : CmpOp) : T → T → Option Bool
  | .int i, .int j => some (ordT op i j)
  | _, _ => none
def keyEq : Key → Key → Bool
  | .inl i, .inl j => i == j
  | .inr x, .inr y => x == y
  | _, _ => false
def lookK {α : Type} : List (Key × α) → Key → Option α
  | [], _ => none
  | p :: r, k => if keyEq p.1 k then some p.2 else lookK r k
def keyT : T → Option Key
  | .int i => some (.inl i)
  | .str x => some (.inr x)
  | _ => none
def inT (a b : T) : Option Bool := match a.py, b with
  | some d, .lst xs => (T.pys xs).bind fun ds => if min (PyData.depthAll ds) d.depth ≤ 60 then some (ds.any fun y => PyData.eqv y d) else none
  | some d, .tup xs => (T.pys xs).bind fun ds => if min (PyData.depthAll ds) d.depth ≤ 60 then some (ds.any fun y => PyData.eqv y d) else none
  | some _, .str y => match a with
    | .str x => some (!(Builtin.Str.occurrences y x 0 y.length 1).isEmpty)
    | _ => none
  | some _, .dct kvs => (keyT a).map fun k => (lookK kvs k).isSome
  | _, _ => none
def cmpT (op : CmpOp) (a b : T) : Option Bool := match op with
  | .Eq => eqT a b
  | .NotEq => (eqT a b).map not
  | .In => inT a b
  | .NotIn => (inT a b).map not
  | .Is => if isNon b then some (isNon a) else isB a b
  | .IsNot => if isNon b then some (!isNon a) else none
  | _ => ordO op a b
def truT : T → Option Bool
  | .bl b => some b
  | .non => some false
  | .int i => some (i != 0)
  | .str x => if x.length ≤ szLine then some ((x.length : Int) != 0) else none
  | .tup xs => some (!xs.isEmpty)
  | .lst xs => some (!xs.isEmpty)
  | .scr ns => some (!ns.isEmpty)
  | _ => none
def allT : List Val → Option (List T)
  | [] => some []
  | .t x :: vs => (allT vs).map (x :: ·)
  | .r _ :: _ => none
def allF : List (Nat × Val) → Option (List (Nat × T))
  | [] => some []
  | (f, .t x) :: vs => (allF vs).map ((f, x) :: ·)
  | (_, .r _) :: _ => none
def allD : List (Key × Val) → Option (List (Key × T))
  | [] => some []
  | (k, .t x) :: r => (allD r).map ((k, x) :: ·)
  | (_, .r _) :: _ => none
def peek (S : Store) : Val → Option T
  | .t x => some x
  | .r n => match S[n]? with
    | some (.lst vs) => (allT vs).map .lst
    | _ => none
def toT (S : Store) : Val → Option (T × Store)
  | .t x => some (x, S)
  | .r n => match S[n]? with
    | some (.lst vs) => (allT vs).map fun xs => (.lst xs, S.set n .dead)
    | some (.ins c fs) => (allF fs).map fun xs => (.ins c xs, S.set n .dead)
    | some (.dct kvs) => (allD kvs).map fun xs => (.dct xs, S.set n .dead)
    | _ => none
def buryS : List Val → Store → Option (List T × Store)
  | [], S => some ([], S)
  | v :: vs, S => match toT S v with
    | some (x, S1) => (match buryS vs S1 with
      | some (xs, S2) => some (x :: xs, S2)
      | none => none)
    | none => none
def putKV {α : Type} (kvs : List (Key × α)) (k : Key) (v : α) : List (Key × α) :=
  if kvs.any (fun p => keyEq p.1 k) then kvs.map (fun p => if keyEq p.1 k then (p.1, v) else p) else kvs ++ [(k, v)]
def mergeKV {α : Type} (kvs more : List (Key × α)) : List (Key × α) := more.foldl (fun acc p => putKV acc p.1 p.2) kvs
def nodupK : List Key → Bool
  | [] => true
  | k :: ks => !ks.any (fun j => keyEq j k) && nodupK ks
def listV (S : Store) : Val → Option (List Val)
  | .t (.lst xs) => some (xs.map .t)
  | .t (.scr ns) => some (ns.map fun n => .t (.int n))
  | .r n => match S[n]? with
    | some (.lst vs) => some vs
    | _ => none
  | _ => none
def alloc (m : Bool) (vs : List Val) (S : Store) : R Val :=
  if vs.length ≤ szLine then
    if m then .ok (.r S.length) (S ++ [.lst vs])
    else match allT vs with
      | some xs => .ok (.t (.lst xs)) S
      | none => .bad
  else .bad
def ofO {α : Type} (o : Option α) (S : Store) : R α := match o with
  | some x => .ok x S
  | none => .bad
@[simp] theorem ofO_some {α : Type} (x : α) (S : Store) : ofO (some x) S = .ok x S := rfl
@[simp] theorem ofO_none {α : Type} (S : Store) : ofO (none : Option α) S = .bad := rfl
def ofT (o : Option T) (S : Store) : R Val := match o with
  | some x => .ok (.t x) S
  | none => .bad
@[simp] theorem ofT_some (x : T) (S : Store) : ofT (some x) S = .ok (.t x) S := rfl
@[simp] theorem ofT_none (S : Store) : ofT none S = .bad := rfl
def lstT (S : Store) : Val → Option (List T)
  | .t (.lst xs) => some xs
  | .r n => match S[n]? with
    | some (.lst vs) => allT vs
    | _ => none
  | _ => none
def setLV (a lo hi v : Val) (S : Store) : Option Store := match a, lo, hi, v with
  | .r n, .t (.int i), .t (.int j), .t (.lst ys) => (match S[n]? with
    | some (.lst xs) => if 0 ≤ i ∧ i ≤ j ∧ j ≤ xs.length ∧ xs.length + ys.length ≤ szLine then some (S.set n (.lst (xs.take i.toNat ++ ys.map .t ++ xs.drop j.toNat))) else none
    | _ => none)
  | _, _, _, _ => none
def needCalm : Blt → Bool
  | .min2 => true
  | .max2 => true
  | .all => true
  | .any => true
  | .sum => true
  | .dict => true
  | .minl => true
  | .maxl => true
  | _ => false
def isL : Val → Bool
  | .t (.lst _) => true
  | .r _ => true
  | _ => false
def lstV (S : Store) : Val → Option (List Val)
  | .t (.lst xs) => some (xs.map .t)
  | .r n => match S[n]? with
    | some (.lst vs) => some vs
    | _ => none
  | _ => none
def binL (m : Bool) (op : Operator) (a b : Val) (S : Store) : R Val := match lstV S a with
  | none => .bad
  | some xs => (match op with
    | .Add => (match lstV S b with
      | some ys => alloc m (xs ++ ys) S
      | none => .bad)
    | .Mult => (match b with
      | .t (.int k) => if k.natAbs < 9223372036854775808 then alloc m (List.replicate k.toNat xs).flatten S else .bad
      | _ => .bad)
    | _ => .bad)
def binA (op : Operator) (a b : Val) (S : Store) : R Val := match a, b with
  | .t x, .t y => ofT (binT op x y) S
  | _, _ => .bad
def catT (op : Operator) (a b : Val) (S : Store) : R Val := match op, a, b with
  | .Add, .t (.tup xs), .t (.tup ys) => if xs.length + ys.length ≤ szLine then .ok (.t (.tup (xs ++ ys))) S else .bad
  | .Mult, .t (.tup xs), .t (.int k) => if k = 1 then .ok (.t (.tup xs)) S else if !xs.isEmpty ∧ 2 ≤ k ∧ k.toNat ≤ 1000 ∧ xs.length ≤ 1000 then .ok (.t (.tup (List.replicate k.toNat xs).flatten)) S else .bad
  | _, _, _ => .bad
def isTu : Val → Bool
  | .t (.tup _) => true
  | _ => false
def binV (op : Operator) (a b : Val) (S : Store) : R Val := if isL a then binL false op a b S else if isTu a then catT op a b S else binA op a b S
def dInC (op : CmpOp) (x : T) (b : Val) (S : Store) : Option Bool := match b with
  | .r n => (match S[n]? with
    | some (.dct kvs) => (keyT x).bind fun k => (match op with
      | .In => some (lookK kvs k).isSome
      | .NotIn => some (!(lookK kvs k).isSome)
      | _ => none)
    | _ => none)
  | _ => none
def cmpW (op : CmpOp) (a b : Val) (S : Store) : R Val := match peek S a, peek S b with
  | some x, some y => ofT ((cmpT op x y).map .bl) S
  | some x, none => ofT ((dInC op x b S).map .bl) S
  | _, _ => .bad
def cmpV (op : CmpOp) (a b : Val) (S : Store) : R Val := match op, a, b with
  | .Is, .r _, .t .non => .ok (.t (.bl false)) S
  | .IsNot, .r _, .t .non => .ok (.t (.bl true)) S
  | op, a, b => cmpW op a b S
def ix (n : Nat) (i : Int) : Option Nat := if 0 ≤ i then (if i < n then some i.toNat else none) else if -(n : Int) ≤ i then some (i + n).toNat else none
def atL {α : Type} (xs : List α) (i : Int) : Option α := (ix xs.length i).bind fun j => xs[j]?
def subV (a i : Val) (S : Store) : R Val := match a, i with
  | .t (.lst xs), .t (.int k) => ofT (atL xs k) S
  | .t (.tup xs), .t (.int k) => ofT (atL xs k) S
  | .t (.scr ns), .t (.int k) => ofT ((atL ns k).map .int) S
  | .t (.str x), .t (.int k) => if x.length ≤ szLine then ofT ((atL x.cps.toList k).map fun c => .str ⟨#[c]⟩) S else .bad
  | .r n, .t (.int k) => (match S[n]? with
    | some (.lst vs) => ofO (atL vs k) S
    | some (.dct kvs) => ofO (lookK kvs (.inl k)) S
    | _ => .bad)
  | .r n, .t (.str x) => (match S[n]? with
    | some (.dct kvs) => ofO (lookK kvs (.inr x)) S
    | _ => .bad)
  | .t (.dct kvs), .t (.int k) => ofT (lookK kvs (.inl k)) S
  | .t (.dct kvs), .t (.str x) => ofT (lookK kvs (.inr x)) S
  | _, _ => .bad
def dctOf (S : Store) : Val → Option (List (Key × Val))
  | .t (.dct kvs) => some (kvs.map fun p => (p.1, .t p.2))
  | .r n => (match S[n]? with
    | some (.dct kvs) => some kvs
    | _ => none)
  | _ => none
def sameR : Val → Val → Bool
  | .r n, .r m => n == m
  | _, _ => false
def dctV (m : Bool) (ks : List Key) (vs : List Val) (S : Store) : R Val :=
  if m then .ok (.r S.length) (S ++ [.dct (ks.zip vs)])
  else match allT vs with
    | some xs => .ok (.t (.dct (ks.zip xs))) S
    | none => .bad
def dctB (a : Val) (S : Store) : Bool := match a with
  | .r n => (match S[n]? with
    | some (.dct _) => true
    | _ => false)
  | _ => false
def updV (a b : Val) (S : Store) : R Val := match a with
  | .r n => (match S[n]? with
    | some (.dct kvs) => if sameR a b then .bad else (match dctOf S b with
      | some more => if kvs.length + more.length < 1000 then .ok (.t .non) (S.set n (.dct (mergeKV kvs more))) else .bad
      | none => .bad)
    | _ => .bad)
  | _ => .bad
def clT (tab : Tab) (d : Nat) : T → Option Bool
  | .ins c _ => (tab.cl c).map fun k => k.sup.contains d
  | .fn _ => none
  | .exn _ _ => none
  | .exv _ _ => none
  | _ => some false
def tyT (tab : Tab) (t : Ty) (x : T) : Option Bool := match t with
  | .cls d => (match tab.cl d with
    | none => none
    | some _ => clT tab d x)
  | t => (match x with
    | .non => some false
    | .bl _ => some (t == .bool || t == .int)
    | .int _ => some (t == .int)
    | .str _ => some (t == .str)
    | .tup _ => some (t == .tuple)
    | .lst _ => some (t == .list)
    | .scr _ => some (t == .list)
    | .dct _ => some (t == .dict)
    | .ins c _ => (tab.cl c).map fun _ => false
    | .fn _ => none
    | .exn _ _ => none
    | .exv _ _ => none)
def anyTy (tab : Tab) (x : T) : List Ty → Option Bool
  | [] => some false
  | t :: ts => match tyT tab t x with
    | some true => some true
    | some false => anyTy tab x ts
    | none => none
def shell (S : Store) : Val → Option T
  | .t x => some x
  | .r n => match S[n]? with
    | some (.lst _) => some (.lst [])
    | some (.ins c _) => some (.ins c [])
    | some (.dct _) => some (.dct [])
    | _ => none
def isiV (tab : Tab) (ts : List Ty) (a : Val) (S : Store) : R Val := match shell S a with
  | some x => ofT ((anyTy tab x ts).map .bl) S
  | none => .bad
def lenV (a : Val) (S : Store) : R Val := match a with
  | .t (.lst xs) => .ok (.t (.int xs.length)) S
  | .t (.tup xs) => .ok (.t (.int xs.length)) S
  | .t (.scr ns) => .ok (.t (.int ns.length)) S
  | .t (.str x) => if x.length ≤ szLine then .ok (.t (.int x.length)) S else .bad
  | .r n => (match S[n]? with
    | some (.lst vs) => .ok (.t (.int vs.length)) S
    | _ => .bad)
  | _ => .bad
def allB : List Val → Option (List Bool)
  | [] => some []
  | .t (.bl b) :: vs => (allB vs).map (b :: ·)
  | _ :: _ => none
def allI : List Val → Option (List Int)
  | [] => some []
  | .t (.int i) :: vs => (allI vs).map (i :: ·)
  | _ :: _ => none
def cutL {α : Type} (xs : List α) (lo hi : Option Int) : List α := (xs.drop (HT.sIx xs.length 0 lo)).take (HT.sIx xs.length xs.length hi - HT.sIx xs.length 0 lo)
def slcV (m : Bool) (a : Val) (lo hi : Option Int) (S : Store) : R Val := match a, listV S a with
  | .t (.tup xs), _ => .ok (.t (.tup (cutL xs lo hi))) S
  | .t (.str x), _ => if x.length ≤ szLine then .ok (.t (.str (Txt.slice x lo hi))) S else .bad
  | _, some vs => alloc m (cutL vs lo hi) S
  | _, none => .bad
def revV (m : Bool) (a : Val) (S : Store) : R Val := match listV S a with
  | some vs => alloc m vs.reverse S
  | none => .bad
def isNo : IE → Bool
  | .con .non => true
  | _ => false
def putN (f : Nat) (v : Val) : List (Nat × Val) → List (Nat × Val)
  | [] => [(f, v)]
  | (g, w) :: r => if g = f then (g, v) :: r else (g, w) :: putN f v r
def cellB (a : Val) (S : Store) : Bool := match a with
  | .r n => (match S[n]? with
    | some (.lst _) => true
    | _ => false)
  | .t (.lst _) => true
  | _ => false
def flatU : T → Bool
  | .non => true
  | .bl _ => true
  | .int _ => true
  | .str _ => true
  | _ => false
def flU : T → T → Bool
  | .non, .non => true
  | .bl a, .bl b => a == b
  | .bl a, .int b => (if a then 1 else 0) == b
  | .int a, .bl b => a == (if b then 1 else 0)
  | .int a, .int b => a == b
  | .str a, .str b => a == b
  | _, _ => false
def idxT (xs : List T) (y : T) : Option Nat := if xs.all flatU && flatU y then xs.findIdx? fun x => flU x y else none
def cntT (xs : List T) (y : T) : Option Nat := if xs.all flatU && flatU y then some (xs.countP fun x => flU x y) else none
def inRgV (neg : Bool) (a b : Val) (S : Store) : R Val := match a, b with
  | .t (.int i), .t (.int n) => .ok (.t (.bl (if neg then !decide (0 ≤ i ∧ i < n) else decide (0 ≤ i ∧ i < n)))) S
  | _, _ => .bad
def bmV (b : BM) (a : Val) (vs : List Val) (S : Store) : R Val := match a with
  | .r n => (match S[n]? with
    | some (.lst ws) => (match b, vs with
      | .append, [v] => if ws.length < szLine then .ok (.t .non) (S.set n (.lst (ws ++ [v]))) else .bad
      | .extend, [.t (.lst ys)] => if ws.length + ys.length ≤ szLine then .ok (.t .non) (S.set n (.lst (ws ++ ys.map .t))) else .bad
      | .insert, [.t (.int i), v] => if ws.length < szLine ∧ 0 ≤ i ∧ i < 1048576 then .ok (.t .non) (S.set n (.lst (ws.take i.toNat ++ [v] ++ ws.drop i.toNat))) else .bad
      | .pop, [] => (match ws[ws.length - 1]? with
        | some v => .ok v (S.set n (.lst ws.dropLast))
        | none => .bad)
      | .popi, [.t (.int i)] => if ws.length ≤ szLine then (match ix ws.length i with
        | some k => (match ws[k]? with
          | some v => .ok v (S.set n (.lst (ws.eraseIdx k)))
          | none => .bad)
        | none => .bad) else .bad
      | .index, [.t y] => (match (allT ws).bind fun xs => idxT xs y with
        | some j => .ok (.t (.int (j : Nat))) S
        | none => .bad)
      | .count, [.t y] => (match (allT ws).bind fun xs => cntT xs y with
        | some j => .ok (.t (.int (j : Nat))) S
        | none => .bad)
      | _, _ => .bad)
    | _ => .bad)
  | .t (.lst xs) => (match b, vs with
    | .index, [.t y] => (match idxT xs y with
      | some j => .ok (.t (.int (j : Nat))) S
      | none => .bad)
    | .count, [.t y] => (match cntT xs y with
      | some j => .ok (.t (.int (j : Nat))) S
      | none => .bad)
    | _, _ => .bad)
  | _ => .bad
def setSV (a i v : Val) (S : Store) : Option Store := match a, i with
  | .r n, .t (.int k) => (match S[n]? with
    | some (.lst ws) => (ix ws.length k).map fun j => S.set n (.lst (ws.set j v))
    | some (.dct kvs) => if kvs.length < 1000 then some (S.set n (.dct (putKV kvs (.inl k) v))) else none
    | _ => none)
  | .r n, .t (.str x) => (match S[n]? with
    | some (.dct kvs) => if kvs.length < 1000 then some (S.set n (.dct (putKV kvs (.inr x) v))) else none
    | _ => none)
  | _, _ => none
def fldB (tab : Tab) (c f : Nat) : Bool := match tab.cl c with
  | some k => k.flds.contains f
  | none => false
def setFV (tab : Tab) (a : Val) (f : Nat) (v : Val) (S : Store) : Option Store := match a with
  | .r n => (match S[n]? with
    | some (.ins c fs) => if fldB tab c f && decide (fs.length < 1000) then some (S.set n (.ins c (putN f v fs))) else none
    | _ => none)
  | _ => none
def pairV : Val → Option (Key × Val)
  | .t (.tup [k, v]) => (keyT k).map fun q => (q, .t v)
  | _ => none
def pairsV : List Val → Option (List (Key × Val))
  | [] => some []
  | p :: r => (pairV p).bind fun q => (pairsV r).map (q :: ·)
def mkD (m : Bool) (kvs : List (Key × Val)) (S : Store) : R Val :=
  if m then .ok (.r S.length) (S ++ [.dct kvs])
  else match allD kvs with
    | some xs => .ok (.t (.dct xs)) S
    | none => .bad
def dictV (m : Bool) (a : Val) (S : Store) : R Val := match dctOf S a with
  | some kvs => mkD m kvs S
  | none => (match (listV S a).bind pairsV with
    | some kvs => mkD m (mergeKV [] kvs) S
    | none => .bad)
def minI : List Int → Option Int
  | [] => none
  | n :: ns => some (ns.foldl min n)
def maxI : List Int → Option Int
  | [] => none
  | n :: ns => some (ns.foldl max n)
def sumVV (a : Val) (S : Store) : R Val := match (dctOf S a).bind fun kvs => allI (kvs.map (·.2)) with
  | some ns => .ok (.t (.int ns.sum)) S
  | none => .bad
def keysT : List T → Option (List Key)
  | [] => some []
  | x :: xs => (keyT x).bind fun k => (keysT xs).map (k :: ·)
def dctZV (m : Bool) (a b : Val) (S : Store) : R Val := match a, b with
  | .t (.tup ks), .t (.tup vs) => if ks.length = vs.length then (match keysT ks with
    | some qs => mkD m (mergeKV [] ((qs.zip vs).map fun p => (p.1, .t p.2))) S
    | none => .bad) else .bad
  | _, _ => .bad
def sameL (f : T → T → Bool) : List T → List T → Bool
  | [], [] => true
  | x :: xs, y :: ys => f x y && sameL f xs ys
  | _, _ => false
def sameD : Nat → T → T → Bool
  | 0, _, _ => false
  | n + 1, .lst xs, .lst ys => sameL (sameD n) xs ys
  | n + 1, .dct ks, .dct ls => ks.length == ls.length && ks.all fun p => match lookK ls p.1 with
    | some u => sameD n p.2 u
    | none => false
  | _ + 1, a, b => eqT a b == some true
def peekD (S : Store) : Val → Option T
  | .t x => some x
  | .r n => match S[n]? with
    | some (.lst vs) => (allT vs).map .lst
    | some (.dct kvs) => (allD kvs).map .dct
    | _ => none
def isDct : T → Bool
  | .dct _ => true
  | _ => false
def eqDV (neg : Bool) (a b : Val) (S : Store) : R Val := match peekD S a, peekD S b with
  | some x, some y => if (!neg || (isDct x && isDct y)) && sameD 3 x y then .ok (.t (.bl (!neg))) S else .bad
  | _, _ => .bad
def bltV (b : Blt) (m : Bool) (vs : List Val) (S : Store) : R Val := match b, vs with
  | .len, [a] => lenV a S
  | .int, [.t (.int i)] => .ok (.t (.int i)) S
  | .int, [.t (.bl k)] => .ok (.t (.int (if k then 1 else 0))) S
  | .int, [.t (.str x)] => (match PySem.intText? x with
    | some n => if x.length ≤ 640 then .ok (.t (.int n)) S else .bad
    | none => .bad)
  | .str, [.t (.int i)] => if i.natAbs.log2 < 1920 then .ok (.t (.str (Str.ofString (toString i)))) S else .bad
  | .str, [.t (.str x)] => .ok (.t (.str x)) S
  | .min2, [.t (.int i), .t (.int j)] => .ok (.t (.int (if j < i then j else i))) S
  | .max2, [.t (.int i), .t (.int j)] => .ok (.t (.int (if j > i then j else i))) S
  | .abs, [.t (.int i)] => .ok (.t (.int (if i < 0 then -i else i))) S
  | .list, [a] => (match a, listV S a with
    | .t (.tup xs), _ => alloc m (xs.map .t) S
    | _, some vs => alloc m vs S
    | _, none => .bad)
  | .tuple, [a] => (match a, listV S a with
    | .t (.tup xs), _ => .ok (.t (.tup xs)) S
    | _, some vs => if vs.length ≤ szLine then ofT ((allT vs).map .tup) S else .bad
    | _, none => .bad)
  | .all, [a] => ofT (((listV S a).bind allB).map fun bs => .bl (bs.all id)) S
  | .any, [a] => ofT (((listV S a).bind allB).map fun bs => .bl (bs.any id)) S
  | .sum, [a] => ofT (((listV S a).bind allI).map fun ns => .int ns.sum) S
  | .sorted, [a] => (match (listV S a).bind allI with
    | some ns => if ns.length < 64 then alloc m ((ns.mergeSort (fun i j => decide (i ≤ j))).map fun i => .t (.int i)) S else .bad
    | none => .bad)
  | .divmod, [.t (.int i), .t (.int j)] => if 0 < j ∧ j.toNat < 1073741824 then .ok (.t (.tup [.int (i / j), .int (i % j)])) S else .bad
  | .bool, [.t (.int i)] => .ok (.t (.bl (i != 0))) S
  | .bool, [.t (.bl k)] => .ok (.t (.bl k)) S
  | .dict, [a] => dictV m a S
  | .minl, [a] => ofT ((((listV S a).bind allI).bind minI).map .int) S
  | .maxl, [a] => ofT ((((listV S a).bind allI).bind maxI).map .int) S
  | _, _ => .bad
def rng (lo hi : Int) : List Val := (List.range (hi - lo).toNat).map fun (i : Nat) => Val.t (T.int (lo + Int.ofNat i))
def rngOk (i : Int) : Bool := decide (i.natAbs < 4611686018427387904)
abbrev Wk : Type := Option (Nat × List Val)
def okW (w : Wk) (S : Store) : Prop := match w with
  | none => True
  | some (n, its) => S[n]? = some (.lst its)
noncomputable instance okW.dec (w : Wk) (S : Store) : Decidable (okW w S) := match w with
  | none => .isTrue trivial
  | some p => Classical.propDecidable _
def items (k : ItK) (vs : List Val) (S : Store) : R (List Val × Wk) := match k, vs with
  | .seq, [.t (.lst xs)] => .ok (xs.map .t, none) S
  | .seq, [.t (.tup xs)] => .ok (xs.map .t, none) S
  | .seq, [.t (.scr ns)] => .ok (ns.map fun n => .t (.int n), none) S
  | .seq, [.t (.str x)] => .ok (x.cps.toList.map fun c => .t (.str ⟨#[c]⟩), none) S
  | .seq, [.r n] => (match S[n]? with
    | some (.lst ws) => .ok (ws, some (n, ws)) S
    | _ => .bad)
  | .enum, [.t (.lst xs)] => .ok (xs.zipIdx.map fun p => .t (.tup [.int (p.2 : Nat), p.1]), none) S
  | .zip, [.t (.str x), .t (.tup ys)] => .ok ((x.cps.toList.zip ys).map fun p => .t (.tup [.str ⟨#[p.1]⟩, p.2]), none) S
  | .zip, [.t (.str x), .t (.lst ys)] => .ok ((x.cps.toList.zip ys).map fun p => .t (.tup [.str ⟨#[p.1]⟩, p.2]), none) S
  | .range, [.t (.int n)] => if rngOk n then .ok (rng 0 n, none) S else .bad
  | .range, [.t (.int a), .t (.int b)] => if rngOk a && rngOk b then .ok (rng a b, none) S else .bad
  | _, _ => .bad
def setMany (env : Env) : List Nat → List Val → Option Env
  | [], [] => some env
  | i :: is, x :: xs => setMany (env.set i (some x)) is xs
  | _, _ => none
def target (many : Bool) (tg : List Nat) (v : Val) (env : Env) (S : Store) : Option Env := match many, tg, v with
  | false, [i], v => some (env.set i (some v))
  | true, is, .t (.tup xs) => setMany env is (xs.map .t)
  | true, is, .t (.lst xs) => setMany env is (xs.map .t)
  | true, is, .r n => (match S[n]? with
    | some (.lst vs) => setMany env is vs
    | _ => none)
  | _, _, _ => none
@[simp] def tupV (vs : List Val) (S : Store) : R Val := if (allT vs).isSome then ofT ((allT vs).map .tup) S else (match buryS vs S with
  | some (xs, S1) => .ok (.t (.tup xs)) S1
  | none => .bad)
@[simp] def dispL (m : Bool) (vs : List Val) (S : Store) : R Val := if m || (allT vs).isSome then alloc m vs S else (if vs.length ≤ szLine then (match buryS vs S with
  | some (xs, S1) => .ok (.t (.lst xs)) S1
  | none => .bad) else .bad)
section
variable (tab : Tab) (call : Call)
def wipeE (env : Env) : List Nat → Env
  | [] => env
  | v :: vs => (wipeE env vs).set v none
noncomputable def compL (w : Wk) (f : Val → Store → R (Option Val)) : List Val → List Val → Store → R (List Val)
  | [], acc, S => if okW w S then .ok acc S else .bad
  | v :: vs, acc, S => if okW w S then ((f v S).nob fun o S1 => match o with
    | some y => if acc.length < szLine then compL w f vs (acc ++ [y]) S1 else .bad
    | none => compL w f vs acc S1) else .bad
theorem compL_bad {w : Wk} {f : Val → Store → R (Option Val)} {l acc : List Val} {S : Store} (h : ¬ okW w S) : compL w f l acc S = .bad := by
  cases l <;> (unfold compL; exact if_neg h)
theorem compL_nil {w : Wk} {f : Val → Store → R (Option Val)} {acc : List Val} {S : Store} (h : okW w S) : compL w f [] acc S = .ok acc S := by
  unfold compL
  exact if_pos h
theorem compL_cons {w : Wk} {f : Val → Store → R (Option Val)} {v : Val} {vs acc : List Val} {S : Store} (h : okW w S) : compL w f (v :: vs) acc S = (f v S).nob fun o S1 => match o with
    | some y => if acc.length < szLine then compL w f vs (acc ++ [y]) S1 else .bad
    | none => compL w f vs acc S1 := by
  rw [compL]
  exact if_pos h
def fldV (a : Val) (f : Nat) (S : Store) : R Val := match a with
  | .t (.ins c fs) => if fldB tab c f then ofT (fs.lookup f) S else .bad
  | .r n => (match S[n]? with
    | some (.ins c fs) => if fldB tab c f then ofO (fs.lookup f) S else .bad
    | _ => .bad)
  | _ => .bad
def insC (a : Val) (S : Store) : Option Nat := match a with
  | .t (.ins c _) => some c
  | .r n => (match S[n]? with
    | some (.ins c _) => some c
    | _ => none)
  | _ => none
def strsT : List T → Option (List Str)
  | [] => some []
  | .str x :: xs => (strsT xs).map (x :: ·)
  | _ :: _ => none
def cixV (o : Option T) (a : Val) (S : Store) : R Val := match o, a with
  | some (.tup ts), .t (.str z) => (match strsT ts with
    | some ys => (match ys.findIdx? (fun y => y == z) with
      | some j => .ok (.t (.int (j : Nat))) S
      | none => .bad)
    | none => .bad)
  | _, _ => .bad
def nodupI : List Int → Bool
  | [] => true
  | i :: is => !is.contains i && nodupI is
def lenSetV (a : Val) (S : Store) : R Val := match listV S a with
  | some vs => (match allI vs with
    | some ns => if nodupI ns && decide (ns.length ≤ 4000) then .ok (.t (.int ns.length)) S else .bad
    | none => .bad)
  | none => .bad
def optI (a : Val) (S : Store) : R (Option Int) := match a with
  | .t (.int i) => .ok (some i) S
  | _ => .bad
def ariV (m : Nat) (g : Option Nat) (S : Store) : R Nat := match g with
  | some g => if arity tab g m then .ok g S else .bad
  | none => .bad
def methV (f m : Nat) (a : Val) (S : Store) : R Nat := match a with
  | .t (.ins c fs) => if (fs.lookup f).isNone then ariV tab m ((tab.cl c).bind fun k => k.meths.lookup f) S else .bad
  | .r n => (match S[n]? with
    | some (.ins c fs) => if (fs.lookup f).isNone then ariV tab m ((tab.cl c).bind fun k => k.meths.lookup f) S else .bad
    | _ => .bad)
  | _ => .bad
def finV (frozen : Bool) (n : Nat) (S : Store) : R Val := if frozen then (match toT S (.r n) with
    | some (x, S1) => .ok (.t x) S1
    | none => .bad)
  else .ok (.r n) S
def newV (c : Nat) (vs : List Val) (S : Store) : R Val := match tab.cl c with
  | none => .bad
  | some k => (match k.init with
    | none => if vs.isEmpty then finV k.frozen S.length (S ++ [.ins c []]) else .bad
    | some f => (call f (.r S.length :: vs) (S ++ [.ins c []])).bind fun v S1 => (match v with
      | .t .non => finV k.frozen S.length S1
      | _ => .bad))
def truV (a : Val) (S : Store) : R Bool := match a with
  | .t x => ofO (truT x) S
  | .r n => (match S[n]? with
    | some (.lst vs) => .ok (!vs.isEmpty) S
    | _ => .bad)
def exAny (c : Nat) : List (Option Nat) → Option Bool
  | [] => some false
  | none :: _ => some true
  | some d :: ts => (match tab.exc c with
    | some l => if (tab.exc d).isSome then (if l.contains d then some true else exAny c ts) else none
    | none => none)
def exIsV (ts : List (Option Nat)) (o : Option (Option Val)) (S : Store) : R Val := match o with
  | some (some (.t (.exn c _)) ) => ofT ((exAny tab c ts).map .bl) S
  | _ => .bad
def mkxV (c : Nat) (vs : List Val) (S : Store) : R Val := match tab.exc c, tab.exa c, vs with
  | some _, none, [.t (.str _)] => if tab.exr c then .ok (.t (.exv c [])) S else .bad
  | some _, some (_, f), [.t (.int i)] => if i.natAbs < 100000000000000000000 then .ok (.t (.exv c [(f, .int i)])) S else .bad
  | _, _, _ => .bad
def isxV (ts : List (Option Nat)) (v : Val) (S : Store) : R Val := match v with
  | .t (.exv c _) => if (tab.exc c).isSome then ofT ((exAny tab c ts).map .bl) S else .bad
  | _ => .bad
def xvAtV (f : Nat) (v : Val) (S : Store) : R Val := match v with
  | .t (.exv c [(g, t)]) => (match tab.exa c with
    | some (_, f2) => if f = g ∧ f = f2 ∧ (tab.exc c).isSome = true then .ok (.t t) S else .bad
    | none => .bad)
  | _ => .bad
def exAtV (f : Nat) (o : Option (Option Val)) (S : Store) : R Val := match o with
  | some (some (.t (.exn _ [(g, t)])) ) => if f = g then .ok (.t t) S else .bad
  | _ => .bad
def hotV (f : Nat) (o : Option (Option Val)) (S : Store) : R Val := match o with
  | some (some (.t (.exn c fs)) ) => (call f [.t (.exn c fs)] S).nob fun v S => .ok v S
  | _ => .bad
def splitV (m : Bool) (a : Val) (vs : List Val) (S : Store) : R Val := match a, vs with
  | .t (.str x), [.t (.str y)] => if (y.length == 0) = false ∧ x.length + 2 ≤ szLine then alloc m ((Txt.split x y).map fun z => .t (.str z)) S else .bad
  | _, _ => .bad
def dgetTV (a b : Val) (S : Store) : R Val := match a, b with
  | .t (.dct kvs), .t u => (match keyT u with
    | some k => .ok (.t ((lookK kvs k).getD .non)) S
    | none => .bad)
  | _, _ => .bad
def dgetDV (a b c : Val) (S : Store) : R Val := match a, b, c with
  | .t (.dct kvs), .t u, .t w => (match keyT u with
    | some k => .ok (.t ((lookK kvs k).getD w)) S
    | none => .bad)
  | _, _, _ => .bad
def replV (a : Val) (y z : Str) (S : Store) : R Val := match a with
  | .t (.str x) => if x.length + (x.length + 1) * z.length ≤ 16777216 then .ok (.t (.str (Txt.replace x y z))) S else .bad
  | _ => .bad
def isDctV : Val → Bool
  | .t (.dct _) => true
  | _ => false
def joinV (a : Val) (vs : List Val) (S : Store) : R Val := match a, vs with
  | .t (.str x), [e] => (match (match e with
      | .t (.tup xs) => some xs
      | e => lstT S e) with
    | some xs => (match strsT xs with
      | some ys => if (ys.map (·.length)).sum + ys.length * x.length ≤ 16777216 then .ok (.t (.str (Txt.join x ys))) S else .bad
      | none => .bad)
    | none => .bad)
  | _, _ => .bad
def strB : Val → Bool
  | .t (.str _) => true
  | _ => false
def dgetV (o : Option (List (Str × T))) (a : Val) (S : Store) : R Val := match o, a with
  | some kvs, .t (.str z) => .ok (.t ((kvs.lookup z).getD .non)) S
  | _, _ => .bad
def dgetIV (o : Option (List (Str × T))) (i : Int) (a : Val) (S : Store) : R Val := match o, a with
  | some kvs, .t (.str z) => .ok (.t ((kvs.lookup z).getD (.int i))) S
  | _, _ => .bad
def tmT : TM → Str → T → Option T
  | .strip, x, .str y => if x.length ≤ szLine then some (.str (Txt.stripChars x y)) else none
  | .starts, x, .str y => some (.bl (Txt.startswith x y))
  | .ends, x, .str y => some (.bl (Txt.endswith x y))
  | .find, x, .str y => some (.int (Txt.find x y))
  | .idx, x, .str y => if 0 ≤ Txt.find x y then some (.int (Txt.find x y)) else none
  | .zfill, x, .int i => if PadOk i = true then some (.str (Txt.zfill x i)) else none
  | .part, x, .str y => if (y.length == 0) = false ∧ x.length ≤ szLine then some (.tup [.str (Txt.partition x y).1, .str (Txt.partition x y).2.1, .str (Txt.partition x y).2.2]) else none
  | _, _, _ => none
def tmV (q : TM) (a : Val) (vs : List Val) (S : Store) : R Val := match a, vs with
  | .t (.str x), [.t u] => ofT (tmT q x u) S
  | _, _ => .bad
def tcountV (a : Val) (vs : List Val) (S : Store) : R Val := match a, vs with
  | .t (.str x), [.t (.str y)] => .ok (.t (.int (Txt.count x y))) S
  | _, _ => .bad
mutual
noncomputable def dE : IE → Env → Store → R Val
  | .var i, env, S => (match env[i]? with
    | some (some v) => .ok v S
    | _ => .bad)
  | .con t, _, S => .ok (.t t) S
  | .glob g, _, S => ofT (tab.con g) S
  | .bin op a b, env, S => (dE a env S).bind fun x S => (dE b env S).bind fun y S => binV op x y S
  | .binM op a b, env, S => (dE a env S).bind fun x S => (dE b env S).bind fun y S => binL true op x y S
  | .neg a, env, S => (dE a env S).bind fun x S => (match x with
    | .t (.int i) => .ok (.t (.int (-i))) S
    | _ => .bad)
  | .cmp op a b, env, S => (dE a env S).bind fun x S => (dE b env S).bind fun y S => cmpV op x y S
  | .cmp2 o p a b c, env, S => (dE a env S).bind fun x S => (dE b env S).bind fun y S => (cmpV o x y S).bind fun z S => (truV z S).bind fun k S =>
      if k then (dE c env S).bind fun w S => cmpV p y w S else .ok (.t (.bl false)) S
  | .not a, env, S => (dE a env S).bind fun x S => (truV x S).bind fun k S => .ok (.t (.bl (!k))) S
  | .ands es, env, S => dAndE es env S
  | .ors es, env, S => dOrE es env S
  | .ife t a b, env, S => (dB t env S).bind fun k S => if k then dE a env S else dE b env S
  | .tup es, env, S => (dEs es env S).bind fun vs S => if vs.length ≤ szLine then tupV vs S else .bad
  | .lst m es, env, S => (dEs es env S).bind fun vs S => dispL m vs S
  | .sub a i, env, S => (dE a env S).bind fun x S => (dE i env S).bind fun y S => subV x y S
  | .slc m a lo hi, env, S => (dE a env S).bind fun x S => (if isNo lo then .ok none S else (dE lo env S).bind fun y S => optI y S).bind fun l S => (if isNo hi then .ok none S else (dE hi env S).bind fun y S => optI y S).bind fun h S => slcV m x l h S
  | .rev m a, env, S => (dE a env S).bind fun x S => revV m x S
  | .fld o f, env, S => (dE o env S).bind fun x S => fldV tab x f S
  | .new c es, env, S => (dEs es env S).bind fun vs S => newV tab call c vs S
  | .meth o f es, env, S => (dE o env S).bind fun x S => (methV tab f (es.len + 1) x S).bind fun g S => (dEs es env S).bind fun vs S => call g (x :: vs) S
  | .bm b _ o es, env, S => (dE o env S).bind fun x S => if cellB x S then (dEs es env S).bind fun vs S => bmV b x vs S else .bad
  | .call f es, env, S => (dEs es env S).bind fun vs S => call f vs S
  | .cix g e, env, S => (dE e env S).bind fun x S => cixV (tab.con g) x S
  | .inRg neg a b, env, S => (dE a env S).bind fun x S => (dE b env S).bind fun y S => inRgV neg x y S
  | .split m a es, env, S => (dE a env S).bind fun x S => if strB x then (dEs es env S).bind fun vs S => splitV m x vs S else .bad
  | .dgetT o e, env, S => (dE o env S).bind fun x S => if isDctV x then (dE e env S).bind fun y S => dgetTV x y S else .bad
  | .dgetD o e d, env, S => (dE o env S).bind fun x S => if isDctV x then (dE e env S).bind fun y S => (dE d env S).bind fun z S => dgetDV x y z S else .bad
  | .mkx c es, env, S => (dEs es env S).bind fun vs S => mkxV tab c vs S
  | .isx e ts, env, S => (dE e env S).bind fun v S => isxV tab ts v S
  | .exvAt e f, env, S => (dE e env S).bind fun v S => xvAtV tab f v S
  | .repl a y z, env, S => (dE a env S).bind fun x S => replV x y z S
  | .fnv g, _, S => .ok (.t (.fn g)) S
  | .callV a gs es, env, S => (dE a env S).bind fun x S => (match x with
    | .t (.fn g) => if gs.contains g && arity tab g es.len then (dEs es env S).bind fun vs S => call g vs S else .bad
    | _ => .bad)
  | .join a es, env, S => (dE a env S).bind fun x S => if strB x then (dEs es env S).bind fun vs S => joinV x vs S else .bad
  | .dget g e, env, S => (dE e env S).bind fun x S => dgetV (tab.dc g) x S
  | .dgetI g e i, env, S => (dE e env S).bind fun x S => dgetIV (tab.dc g) i x S
  | .tcount a es, env, S => (dE a env S).bind fun x S => if strB x then (dEs es env S).bind fun vs S => tcountV x vs S else .bad
  | .tm q a es, env, S => (dE a env S).bind fun x S => if strB x then (dEs es env S).bind fun vs S => tmV q x vs S else .bad
  | .lenSet e, env, S => (dE e env S).bind fun x S => lenSetV x S
  | .listRg e, env, S => (dE e env S).bind fun x S => (match x with
    | .t (.int n) => if 0 ≤ n ∧ n ≤ 16777216 then alloc false (rng 0 n) S else .bad
    | _ => .bad)
  | .dct0, _, S => .ok (.t (.dct [])) S
  | .dct1 k v, _, S => .ok (.t (.dct [(.inl k, .int v)])) S
  | .dctD m ks es, env, S => (dEs es env S).nob fun vs S => dctV m ks vs S
  | .upd o e, env, S => (dE o env S).bind fun x S => if dctB x S then (dE e env S).bind fun y S => updV x y S else .bad
  | .blt b m es, env, S => (dEs es env S).bind fun vs S => bltV b m vs S
  | .sumV e, env, S => (dE e env S).bind fun x S => sumVV x S
  | .dctZ m a b, env, S => (dE a env S).bind fun x S => (dE b env S).bind fun y S => dctZV m x y S
  | .eqD neg a b, env, S => (dE a env S).bind fun x S => (dE b env S).bind fun y S => eqDV neg x y S
  | .isi e _ ts, env, S => (dE e env S).bind fun x S => isiV tab ts x S
  | .exIs i _ ts, env, S => exIsV tab ts env[i]? S
  | .hot f i, env, S => hotV call f env[i]? S
  | .exAt i f, env, S => exAtV f env[i]? S
  | .comp m k src many tg ifs elt, env, S => (dEs src env S).bind fun vs S => (items k vs S).bind fun its S =>
      (compL its.2 (fun v S => match target many tg v (wipeE env tg) S with
        | some env2 => (dAnd ifs env2 S).bind fun k S => if k then (dE elt env2 S).bind fun y S => .ok (some y) S else .ok none S
        | none => .bad) its.1 [] S).bind fun ys S => alloc m ys S
noncomputable def dEs : IEs → Env → Store → R (List Val)
  | .nil, _, S => .ok [] S
  | .cons e es, env, S => (dE e env S).bind fun v S => (dEs es env S).bind fun vs S => .ok (v :: vs) S
/-- and, or as values: truths -/
noncomputable def dAndE : IEs → Env → Store → R Val
  | .nil, _, _ => .bad
  | .cons e .nil, env, S => dE e env S
  | .cons e (.cons f fs), env, S => (dE e env S).bind fun v S => (truV v S).bind fun k S => if k then dAndE (.cons f fs) env S else .ok v S
noncomputable def dOrE : IEs → Env → Store → R Val
  | .nil, _, _ => .bad
  | .cons e .nil, env, S => dE e env S
  | .cons e (.cons f fs), env, S => (dE e env S).bind fun v S => (truV v S).bind fun k S => if k then .ok v S else dOrE (.cons f fs) env S
/-- a test -/
noncomputable def dB : IC → Env → Store → R Bool
  | .val e, env, S => (dE e env S).bind fun v S => truV v S
  | .not a, env, S => (dB a env S).bind fun k S => .ok (!k) S
  | .ands cs, env, S => dAnd cs env S
  | .ors cs, env, S => dOr cs env S
noncomputable def dAnd : ICs → Env → Store → R Bool
  | .nil, _, S => .ok true S
  | .cons c cs, env, S => (dB c env S).bind fun k S => if k then dAnd cs env S else .ok false S
noncomputable def dOr : ICs → Env → Store → R Bool
  | .nil, _, S => .ok false S
  | .cons c cs, env, S => (dB c env S).bind fun k S => if k then .ok true S else dOr cs env S
end
inductive RS where
  | nx (env : Env) (S : Store) | rt (v : Val) (S : Store) | bk (env : Env) (S : Store) | ct (env : Env) (S : Store)
  | ex (x : Exn) (env : Env) (S : Store) | bad
def R.st {α : Type} (m : R α) (env : Env) (k : α → Store → RS) : RS := match m with
  | .ok a S => k a S
  | .ex x S => .ex x env S
  | .bad => .bad
@[simp] theorem R.st_ok {α : Type} (a : α) (S : Store) (env : Env) (k : α → Store → RS) : (R.ok a S).st env k = k a S := rfl
@[simp] theorem R.st_ex {α : Type} (x : Exn) (S : Store) (env : Env) (k : α → Store → RS) : (R.ex x S : R α).st env k = .ex x env S := rfl
@[simp] theorem R.st_bad {α : Type} (env : Env) (k : α → Store → RS) : (R.bad : R α).st env k = .bad := rfl
def RS.seq (m : RS) (k : Env → Store → RS) : RS := match m with
  | .nx env S => k env S
  | m => m
noncomputable def forL (w : Wk) (many : Bool) (tg : List Nat) (body : Env → Store → RS) : List Val → Env → Store → RS
  | [], env, S => if okW w S then .nx env S else .bad
  | v :: vs, env, S => if okW w S then (match target many tg v env S with
    | none => .bad
    | some env1 => match body env1 S with
      | .nx env2 S2 => forL w many tg body vs env2 S2
      | .ct env2 S2 => forL w many tg body vs env2 S2
      | .bk env2 S2 => .nx env2 S2
      | m => m) else .bad
theorem forL_bad {w : Wk} {many : Bool} {tg : List Nat} {body : Env → Store → RS} {l : List Val} {env : Env} {S : Store} (h : ¬ okW w S) : forL w many tg body l env S = .bad := by
  cases l <;> (unfold forL; exact if_neg h)
theorem forL_nil {w : Wk} {many : Bool} {tg : List Nat} {body : Env → Store → RS} {env : Env} {S : Store} (h : okW w S) : forL w many tg body [] env S = .nx env S := by
  unfold forL
  exact if_pos h
theorem forL_cons {w : Wk} {many : Bool} {tg : List Nat} {body : Env → Store → RS} {v : Val} {vs : List Val} {env : Env} {S : Store} (h : okW w S) : forL w many tg body (v :: vs) env S = (match target many tg v env S with
    | none => .bad
    | some env1 => match body env1 S with
      | .nx env2 S2 => forL w many tg body vs env2 S2
      | .ct env2 S2 => forL w many tg body vs env2 S2
      | .bk env2 S2 => .nx env2 S2
      | m => m) := by
  rw [forL]
  exact if_pos h
def excIn (tab : Tab) (c : Nat) : List Nat → Option Bool
  | [] => some false
  | d :: ds => (match tab.exc c with
    | some l => if (tab.exc d).isSome then (excIn tab c ds).map fun b => l.contains d || b else none
    | none => none)
def RS.gone (i : Nat) : RS → RS
  | .nx env S => .nx (env.set i none) S
  | .bk env S => .bk (env.set i none) S
  | .ct env S => .ct (env.set i none) S
  | .rt v S => .rt v S
  | .ex _ _ _ => .bad
  | .bad => .bad
def RS.noex : RS → RS
  | .ex _ _ _ => .bad
  | m => m
def whileL (t : Env → Store → R Bool) (body : Env → Store → RS) : Nat → Env → Store → RS
  | 0, _, _ => .bad
  | n + 1, env, S => (t env S).st env fun k S => if k then (match body env S with
      | .nx env2 S2 => whileL t body n env2 S2
      | .ct env2 S2 => whileL t body n env2 S2
      | .bk env2 S2 => .nx env2 S2
      | m => m) else .nx env S
def setTFs (tab : Tab) : List Nat → List Nat → List Val → Env → Store → Option Store
  | [], [], [], _, S => some S
  | i :: is, f :: fs, v :: vs, env, S => (match env[i]? with
    | some (some x) => (setFV tab x f v S).bind fun S1 => setTFs tab is fs vs env S1
    | _ => none)
  | _, _, _, _, _ => none
mutual
noncomputable def dS : IS → Env → Store → RS
  | .pass, env, S => .nx env S
  | .expr e, env, S => (dE tab call e env S).st env fun _ S => .nx env S
  | .set i e, env, S => (dE tab call e env S).st env fun v S => .nx (env.set i (some v)) S
  | .setT is e, env, S => (dE tab call e env S).st env fun v S => (match target true is v env S with
    | some env2 => .nx env2 S
    | none => .bad)
  | .setM is es, env, S => (dEs tab call es env S).st env fun vs S => (match setMany env is vs with
    | some env2 => .nx env2 S
    | none => .bad)
  | .setF o f e, env, S => (dE tab call e env S).st env fun v S => (dE tab call o env S).st env fun x S => (match setFV tab x f v S with
    | some S1 => .nx env S1
    | none => .bad)
  | .setS o i e, env, S => (dE tab call e env S).st env fun v S => (dE tab call o env S).st env fun x S => (dE tab call i env S).st env fun y S => (match setSV x y v S with
    | some S1 => .nx env S1
    | none => .bad)
  | .setL o lo hi e, env, S => (dE tab call e env S).st env fun v S => (dE tab call o env S).st env fun x S => (dE tab call lo env S).st env fun y S => (dE tab call hi env S).st env fun z S => (match setLV x y z v S with
    | some S1 => .nx env S1
    | none => .bad)
  | .augF o f op e, env, S => (dE tab call o env S).st env fun x S => (fldV tab x f S).st env fun z S => (dE tab call e env S).st env fun y S3 => (binA op z y S3).st env fun v S3 => if insC x S == insC x S3 then (match setFV tab x f v S3 with
    | some S1 => .nx env S1
    | none => .bad) else .bad
  | .aug i op e, env, S => (match env[i]? with
    | some (some x) => (dE tab call e env S).st env fun y S => (binA op x y S).st env fun z S => .nx (env.set i (some z)) S
    | _ => .bad)
  | .augS o i op e, env, S => (dE tab call o env S).st env fun x S => (dE tab call i env S).st env fun y S => if dctB x S then (subV x y S).st env fun z S => (dE tab call e env S).st env fun w S3 => (binA op z w S3).st env fun v S3 => if dctB x S3 then (match setSV x y v S3 with
    | some S1 => .nx env S1
    | none => .bad) else .bad else .bad
  | .setTF is fs e, env, S => (dE tab call e env S).st env fun v S => (match v with
    | .t (.tup xs) => (match setTFs tab is fs (xs.map .t) env S with
      | some S1 => .nx env S1
      | none => .bad)
    | _ => .bad)
  | .never, _, _ => .bad
  | .ife t a b, env, S => (dB tab call t env S).st env fun k S => if k then dSs a env S else dSs b env S
  | .for_ k src many tg body, env, S => (dEs tab call src env S).st env fun vs S => (items k vs S).st env fun its S =>
      forL its.2 many tg (fun env S => dSs body env S) its.1 env S
  | .while_ n t body, env, S => whileL (fun env S => dB tab call t env S) (fun env S => dSs body env S) n env S
  | .ret e, env, S => (dE tab call e env S).st env fun v S => .rt v S
  | .retN, _, S => .rt (.t .non) S
  | .raise c _, env, S => if (tab.exc c).isSome && tab.exr c then .ex ⟨c, []⟩ env S else .bad
  | .raiseA c e, env, S => (dE tab call e env S).st env fun v S1 => (match tab.exa c, v with
    | some (_, f), .t (.int i) => if (tab.exc c).isSome = true ∧ i.natAbs < 100000000000000000000 then .ex ⟨c, [(f, .int i)]⟩ env S1 else .bad
    | _, _ => .bad)
  | .cont, env, S => .ct env S
  | .brk, env, S => .bk env S
  | .try3 b d1 d2 d3 su, env, S => (match dSs b env S with
    | .ex x env1 S1 => (match excIn tab x.c [d1, d2, d3] with
      | some true => (dSs su env1 S1).noex
      | some false => .ex x env1 S1
      | none => .bad)
    | m => m)
  | .try_ b cs nm su, env, S => (match dSs b env S with
    | .ex x env1 S1 => (match excIn tab x.c cs with
      | some true => (match nm with
        | some i => (dSs su (env1.set i (some (.t (.exn x.c x.fs)))) S1).gone i
        | none => (dSs su env1 S1).noex)
      | some false => .ex x env1 S1
      | none => .bad)
    | m => m)
noncomputable def dSs : ISs → Env → Store → RS
  | .nil, env, S => .nx env S
  | .cons s ss, env, S => (dS s env S).seq fun env S => dSs ss env S
end
noncomputable def runFn (d : Fn) (vs : List Val) (S : Store) : R Val :=
  if vs.length = d.np then
    if d.pure then
      match allT vs with
      | none => .bad
      | some _ => (match dSs tab call d.body (vs.map some ++ List.replicate (d.ns - d.np) none) [] with
        | .nx _ _ => .ok (.t .non) S
        | .rt v S1 => (match toT S1 v with
          | some (x, _) => .ok (.t x) S
          | none => .bad)
        | .ex x _ _ => .ex x S
        | _ => .bad)
    else
      match dSs tab call d.body (vs.map some ++ List.replicate (d.ns - d.np) none) S with
      | .nx _ S1 => .ok (.t .non) S1
      | .rt v S1 => .ok v S1
      | .ex x _ S1 => .ex x S1
      | _ => .bad
  else .bad
end
noncomputable def callF (tab : Tab) : Nat → Call
  | 0, _, _, _ => .bad
  | n + 1, f, vs, S => match tab.fn f with
    | none => .bad
    | some d => runFn tab (callF tab n) d (vs ++ (d.dfl.drop (d.dfl.length - (d.np - vs.length))).map .t) S
end Rw
namespace Rw
open PySem PySem.Spec PyProof.Rows L2
def tSumVals (td : TE) : TE := fun σ H Q => td σ H fun x H1 => ∃ (a : Addr) (kvs : List (Key × V)) (is : List Int), x = V.ref a ∧ H1 a = some (.dK kvs) ∧ kvs.map (·.2) = is.map V.int ∧ Q (.int is.sum) H1
section
variable {X : Cx} {o : Expr} {p pos apos mpos : Pos} {td : TE}
theorem pe_sumVals (hc : X.calm = true) (hg : Gl X "sum") (hm : X.mg "sum" = none) (hd : PE X o td) (hbase : attributeBase o "values" X.env (eval o X.env) = eval o X.env) (hline : (apos.endLine == mpos.line) = true) :
    PE X (.Call (.Name "sum" p) [.Call (.Attribute o "values" apos) [] [] mpos] [] pos) (tSumVals td) := by
  refine ⟨fun pins s σ H Q I h => ?_⟩
  refine wpAny_Call_Name_kw (ld_blt I hg hm (u := .builtin "sum") (by first | rfl | decide +kernel) ?_ (by first | decide +kernel | decide) (by first | decide +kernel | decide))
  rw [show starEach [Expr.Call (.Attribute o "values" apos) [] [] mpos] X.env = [(false, eval (Expr.Call (.Attribute o "values" apos) [] [] mpos) X.env)] from rfl]
  refine PySem.callWith_builtin1 (wpAny_Call_method0_late hbase hline (thn (hd.run pins s σ H _ I h) fun v s1 ⟨x, H1, I1, r1, a, kvs, is, ex, ha, hv, q⟩ => ?_))
  subst ex
  obtain rfl : v = Value.ref a := r1
  obtain ⟨_, hsys, vs, rel, dof⟩ := dk_of I1.hok ha
  obtain ⟨ep, dat⟩ := dof.dictAt
  have dat' := dat
  obtain ⟨ob, es, ho, ex, hdat, hko, hpr, hnd⟩ := dat'
  refine ⟨"dict", "dict.values", F.plainAttrs_dict, F.slot_dict_values, F.type_dict_values, ⟨ob, ho, ex.1⟩, fun b e => ?_, Calls.callWith_builtin rfl (PySem.evalArgs_none ?_)⟩
  · cases e
    exact ⟨ob, ho, ex.2.1⟩
  refine call_meetsIn F.slot_dict_values ⟨ob, ho, ex.1⟩ F.entry_dict_values (F.args_dict_values_1 _) (meets_dict_values (mixKind X.prog X.w) a hsys) ⟨⟨vs, dof⟩, ?_⟩
  have k1 : ∀ b u, s1.heap.get? b = some u → (s1.heap.push { cls := .type "dict_values", data := .fields #[.ref a] }).get? b = some u := fun b u e => Heap.get?_push_of_some _ e
  have dat1 : (s1.heap.push { cls := .type "dict_values", data := .fields #[.ref a] }).DictAt (mixKind X.prog X.w) a vs ep := dat.keep k1
  have hlv : vs.length = is.length := by
    have e1 := congrArg List.length hv
    rw [List.length_map, List.length_map] at e1
    rw [← e1]
    exact (KV.length rel).symm
  have hval : ∀ (i : Nat) (v : Value), (∃ k, vs[i]? = some (k, v)) → ∃ t, v = Value.int (is.getD i 0) t := fun i v ⟨k, hk⟩ => by
    obtain ⟨x, h1, h2⟩ := KV.at' rel hk
    have e1 : (kvs.map (·.2))[i]? = some x := by rw [List.getElem?_map, h1] <;> rfl
    rw [hv, List.getElem?_map] at e1
    obtain ⟨j, hj, e2⟩ := Option.map_eq_some_iff.mp e1
    subst e2
    obtain ⟨t, e3⟩ := h2
    refine ⟨t, ?_⟩
    rw [e3, List.getD_eq_getElem?_getD, hj] <;> rfl
  refine call_sum_walkG (wpAny_pyIter_values (v := s1.heap.objs.size) (d := a) ⟨_, Heap.get?_push_size _ rfl, rfl, rfl⟩ dat1 ?_)
  have hlt : a < s1.heap.objs.size := Heap.lt_size ho
  have hsz : (s1.heap.push { cls := .type "dict_values", data := .fields #[.ref a] }).objs.size = s1.heap.objs.size + 1 := Heap.size_push _ _
  refine ⟨_, _, _, _, _, _, fun i => is.getD i 0, rfl, Walks.dictValues (knd := mixKind X.prog X.w) (A := X.A.in1) (I.ok.hd hc) (s1.heap.push { cls := .type "dict_values", data := .fields #[.ref a] }).objs.size a (by rw [hsz]; exact Nat.ne_of_lt (Nat.lt_succ_of_lt hlt)) vs ep,
    ⟨⟨_, Heap.get?_push_size _ rfl, rfl, rfl⟩, dat1.keep fun b u e => Heap.get?_push_of_some _ e⟩, fun b hb => ?_, hval, fun h' tk t' hk => ?_⟩
  · show b < ((s1.heap.push _).push _).objs.size
    rw [Heap.size_push, Heap.size_push]
    rw [hsz] at hb
    rcases List.mem_cons.mp hb with e | hb
    · rw [e]
      exact Nat.lt_succ_self _
    · have e : b = a := List.mem_singleton.mp hb
      rw [e]
      exact Nat.lt_succ_of_lt (Nat.lt_succ_of_lt hlt)
  · have es : preSum (fun i => is.getD i 0) vs.length = is.sum := by
      rw [preSum_getD, List.take_of_length_le (by omega)]
    rw [es]
    refine ⟨.int _, H1, I1.kept (t' := tk) fun b u e => hk b u (fun hmem => ?_) (Heap.get?_push_of_some _ (k1 b u e)), ⟨t', rfl⟩, q⟩
    have e1 : b = (s1.heap.push { cls := .type "dict_values", data := .fields #[.ref a] }).objs.size := List.mem_singleton.mp hmem
    have e2 := Heap.lt_size e
    rw [hsz] at e1
    rw [e1] at e2
    exact absurd e2 (Nat.not_lt.mpr (Nat.le_succ _))
end
theorem tuple_mul1 (l : Addr) (items : Array Value) (n : Nat) (dd : Option Addr) (sl : Array (Option Value)) (u : Tok) :
    Meets (Builtin.«tuple.__mul__» ⟨[.ref l, .int 1 u], []⟩) (fun _ R s => s.heap.get? l = some { cls := .type "tuple", dict := dd, data := .seq items n, slots := sl } ∧ R (.ok (.ret (Value.ref l))) s) :=
  .of_wp fun prog w A R s h => by
    obtain ⟨hp, g, d, tk, os⟩ := s
    obtain ⟨hl, h⟩ := h
    have f1 := AutoSeq1.idx_int
    have c0 : (decide ((1 : Int) < -(2 ^ 63)) || decide ((1 : Int) ≥ 2 ^ 63)) = false := by decide
    have c1 : (items.isEmpty || (1 : Int) == 1) = true := by rw [show ((1 : Int) == 1) = true from rfl, Bool.or_true]
    wp_walk using wpAny_loadPart' hl
    repeat (first
      | (refine wpAny_ite_false (decide_eq_false (by rw [c0]; exact Bool.false_ne_true)) ?_; wp_walk using wpAny_loadPart' hl)
      | (refine wpAny_ite_true (by rw [c1]; exact decide_eq_true rfl) ?_; wp_walk using wpAny_loadPart' hl))
    exact ⟨_, rfl, h⟩
theorem op_repT1 {X : Cx} : OpR X (binaryOp .Mult) (fun x y H Q => ∃ l xs, x = .ref l ∧ y = .int 1 ∧ SqT X.K H l xs ∧ Q (.ref l) H) := by
  intro pins s σ H x y v u Q I rx ry h
  obtain ⟨l, xs, rfl, rfl, hT, q⟩ := h
  cases rx
  obtain ⟨t, rfl⟩ := ry
  obtain ⟨its, r, ⟨⟨cls, dd, data, sl⟩, ho, hc, n, hd⟩, hs⟩ := I.tuple hT
  simp only at hc hd
  subst hc hd
  refine wpAny_binaryOp_repeat_ref (T := "tuple") (U := "int") (by decide) ⟨_, ho, rfl⟩ (fun s' => typeIs_int s' 1 t) noFill_tuple_mul F.fills_int_mul F.slot_int_rmul repeat_tuple F.slot_int_index.lookup
    (call_meets F.slot_int_rmul (typeIs_int s 1 t) F.entry_int_rmul (F.args_int_rmul_2 _ _) (int_rmul_tuple 1 t l its.toArray n dd sl)
      ⟨ho, rfl, ⟨_, ho, rfl⟩, call_meets F.slot_tuple_mul ⟨_, ho, rfl⟩ F.entry_tuple_mul (F.args_tuple_mul_2 _ _) (tuple_mul1 l its.toArray n dd sl t) ⟨ho, ?_⟩⟩)
  exact ⟨.ref l, H, I, rfl, q⟩
end Rw
namespace Rw
open PySem PySem.Spec PyProof.Rows L2
def ItzS (K : PySem.W.Frag) (x : Str) (b : Addr) : It :=
  ⟨fun i H => ∃ (ys : List V) (y : V) (c : Nat), SqT K H b ys ∧ x.cps[i]? = some c ∧ ys[i]? = some y,
    fun i H v H' => ∃ T y c, v = .ref T ∧ H T = none ∧ H' = upd H T (.tup [.str ⟨#[c]⟩, y]) ∧ x.cps[i]? = some c ∧ ∀ ys, SqT K H b ys → ys[i]? = some y,
    fun i H => ∃ ys : List V, SqT K H b ys ∧ i ≤ x.cps.size ∧ i ≤ ys.length ∧ (i = x.cps.size ∨ i = ys.length)⟩
def StS (z TI TO i1 i2 : Addr) (x : Str) (t : Tok) (b : Addr) (i : Nat) (h : Heap) : Prop := IsZip h z TI TO .none ∧ IsTupOf2 h TI (.ref i1) (.ref i2) ∧ (∃ x y, IsTupOf2 h TO x y) ∧ h.IsStrIter i1 (strIterType x) x t i ∧ h.IsTupleIter i2 b i
theorem five {p : Addr → Prop} {z TI TO i1 i2 c : Addr} (h : c ∈ [z, TI, TO, i1, i2]) (h1 : p z) (h2 : p TI) (h3 : p TO) (h4 : p i1) (h5 : p i2) : p c := by
  have e : c = z ∨ c = TI ∨ c = TO ∨ c = i1 ∨ c = i2 := by simpa using h
  rcases e with q | q | q | q | q <;> (rw [q]; assumption)
theorem IsStrIter.at {h h' : Heap} {a : Addr} {ty : String} {x : Str} {t : Tok} {i : Nat} (y : h.IsStrIter a ty x t i) (e : ∀ o, h.get? a = some o → h'.get? a = some o) : h'.IsStrIter a ty x t i := let ⟨o, ho, r⟩ := y; ⟨o, e o ho, r⟩
theorem turn_zipS {P : Program} {w : World} {K : PySem.W.Frag} {elts : List Expr} {kk : Nat} {tpos : Pos} {b z TI TO i1 i2 : Addr} {x : Str} {t : Tok} (D : ZipSep2 z TI TO i1 i2 [i1] [i2, b]) (hb : b ≠ i2) :
    Turn P w K (.Tuple elts kk tpos) (ItzS K x b) [z, TI, TO, i1, i2] z (StS z TI TO i1 i2 x t b) where
  mem := by simp
  obj := fun i h st c hc => by
    obtain ⟨hz, hTI, ⟨x, y, hTO⟩, ⟨o1, e1, _, d1⟩, ⟨o2, e2, _, d2⟩⟩ := st
    exact five (p := fun c => ∃ o, h.get? c = some o ∧ ∀ v, o.data ≠ .cell v) hc ⟨_, hz, fun v q => nomatch q⟩ ⟨_, hTI, fun v q => nomatch q⟩ ⟨_, hTO, fun v q => nomatch q⟩ ⟨o1, e1, fun v q => by rw [d1] at q; cases q⟩ ⟨o2, e2, fun v q => by rw [d2] at q; cases q⟩
  keep := fun i h h' st k => by
    obtain ⟨hz, hTI, ⟨x, y, hTO⟩, h1, h2⟩ := st
    exact ⟨k z (by simp) _ hz, k TI (by simp) _ hTI, ⟨x, y, k TO (by simp) _ hTO⟩, IsStrIter.at h1 fun o q => k i1 (by simp) o q, h2.at fun o q => k i2 (by simp) o q⟩
  item := by
    intro X hP hw hK hc i pins s σ H E I hf st hg
    subst hP hw hK
    obtain ⟨hz, hTI, ⟨x0, y0, hTO⟩, h1, h2⟩ := st
    obtain ⟨ys, y, c, hqy, hx, hy⟩ := hg
    obtain ⟨its, rv, p, _⟩ := I.tuple hqy
    obtain ⟨u2, hu2, ru2⟩ := rv.get hy
    have hzl : z < s.heap.objs.size := Heap.lt_size hz
    have l1 : i < x.cps.size := (Array.getElem?_eq_some_iff.mp hx).1
    have l2 : i < its.toArray.size := by
      have := (List.getElem?_eq_some_iff.mp hu2).1
      simpa using this
    have hh : X.A.in1.handled = none := I.ok.hd hc
    refine wpAny_pyNext_zipD2_item D (Draws.text hh i1 x t) (Draws.tuple hh i2 b hb its.toArray) hz hTI hTO h1 ⟨h2, p⟩ l1 l2 fun x1 x2 h' tk e1 e2 z' TO' h1' h2' hT hsz hk => ?_
    obtain ⟨c', u, ec, rfl⟩ := e1
    rw [hx] at ec
    cases ec
    have e2 : its[i]? = some x2 := by simpa using e2
    rw [hu2] at e2
    cases e2
    refine ⟨_, rfl, wpAny_letOwnedTupleGo_zip (s := { s with heap := h', toks := tk }) z' fun h'' z'' sb => ?_⟩
    have hT2 : h''.get? s.heap.objs.size = some { cls := .type "tuple", data := .seq #[.str ⟨#[c]⟩ u, u2] } := (sb.2 _ (Nat.ne_of_gt hzl)).trans hT
    have new : ObjOk X.prog X.w (upd H s.heap.objs.size (.tup [.str ⟨#[c]⟩, y])) h'' s.heap.objs.size (.tup [.str ⟨#[c]⟩, y]) :=
      ⟨by show 2 ≤ sizeLine; decide, [.str ⟨#[c]⟩ u, u2], .cons ⟨u, rfl⟩ (.cons ru2 .nil), ⟨_, hT2, rfl, _, rfl⟩⟩
    have I1 : Inv X pins σ (upd H s.heap.objs.size (.tup [.str ⟨#[c]⟩, y])) { s with heap := h'', toks := tk } :=
      I.turnedNew (t' := tk) (ch := [z, TI, TO, i1, i2]) (fun c o hb q => (sb.2 c (fun q' => hb (by simp [q']))).trans (hk c o (fun q' => hb (by simp [q'])) (fun q' => hb (by simp [q'])) (fun q' => hb (by simp [q'])) (fun q' => hb (by simp [q'])) q)) hf (Nat.le_refl _) new
    refine ⟨.ref s.heap.objs.size, _, I1, rfl, ⟨_, y, c, rfl, I.hok.fresh (Nat.le_refl _), rfl, hx, fun l hl => by rw [I.tuple_inj hl hqy]; exact hy⟩, ⟨z'', ?_, ⟨.str ⟨#[c]⟩ u, u2, ?_⟩, ?_, ?_⟩, fun c hcm => ?_⟩
    · exact (sb.2 _ D.TIz).trans (hk _ _ D.TIz D.TITO D.TIi1 D.TIi2 hTI)
    · exact (sb.2 _ D.TOz).trans TO'
    · exact IsStrIter.at h1' fun o q => (sb.2 _ D.zi1.symm).trans q
    · exact h2'.1.at fun o q => (sb.2 _ D.zi2.symm).trans q
    · have hlt : c < s.heap.objs.size := five (p := fun c => c < s.heap.objs.size) hcm hzl (Heap.lt_size hTI) (Heap.lt_size hTO) (let ⟨_, e, _⟩ := h1; Heap.lt_size e) (let ⟨_, e, _⟩ := h2; Heap.lt_size e)
      rw [upd_ne (Nat.ne_of_lt hlt)]
      exact (hf c hcm).1
  done := by
    intro X hP hw hK hc i pins s σ H E I hf st hg
    subst hP hw hK
    obtain ⟨hz, hTI, ⟨x0, y0, hTO⟩, h1, h2⟩ := st
    obtain ⟨ys, hqy, b1, b2, hend⟩ := hg
    obtain ⟨its, rv, p, _⟩ := I.tuple hqy
    have l2 : its.toArray.size = ys.length := by rw [List.size_toArray]; exact rv.length.symm
    have hh : X.A.in1.handled = none := I.ok.hd hc
    exact wpAny_pyNext_zipD2_end D (Draws.text hh i1 x t) (Draws.tuple hh i2 b hb its.toArray) hz hTI hTO h1 ⟨h2, p⟩ b1 (by rw [l2]; exact b2) (by rw [l2]; exact hend) fun h' tk hk => ⟨rfl, I.turnedL (t' := tk) (ch := [z, TI, TO, i1, i2]) (fun c o hb q =>
      hk c o (fun q' => hb (by simp [q'])) (fun q' => hb (by simp [q'])) (fun q' => hb (by simp [q'])) (fun q' => hb (by simp [q'])) q) hf⟩
  self := fun A i s Q E st h => wpAny_pyIter_zip st.1 h
theorem sepS (I b : Nat) (h : b < I) : ZipSep2 (I + 4) (I + 2) (I + 3) I (I + 1) [I] [I + 1, b] ∧ b ≠ I + 1 := by
  have mem : ∀ (x : Nat) (l : List Nat), (∀ y ∈ l, x ≠ y) → x ∉ l := fun x l h m => h x m rfl
  have e1 : ∀ x y : Nat, x ≠ y → ∀ z ∈ [y], x ≠ z := fun x y h z m => by rw [List.mem_singleton] at m; exact m ▸ h
  have e2 : ∀ x y w : Nat, x ≠ y → x ≠ w → ∀ z ∈ [y, w], x ≠ z := fun x y w h h' z m => by
    rcases List.mem_cons.mp m with r | m
    · exact r ▸ h
    · exact e1 x w h' z m
  have a1 : I + 2 ≠ I + 4 := by omega
  have a2 : I + 3 ≠ I + 4 := by omega
  have a3 : I + 2 ≠ I + 3 := by omega
  have a4 : I + 2 ≠ I := by omega
  have a5 : I + 4 ≠ I := by omega
  have a6 : I + 3 ≠ I := by omega
  have a7 : I + 2 ≠ I + 1 := by omega
  have a8 : I + 4 ≠ I + 1 := by omega
  have a9 : I + 4 ≠ b := by omega
  have b1 : I + 3 ≠ I + 1 := by omega
  have b2 : I + 3 ≠ b := by omega
  have b3 : I ≠ I + 1 := by omega
  have b4 : I ≠ b := by omega
  have b5 : b ≠ I + 1 := by omega
  exact ⟨⟨a1, a2, a3, a4, List.mem_singleton.mpr rfl, mem _ _ (e1 _ _ a5), mem _ _ (e1 _ _ a6), a7, List.mem_cons_self, mem _ _ (e2 _ _ _ a8 a9), mem _ _ (e2 _ _ _ b1 b2), mem _ _ (e2 _ _ _ b3 b4), mem _ _ (e1 _ _ b3.symm)⟩, b5⟩
end Rw
namespace Rw
open PySem PySem.Spec PyProof.Rows L2
def ItzL (K : PySem.W.Frag) (x : Str) (b : Addr) : It :=
  ⟨fun i H => ∃ (ys : List V) (y : V) (c : Nat), SqL K H b ys ∧ x.cps[i]? = some c ∧ ys[i]? = some y,
    fun i H v H' => ∃ T y c, v = .ref T ∧ H T = none ∧ H' = upd H T (.tup [.str ⟨#[c]⟩, y]) ∧ x.cps[i]? = some c ∧ ∀ ys, SqL K H b ys → ys[i]? = some y,
    fun i H => ∃ ys : List V, SqL K H b ys ∧ i ≤ x.cps.size ∧ i ≤ ys.length ∧ (i = x.cps.size ∨ i = ys.length)⟩
def StL (z TI TO i1 i2 : Addr) (x : Str) (t : Tok) (b : Addr) (i : Nat) (h : Heap) : Prop := IsZip h z TI TO .none ∧ IsTupOf2 h TI (.ref i1) (.ref i2) ∧ (∃ x y, IsTupOf2 h TO x y) ∧ h.IsStrIter i1 (strIterType x) x t i ∧ h.IsListIter i2 b i
theorem turn_zipL {P : Program} {w : World} {K : PySem.W.Frag} {elts : List Expr} {kk : Nat} {tpos : Pos} {b z TI TO i1 i2 : Addr} {x : Str} {t : Tok} (D : ZipSep2 z TI TO i1 i2 [i1] [i2, b]) (hb : b ≠ i2) :
    Turn P w K (.Tuple elts kk tpos) (ItzL K x b) [z, TI, TO, i1, i2] z (StL z TI TO i1 i2 x t b) where
  mem := by simp
  obj := fun i h st c hc => by
    obtain ⟨hz, hTI, ⟨x, y, hTO⟩, ⟨o1, e1, _, d1⟩, ⟨o2, e2, _, d2⟩⟩ := st
    exact five (p := fun c => ∃ o, h.get? c = some o ∧ ∀ v, o.data ≠ .cell v) hc ⟨_, hz, fun v q => nomatch q⟩ ⟨_, hTI, fun v q => nomatch q⟩ ⟨_, hTO, fun v q => nomatch q⟩ ⟨o1, e1, fun v q => by rw [d1] at q; cases q⟩ ⟨o2, e2, fun v q => by rw [d2] at q; cases q⟩
  keep := fun i h h' st k => by
    obtain ⟨hz, hTI, ⟨x, y, hTO⟩, h1, h2⟩ := st
    exact ⟨k z (by simp) _ hz, k TI (by simp) _ hTI, ⟨x, y, k TO (by simp) _ hTO⟩, IsStrIter.at h1 fun o q => k i1 (by simp) o q, h2.at fun o q => k i2 (by simp) o q⟩
  item := by
    intro X hP hw hK hc i pins s σ H E I hf st hg
    subst hP hw hK
    obtain ⟨hz, hTI, ⟨x0, y0, hTO⟩, h1, h2⟩ := st
    obtain ⟨ys, y, c, hqy, hx, hy⟩ := hg
    obtain ⟨its, rv, p, _⟩ := I.list hqy
    obtain ⟨u2, hu2, ru2⟩ := rv.get hy
    have hzl : z < s.heap.objs.size := Heap.lt_size hz
    have l1 : i < x.cps.size := (Array.getElem?_eq_some_iff.mp hx).1
    have l2 : i < its.toArray.size := by
      have := (List.getElem?_eq_some_iff.mp hu2).1
      simpa using this
    have hh : X.A.in1.handled = none := I.ok.hd hc
    refine wpAny_pyNext_zipD2_item D (Draws.text hh i1 x t) (Draws.list hh i2 b hb its.toArray) hz hTI hTO h1 ⟨h2, p.isList⟩ l1 l2 fun x1 x2 h' tk e1 e2 z' TO' h1' h2' hT hsz hk => ?_
    obtain ⟨c', u, ec, rfl⟩ := e1
    rw [hx] at ec
    cases ec
    have e2 : its[i]? = some x2 := by simpa using e2
    rw [hu2] at e2
    cases e2
    refine ⟨_, rfl, wpAny_letOwnedTupleGo_zip (s := { s with heap := h', toks := tk }) z' fun h'' z'' sb => ?_⟩
    have hT2 : h''.get? s.heap.objs.size = some { cls := .type "tuple", data := .seq #[.str ⟨#[c]⟩ u, u2] } := (sb.2 _ (Nat.ne_of_gt hzl)).trans hT
    have new : ObjOk X.prog X.w (upd H s.heap.objs.size (.tup [.str ⟨#[c]⟩, y])) h'' s.heap.objs.size (.tup [.str ⟨#[c]⟩, y]) :=
      ⟨by show 2 ≤ sizeLine; decide, [.str ⟨#[c]⟩ u, u2], .cons ⟨u, rfl⟩ (.cons ru2 .nil), ⟨_, hT2, rfl, _, rfl⟩⟩
    have I1 : Inv X pins σ (upd H s.heap.objs.size (.tup [.str ⟨#[c]⟩, y])) { s with heap := h'', toks := tk } :=
      I.turnedNew (t' := tk) (ch := [z, TI, TO, i1, i2]) (fun c o hb q => (sb.2 c (fun q' => hb (by simp [q']))).trans (hk c o (fun q' => hb (by simp [q'])) (fun q' => hb (by simp [q'])) (fun q' => hb (by simp [q'])) (fun q' => hb (by simp [q'])) q)) hf (Nat.le_refl _) new
    refine ⟨.ref s.heap.objs.size, _, I1, rfl, ⟨_, y, c, rfl, I.hok.fresh (Nat.le_refl _), rfl, hx, fun l hl => by rw [I.list_inj hl hqy]; exact hy⟩, ⟨z'', ?_, ⟨.str ⟨#[c]⟩ u, u2, ?_⟩, ?_, ?_⟩, fun c hcm => ?_⟩
    · exact (sb.2 _ D.TIz).trans (hk _ _ D.TIz D.TITO D.TIi1 D.TIi2 hTI)
    · exact (sb.2 _ D.TOz).trans TO'
    · exact IsStrIter.at h1' fun o q => (sb.2 _ D.zi1.symm).trans q
    · exact h2'.1.at fun o q => (sb.2 _ D.zi2.symm).trans q
    · have hlt : c < s.heap.objs.size := five (p := fun c => c < s.heap.objs.size) hcm hzl (Heap.lt_size hTI) (Heap.lt_size hTO) (let ⟨_, e, _⟩ := h1; Heap.lt_size e) (let ⟨_, e, _⟩ := h2; Heap.lt_size e)
      rw [upd_ne (Nat.ne_of_lt hlt)]
      exact (hf c hcm).1
  done := by
    intro X hP hw hK hc i pins s σ H E I hf st hg
    subst hP hw hK
    obtain ⟨hz, hTI, ⟨x0, y0, hTO⟩, h1, h2⟩ := st
    obtain ⟨ys, hqy, b1, b2, hend⟩ := hg
    obtain ⟨its, rv, p, _⟩ := I.list hqy
    have l2 : its.toArray.size = ys.length := by rw [List.size_toArray]; exact rv.length.symm
    have hh : X.A.in1.handled = none := I.ok.hd hc
    exact wpAny_pyNext_zipD2_end D (Draws.text hh i1 x t) (Draws.list hh i2 b hb its.toArray) hz hTI hTO h1 ⟨h2, p.isList⟩ b1 (by rw [l2]; exact b2) (by rw [l2]; exact hend) fun h' tk hk => ⟨rfl, I.turnedL (t' := tk) (ch := [z, TI, TO, i1, i2]) (fun c o hb q =>
      hk c o (fun q' => hb (by simp [q'])) (fun q' => hb (by simp [q'])) (fun q' => hb (by simp [q'])) (fun q' => hb (by simp [q'])) q) hf⟩
  self := fun A i s Q E st h => wpAny_pyIter_zip st.1 h
def iZipA (K : PySem.W.Frag) (ta : TA) : TI := fun σ H R => ta σ H fun vs H1 => ∃ x b ys, vs = [.str x, .ref b] ∧ ((SqT K H1 b ys ∧ R (ItzS K x b) H1) ∨ (SqL K H1 b ys ∧ R (ItzL K x b) H1))
theorem pi_zipA {X : Cx} {e e2 : Expr} {ta : TA} {p pos tpos : Pos} {elts : List Expr} {kk : Nat} (hg : Gl X "zip") (hm : X.mg "zip" = none) (ha : PA X [e, e2] ta)
    (hs : starEach [e, e2] X.env = (false, eval e X.env) :: starEach [e2] X.env := by rfl) (hpl : (backTo pos (starEach [e2] X.env)).any (·.1) = false := by rfl) :
    PI X (.Tuple elts kk tpos) (.Call (.Name "zip" p) [e, e2] [] pos) (iZipA X.K ta) := by
  refine ⟨fun pins s σ H R I h => ?_⟩
  refine Call_ (ld_blt I hg hm PyProof.Rows.boot_zip (PyProof.Rows.callWith_type1 (thn (ha.run pos pins s σ H _ I h) fun us s1 ⟨vs, H1, I1, r1, q1⟩ => ?_) hs hpl))
  obtain ⟨x, b, ys, ex, hq⟩ := q1
  subst ex
  obtain ⟨u1, u2, rfl, ⟨t, rfl⟩, r2⟩ := vals2 r1
  cases r2
  have fresh5 : ∀ c, c ∈ [s1.heap.objs.size + 4, s1.heap.objs.size + 2, s1.heap.objs.size + 3, s1.heap.objs.size, s1.heap.objs.size + 1] → FpOk X pins H1 c := fun c hcm => by
    have hle : s1.heap.objs.size ≤ c := five (p := fun c => s1.heap.objs.size ≤ c) hcm (Nat.le_add_right _ _) (Nat.le_add_right _ _) (Nat.le_add_right _ _) (Nat.le_refl _) (Nat.le_add_right _ _)
    exact I1.fpOk hle (I1.hok.fresh hle)
  rcases hq with ⟨hq, q⟩ | ⟨hq, q⟩
  · obtain ⟨its, rv, p2, _⟩ := I1.tuple hq
    obtain ⟨o2, ho2, _⟩ := id p2
    have hbl : b < s1.heap.objs.size := Heap.lt_size ho2
    refine zip_begins2 (begins_text x t) (begins_tuple b its.toArray) trivial p2 fun h' hz hTI hTO h1 h2 hsz hk => wpAny_pyIter_zip hz ?_
    have I2 : Inv X pins σ H1 { s1 with heap := h' } := I1.kept (t' := s1.toks) hk
    exact ⟨s1.heap.objs.size + 4, [s1.heap.objs.size + 4, s1.heap.objs.size + 2, s1.heap.objs.size + 3, s1.heap.objs.size, s1.heap.objs.size + 1], _, _, H1, rfl, I2, turn_zipS (t := t) (sepS s1.heap.objs.size b hbl).1 (sepS s1.heap.objs.size b hbl).2, ⟨hz, hTI, ⟨_, _, hTO⟩, ⟨_, h1, rfl, rfl⟩, ⟨_, h2, rfl, rfl⟩⟩, fresh5, q⟩
  · obtain ⟨its, rv, p2, _⟩ := I1.list hq
    have p3 := p2.isList
    obtain ⟨o2, ho2, _⟩ := id p3
    have hbl : b < s1.heap.objs.size := Heap.lt_size ho2
    refine zip_begins2 (begins_text x t) (begins_list b its.toArray) trivial p3 fun h' hz hTI hTO h1 h2 hsz hk => wpAny_pyIter_zip hz ?_
    have I2 : Inv X pins σ H1 { s1 with heap := h' } := I1.kept (t' := s1.toks) hk
    exact ⟨s1.heap.objs.size + 4, [s1.heap.objs.size + 4, s1.heap.objs.size + 2, s1.heap.objs.size + 3, s1.heap.objs.size, s1.heap.objs.size + 1], _, _, H1, rfl, I2, turn_zipL (t := t) (sepS s1.heap.objs.size b hbl).1 (sepS s1.heap.objs.size b hbl).2, ⟨hz, hTI, ⟨_, _, hTO⟩, ⟨_, h1, rfl, rfl⟩, ⟨_, h2, rfl, rfl⟩⟩, fresh5, q⟩
end Rw
namespace Rw
open PySem PySem.Spec PyProof.Rows L2
section
variable {prog : Program} {w : World} {A : Around} {E : Value → Shared → Prop} {s : Shared} {z TI TO T i1 i2 l1 l2 : Addr} {f : Bool} {oT : Obj} {fp1 fp2 : List Addr} {n1 n2 i : Nat} {P1 P2 : Nat → Value → Prop} {St1 St2 : Nat → Heap → Prop}
theorem held_next {Q : Value → Shared → Prop} (S : ZipSep2 z TI TO i1 i2 fp1 fp2) (D1 : Draws prog w A i1 fp1 n1 P1 St1) (D2 : Draws prog w A i2 fp2 n2 P2 St2)
    (hz : IsZipHeld s.heap z TI TO T f) (hT : s.heap.get? T = some oT) (hTI : IsTupOf2 s.heap TI (.ref i1) (.ref i2)) (st1 : St1 i s.heap) (st2 : St2 i s.heap) (hl1 : i < n1) (hl2 : i < n2)
    (hQ : ∀ x1 x2 h' tk, P1 i x1 → P2 i x2 → IsZipHeld h' z TI TO T true → St1 (i + 1) h' → St2 (i + 1) h' → IsTupOf2 h' s.heap.objs.size x1 x2 →
      (∀ c o, c ≠ z → c ≠ i1 → c ≠ i2 → s.heap.get? c = some o → h'.get? c = some o) → Q (.ref s.heap.objs.size) { s with heap := h', toks := tk }) :
    wpAny (model prog w) A (Builtin.«zip.__next__» ⟨[.ref z], []⟩) (fun fin s' => ∃ v, fin = .done (.ret v) ∧ Q v s') E s := by
  obtain ⟨hp, g, d, tk0, os⟩ := s
  show wpAny _ _ (field (.ref z) 2 >>= _) _ _ _
  refine wpAny_bind (wpAny_field hz rfl (x := .bool false) rfl ?_)
  show wpAny _ _ (field (.ref z) 3 >>= _) _ _ _
  refine wpAny_bind (wpAny_field hz rfl (x := .ref TI) rfl ?_)
  refine wpAny_bind (wpAny_seqItems hTI rfl ?_)
  show wpAny _ _ (Builtin.SmallTypes.ownedTupleIsFree (.ref z) >>= _) _ _ _
  refine wpAny_bind (wpAny_tupleHeld_zip hz hT fun h1 hz1 hs1 => ?_)
  replace hs1 : Heap.SameBut z hp h1 := hs1
  simp only [Bool.false_eq_true, if_false]
  refine wpAny_bind ?_
  rw [← Array.forIn_toList]
  simp only [List.forIn_cons, List.forIn_nil]
  refine wpAny_bind (wpAny_bind (wpAny_holding ?_))
  show wpAny _ _ (Builtin.SmallTypes.nextOf (.ref i1) >>= _) _ _ ⟨h1, g, d, tk0, os⟩
  refine wpAny_bind (D1.item i _ _ _ hl1 (D1.over st1 hs1 S.zf1) fun x1 p1 tk1 hx1 sn1 hp1 => wpAny_pure ?_)
  replace hp1 : Heap.SameBut i1 h1 p1 := hp1
  refine wpAny_pure ?_
  refine wpAny_bind (wpAny_bind (wpAny_holding ?_))
  show wpAny _ _ (Builtin.SmallTypes.nextOf (.ref i2) >>= _) _ _ ⟨p1, g, d, tk1, os⟩
  refine wpAny_bind (D2.item i ⟨p1, g, d, tk1, os⟩ _ _ hl2 (D2.over (D2.over st2 hs1 S.zf2) hp1 S.sep1_2) fun x2 p2 tk2 hx2 sn2 hp2 => wpAny_pure ?_)
  replace hp2 : Heap.SameBut i2 p1 p2 := hp2
  refine wpAny_pure (wpAny_pure ?_)
  show wpAny _ _ (newTuple [x1, x2] >>= _) _ _ ⟨p2, g, d, tk2, os⟩
  refine wpAny_bind (wpAny_newTuple ?_)
  have sz : p2.objs.size = hp.objs.size := by rw [hp2.1, hp1.1, hs1.1]
  have zi1 := S.zi1
  have zi2 : z ≠ i2 := fun e => S.zf2 (by rw [e]; exact S.mem2)
  have hz2 : IsZipHeld p2 z TI TO T true := hp2.extBut _ _ zi2 (hp1.extBut _ _ zi1 hz1)
  have hk : ∀ c o, c ≠ z → c ≠ i1 → c ≠ i2 → hp.get? c = some o → p2.get? c = some o := fun c o c1 c2 c3 e => hp2.extBut _ _ c3 (hp1.extBut _ _ c2 (hs1.extBut _ _ c1 e))
  have s1 : St1 (i + 1) p2 := D1.over sn1 hp2 S.sep2_1
  refine wpAny_pure ⟨_, rfl, ?_⟩
  show Q (.ref p2.objs.size) _
  have hpair : IsTupOf2 (p2.push { cls := .type "tuple", data := .seq #[x1, x2] }) p2.objs.size x1 x2 := Heap.get?_push_size _ rfl
  have sn2 : St2 (i + 1) p2 := sn2
  rw [sz] at hpair ⊢
  exact hQ x1 x2 _ tk2 hx1 hx2 (Heap.get?_push_of_some _ hz2) (D1.frame _ _ _ s1 fun b _ o e => Heap.get?_push_of_some _ e) (D2.frame _ _ _ sn2 fun b _ o e => Heap.get?_push_of_some _ e) hpair fun c o c1 c2 c3 e => Heap.get?_push_of_some _ (hk c o c1 c2 c3 e)
theorem held_end {Q : Fin → Shared → Prop} (S : ZipSep2 z TI TO i1 i2 fp1 fp2) (D1 : Draws prog w A i1 fp1 n1 P1 St1) (D2 : Draws prog w A i2 fp2 n2 P2 St2)
    (hz : IsZipHeld s.heap z TI TO T f) (hT : s.heap.get? T = some oT) (hTI : IsTupOf2 s.heap TI (.ref i1) (.ref i2)) (st1 : St1 i s.heap) (st2 : St2 i s.heap) (hi : i = n1)
    (hE : ∀ h' e, (∀ c o, c ≠ z → c ≠ i1 → c ≠ i2 → s.heap.get? c = some o → h'.get? c = some o) → (∃ o, h'.get? e = some o ∧ o.cls = .type "StopIteration") → E (.ref e) { s with heap := h' }) :
    wpAny (model prog w) A (Builtin.«zip.__next__» ⟨[.ref z], []⟩) Q E s := by
  obtain ⟨hp, g, d, tk0, os⟩ := s
  show wpAny _ _ (field (.ref z) 2 >>= _) _ _ _
  refine wpAny_bind (wpAny_field hz rfl (x := .bool false) rfl ?_)
  show wpAny _ _ (field (.ref z) 3 >>= _) _ _ _
  refine wpAny_bind (wpAny_field hz rfl (x := .ref TI) rfl ?_)
  refine wpAny_bind (wpAny_seqItems hTI rfl ?_)
  show wpAny _ _ (Builtin.SmallTypes.ownedTupleIsFree (.ref z) >>= _) _ _ _
  refine wpAny_bind (wpAny_tupleHeld_zip hz hT fun h1 hz1 hs1 => ?_)
  replace hs1 : Heap.SameBut z hp h1 := hs1
  simp only [Bool.false_eq_true, if_false]
  refine wpAny_bind ?_
  rw [← Array.forIn_toList]
  simp only [List.forIn_cons, List.forIn_nil]
  refine wpAny_bind (wpAny_bind (wpAny_holding ?_))
  show wpAny _ _ (Builtin.SmallTypes.nextOf (.ref i1) >>= _) _ _ ⟨h1, g, d, tk0, os⟩
  refine wpAny_bind (D1.done ⟨h1, g, d, tk0, os⟩ _ _ (by rw [← hi]; exact D1.over st1 hs1 S.zf1) fun q e hq he => ?_)
  exact hE q e (fun c o c1 c2 _ x => hq _ _ c2 (hs1.extBut _ _ c1 x)) he
theorem dz_held {Q : Option Value → Shared → Prop} (S : ZipSep2 z TI TO i1 i2 fp1 fp2) (D1 : Draws prog w A.in1 i1 fp1 n1 P1 St1) (D2 : Draws prog w A.in1 i2 fp2 n2 P2 St2)
    (hz : IsZipHeld s.heap z TI TO T f) (hT : s.heap.get? T = some oT) (hTI : IsTupOf2 s.heap TI (.ref i1) (.ref i2)) (st1 : St1 i s.heap) (st2 : St2 i s.heap) (hl1 : i < n1) (hl2 : i < n2)
    (hQ : ∀ x1 x2 h' tk, P1 i x1 → P2 i x2 → IsZipHeld h' z TI TO T true → St1 (i + 1) h' → St2 (i + 1) h' → IsTupOf2 h' s.heap.objs.size x1 x2 →
      (∀ c o, c ≠ z → c ≠ i1 → c ≠ i2 → s.heap.get? c = some o → h'.get? c = some o) → Q (some (.ref s.heap.objs.size)) { s with heap := h', toks := tk }) :
    wpAny (model prog w) A (pyNext (.ref z)) Q E s := by
  have hTy : s.TypeIs (.ref z) "zip" := ⟨_, hz, rfl⟩
  unfold pyNext
  exact wpAny_bind (wpAny_attempt (wpAny_callSpecial?_slot (name := Str.ofString "__next__") hTy F.slot_zip_next
    (wpAny_call_entry F.slot_zip_next hTy F.entry_zip_next
      (held_next S D1 D2 hz hT hTI st1 st2 hl1 hl2 fun x1 x2 h' tk a1 a2 a3 a4 a5 a6 a7 => wpAny_pure (hQ x1 x2 h' tk a1 a2 a3 a4 a5 a6 a7)) (F.args_zip_next_1 _))))
theorem dz_held_end {Q : Option Value → Shared → Prop} (S : ZipSep2 z TI TO i1 i2 fp1 fp2) (D1 : Draws prog w A.in1 i1 fp1 n1 P1 St1) (D2 : Draws prog w A.in1 i2 fp2 n2 P2 St2)
    (hz : IsZipHeld s.heap z TI TO T f) (hT : s.heap.get? T = some oT) (hTI : IsTupOf2 s.heap TI (.ref i1) (.ref i2)) (st1 : St1 i s.heap) (st2 : St2 i s.heap) (hi : i = n1)
    (hQ : ∀ h', (∀ c o, c ≠ z → c ≠ i1 → c ≠ i2 → s.heap.get? c = some o → h'.get? c = some o) → Q none { s with heap := h' }) : wpAny (model prog w) A (pyNext (.ref z)) Q E s := by
  have hTy : s.TypeIs (.ref z) "zip" := ⟨_, hz, rfl⟩
  unfold pyNext
  refine wpAny_bind (wpAny_attempt (wpAny_callSpecial?_slot (name := Str.ofString "__next__") hTy F.slot_zip_next
    (wpAny_call_entry F.slot_zip_next hTy F.entry_zip_next (held_end S D1 D2 hz hT hTI st1 st2 hi fun h' e hk he => ?_) (F.args_zip_next_1 _))))
  obtain ⟨o, ho, hc⟩ := he
  refine wpAny_bind (wpAny_isInstance (T := "StopIteration") (b := true) ⟨o, ho, hc⟩ isSubtype_stop ?_)
  exact wpAny_pure (hQ _ hk)
theorem pairArgT (D : ZipApart z TI TO i1 i2 l1 l2) (xs ys : Array Value) (hl : xs.size = ys.size) :
    PairArg prog w "zip" z [z, TI, TO, i1, i2, l1, l2] [z, TO, i1, i2] xs.size (fun i k v => xs[i]? = some k ∧ ys[i]? = some v)
      (fun h => IsZip h z TI TO .none ∧ IsTupOf2 h TI (.ref i1) (.ref i2) ∧ (∃ a b, IsTupOf2 h TO a b) ∧ (h.IsTupleIter i1 l1 0 ∧ h.IsTuple l1 xs) ∧ h.IsTupleIter i2 l2 0 ∧ h.IsTuple l2 ys) := by
  have nm : ∀ {x a b : Addr}, x ≠ a → x ≠ b → x ∉ [a, b] := fun h1 h2 m => by
    simp only [List.mem_cons, List.not_mem_nil, or_false] at m
    rcases m with m | m
    · exact h1 m
    · exact h2 m
  have S : ZipSep2 z TI TO i1 i2 [i1, l1] [i2, l2] := ⟨D.TIz, D.TOz, D.TITO, D.TIi1, List.mem_cons_self, nm D.i1z.symm D.l1z.symm, nm D.TOi1 D.l1TO.symm, D.TIi2, List.mem_cons_self, nm D.i2z.symm D.l2z.symm, nm D.TOi2 D.l2TO.symm, nm D.i12 D.l2i1.symm, nm D.i12.symm D.l1i2.symm⟩
  have D1 : ∀ A : Around, A.handled = none → Draws prog w A i1 [i1, l1] xs.size (fun i v => xs[i]? = some v) (fun i h => h.IsTupleIter i1 l1 i ∧ h.IsTuple l1 xs) := fun A hA => Draws.tuple hA i1 l1 D.l1i1 xs
  have D2 : ∀ A : Around, A.handled = none → Draws prog w A i2 [i2, l2] ys.size (fun i v => ys[i]? = some v) (fun i h => h.IsTupleIter i2 l2 i ∧ h.IsTuple l2 ys) := fun A hA => Draws.tuple hA i2 l2 D.l2i2 ys
  have at1 : ∀ {h h' : Heap} {i : Nat}, (h.IsTupleIter i1 l1 i ∧ h.IsTuple l1 xs) → (∀ b ∈ [i1, l1], ∀ o, h.get? b = some o → h'.get? b = some o) → h'.IsTupleIter i1 l1 i ∧ h'.IsTuple l1 xs := fun st hk => ⟨st.1.at fun o e => hk i1 (by simp) o e, st.2.at fun o e => hk l1 (by simp) o e⟩
  have at2 : ∀ {h h' : Heap} {i : Nat}, (h.IsTupleIter i2 l2 i ∧ h.IsTuple l2 ys) → (∀ b ∈ [i2, l2], ∀ o, h.get? b = some o → h'.get? b = some o) → h'.IsTupleIter i2 l2 i ∧ h'.IsTuple l2 ys := fun st hk => ⟨st.1.at fun o e => hk i2 (by simp) o e, st.2.at fun o e => hk l2 (by simp) o e⟩
  exact {
    type := fun s ok => ⟨_, ok.1, rfl⟩
    notDict := by decide
    keep := fun h h' ok hk => by
      obtain ⟨hz, hTI, ⟨a, b, hTO⟩, h1, h2⟩ := ok
      exact ⟨hk _ _ hz, hk _ _ hTI, ⟨a, b, hk _ _ hTO⟩, at1 h1 fun b _ o e => hk b o e, at2 h2 fun b _ o e => hk b o e⟩
    there := fun h ok b hb => by
      obtain ⟨hz, hTI, ⟨a, c, hTO⟩, ⟨⟨o1, h1, _⟩, ⟨o3, hl1, _⟩⟩, ⟨⟨o2, h2, _⟩, ⟨o4, hl2, _⟩⟩⟩ := ok
      simp only [List.mem_cons, List.not_mem_nil, or_false] at hb
      rcases hb with rfl | rfl | rfl | rfl | rfl | rfl | rfl
      all_goals first | exact ⟨_, hz⟩ | exact ⟨_, hTI⟩ | exact ⟨_, hTO⟩ | exact ⟨_, h1⟩ | exact ⟨_, h2⟩ | exact ⟨_, hl1⟩ | exact ⟨_, hl2⟩
    sub := fun b hb => by simp at hb ⊢; rcases hb with rfl | rfl | rfl | rfl <;> simp
    noKeys := fun A s Q E hA ok h => getAttrOr_miss_zip ok.1 rfl rfl rfl zip_no_keys (by decide +kernel) hA h
    iter := fun A s d Q E hA ok hd hdf h => by
      obtain ⟨hz, hTI, ⟨a, b, hTO⟩, h1, h2⟩ := ok
      simp only [List.mem_cons, List.not_mem_nil, or_false, not_or] at hdf
      obtain ⟨dz, dTI, dTO, di1, di2, dl1, dl2⟩ := hdf
      have hA1 : A.in1.handled = none := hA
      refine wpAny_pyIter_zip hz (h z [z, TO, i1, i2] (fun i h => IsTupOf2 h TI (.ref i1) (.ref i2) ∧ (h.IsTupleIter i1 l1 i ∧ h.IsTuple l1 xs) ∧ (h.IsTupleIter i2 l2 i ∧ h.IsTuple l2 ys) ∧
        ((IsZip h z TI TO .none ∧ ∃ a b, IsTupOf2 h TO a b) ∨ ∃ T f oT, IsZipHeld h z TI TO T f ∧ h.get? T = some oT ∧ T ≠ z ∧ T ≠ i1 ∧ T ≠ i2 ∧ T ≠ d)) s.heap s.toks ?_
        ⟨hTI, h1, h2, .inl ⟨hz, a, b, hTO⟩⟩ (fun _ _ e => e) fun b hb => .inl hb)
      exact {
        off := fun hm => by
          simp only [List.mem_cons, List.not_mem_nil, or_false] at hm
          rcases hm with e | e | e | e
          · exact dz e
          · exact dTO e
          · exact di1 e
          · exact di2 e
        frame := fun i h₁ h₂ st hk => by
          obtain ⟨hTI, h1, h2, hz⟩ := st
          refine ⟨hk _ _ (Ne.symm dTI) hTI, at1 h1 fun b hb o e => hk b o (fun q => ?_) e, at2 h2 fun b hb o e => hk b o (fun q => ?_) e, ?_⟩
          · subst q
            exact nm di1 dl1 hb
          · subst q
            exact nm di2 dl2 hb
          · rcases hz with ⟨hz, a, b, hTO⟩ | ⟨T, f, oT, hz, hT, r1, r2, r3, r4⟩
            · exact .inl ⟨hk _ _ (Ne.symm dz) hz, a, b, hk _ _ (Ne.symm dTO) hTO⟩
            · exact .inr ⟨T, f, oT, hk _ _ (Ne.symm dz) hz, hk _ _ r4 hT, r1, r2, r3, r4⟩
        item := fun i s₁ Q₁ E₁ hi st hds hQ => by
          obtain ⟨hTI, h1, h2, hz⟩ := st
          have lt : ∀ {c o}, s₁.heap.get? c = some o → s₁.heap.objs.size ≠ c := fun e => Nat.ne_of_gt (Heap.lt_size e)
          have n1 : s₁.heap.objs.size ≠ i1 := let ⟨_, e, _⟩ := h1.1; lt e
          have n2 : s₁.heap.objs.size ≠ i2 := let ⟨_, e, _⟩ := h2.1; lt e
          rcases hz with ⟨hz, a, b, hTO⟩ | ⟨T, f, oT, hz, hT, r1, r2, r3, r4⟩
          · refine wpAny_pyNext_zipD2_item S (D1 _ hA1) (D2 _ hA1) hz hTI hTO h1 h2 hi (by omega) fun x1 x2 h' tk y1 y2 a1 a2 a3 a4 a5 a6 hk => ?_
            exact hQ s₁.heap.objs.size x1 x2 h' tk ⟨y1, y2⟩ (.inl ⟨_, a5, rfl, _, rfl⟩)
              ⟨hk _ _ D.TIz D.TITO D.TIi1 D.TIi2 hTI, a3, a4, .inr ⟨s₁.heap.objs.size, false, _, a1, a5, lt hz, n1, n2, Nat.ne_of_gt hds⟩⟩
              fun c o hc e => hk c o (fun x => hc (by simp [x])) (fun x => hc (by simp [x])) (fun x => hc (by simp [x])) (fun x => hc (by simp [x])) e
          · refine dz_held S (D1 _ hA1) (D2 _ hA1) hz hT hTI h1 h2 hi (by omega) fun x1 x2 h' tk y1 y2 a1 a3 a4 a5 hk => ?_
            exact hQ s₁.heap.objs.size x1 x2 h' tk ⟨y1, y2⟩ (.inl ⟨_, a5, rfl, _, rfl⟩)
              ⟨hk _ _ D.TIz D.TIi1 D.TIi2 hTI, a3, a4, .inr ⟨T, true, oT, a1, hk _ _ r1 r2 r3 hT, r1, r2, r3, r4⟩⟩
              fun c o hc e => hk c o (fun x => hc (by simp [x])) (fun x => hc (by simp [x])) (fun x => hc (by simp [x])) e
        done := fun s₁ Q₁ E₁ st hQ => by
          obtain ⟨hTI, h1, h2, hz⟩ := st
          rcases hz with ⟨hz, a, b, hTO⟩ | ⟨T, f, oT, hz, hT, r1, r2, r3, r4⟩
          · exact wpAny_pyNext_zipD2_end S (D1 _ hA1) (D2 _ hA1) hz hTI hTO h1 h2 (Nat.le_refl _) (by omega) (.inl rfl) fun h' tk hk => hQ h' tk fun c o hc e => hk c o (fun x => hc (by simp [x])) (fun x => hc (by simp [x])) (fun x => hc (by simp [x])) (fun x => hc (by simp [x])) e
          · exact dz_held_end S (D1 _ hA1) (D2 _ hA1) hz hT hTI h1 h2 rfl fun h' hk => hQ h' s₁.toks fun c o hc e => hk c o (fun x => hc (by simp [x])) (fun x => hc (by simp [x])) (fun x => hc (by simp [x])) e } }
end
theorem kv_zip : ∀ {ks : List Key} {ys : List V} {us ws : List Value}, ks.length = ys.length → Vals (ks.map kV) us → Vals ys ws → ∃ prs : List (Key × Value), KV (ks.zip ys) prs ∧ prs.length = us.length ∧ ∀ (P : Program) (w : World) (i : Nat) (k v : Value), us[i]? = some k → ws[i]? = some v → ∃ q, prs[i]? = some (q, v) ∧ (mixKind P w).is q k = true
  | [], [], _, _, _, .nil, .nil => ⟨[], .nil, rfl, fun P w i k v h => by simp at h⟩
  | k :: ks, y :: ys, _, _, hl, r1, r2 => by
    rw [List.map_cons] at r1
    cases r1 with
    | cons a1 b1 =>
      cases r2 with
      | cons a2 b2 =>
        rename_i u us wv ws
        obtain ⟨prs, h1, h2, h3⟩ := kv_zip (ks := ks) (ys := ys) (by simpa using hl) b1 b2
        refine ⟨(k, wv) :: prs, .cons ⟨rfl, a2⟩ h1, by rw [List.length_cons, List.length_cons, h2], fun P w i k' v' e1 e2 => ?_⟩
        cases i with
        | zero =>
          cases e1
          cases e2
          exact ⟨k, rfl, kV_is a1⟩
        | succ i => exact h3 P w i k' v' (by simpa using e1) (by simpa using e2)
  | [], _ :: _, _, _, hl, _, _ => by simp at hl
  | _ :: _, [], _, _, hl, _, _ => by simp at hl
def tDctZ (K : PySem.W.Frag) (ta : TA) : TE := fun σ H Q => ta σ H fun vs H1 => ∃ (a b : Addr) (ks : List Key) (ys : List V), vs = [.ref a, .ref b] ∧ SqT K H1 a (ks.map kV) ∧ SqT K H1 b ys ∧ ks.length = ys.length ∧ ∀ p, H1 p = none → Q (.ref p) (upd H1 p (.dK (mergeK [] (ks.zip ys))))
theorem pe_dctZ {X : Cx} {e e2 : Expr} {ta : TA} {p p2 pos pos2 : Pos} (hc : X.calm = true) (hg : Gl X "dict") (hm : X.mg "dict" = none) (hg2 : Gl X "zip") (hm2 : X.mg "zip" = none) (ha : PA X [e, e2] ta)
    (hs : starEach [e, e2] X.env = (false, eval e X.env) :: starEach [e2] X.env := by rfl) (hpl : (backTo pos (starEach [e2] X.env)).any (·.1) = false := by rfl)
    (hs2 : starEach [.Call (.Name "zip" p2) [e, e2] [] pos] X.env = (false, eval (.Call (.Name "zip" p2) [e, e2] [] pos) X.env) :: starEach [] X.env := by rfl) :
    PE X (.Call (.Name "dict" p) [.Call (.Name "zip" p2) [e, e2] [] pos] [] pos2) (tDctZ X.K ta) := by
  refine ⟨fun pins s σ H Q I h => ?_⟩
  refine Call_ (ld_blt I hg hm PyProof.Rows.boot_dict (PyProof.Rows.callWith_type1 ?_ hs2 rfl))
  rw [hs2]
  show wpAny _ _ (spliced ((false, eval (.Call (.Name "zip" p2) [e, e2] [] pos) X.env) :: backTo pos2 (starEach [] X.env))) _ _ s
  refine Calls.spliced_cons ?_
  refine Call_ (ld_blt I hg2 hm2 PyProof.Rows.boot_zip (PyProof.Rows.callWith_type1 (thn (ha.run pos pins s σ H _ I h) fun us s1 ⟨vs, H1, I1, r1, q1⟩ => ?_) hs hpl))
  obtain ⟨a, b, ks, ys, ex, hqx, hqy, hlen, q⟩ := q1
  subst ex
  obtain ⟨u1, u2, rfl, r1, r2⟩ := vals2 r1
  cases r1
  cases r2
  obtain ⟨its, rv, pa, hz1⟩ := I1.tuple hqx
  obtain ⟨its2, rv2, pb, hz2⟩ := I1.tuple hqy
  obtain ⟨o1, ho1, _⟩ := id pa
  obtain ⟨o2, ho2, _⟩ := id pb
  obtain ⟨prs, kv, pl, pk⟩ := kv_zip hlen rv rv2
  have hsz : its.toArray.size = its2.toArray.size := by
    rw [List.size_toArray, List.size_toArray, ← rv.length, ← rv2.length, List.length_map]
    exact hlen
  have hd : X.A.handled = none := I1.ok.hd hc
  refine zip_begins2 (begins_tuple a its.toArray) (begins_tuple b its2.toArray) pa pb fun h' hz hTI hTO h1 h2 hsz5 hk => ?_
  refine Calls.spliced_nil ?_
  have AP := pairArgT (prog := X.prog) (w := X.w) (PySem.W.ktu_apart s1.heap.objs.size a b (Heap.lt_size ho1) (Heap.lt_size ho2)) its.toArray its2.toArray hsz
  refine PySem.call_dict_pairs (s := { s1 with heap := h' }) (knd := mixKind X.prog X.w) (kvs := prs) AP hd ⟨hz, hTI, ⟨_, _, hTO⟩, ⟨⟨_, h1, rfl, rfl⟩, Heap.IsTuple.at pa fun o e => hk _ _ e⟩, ⟨_, h2, rfl, rfl⟩, Heap.IsTuple.at pb fun o e => hk _ _ e⟩ ⟨by rw [pl, List.size_toArray], fun i k v hr => ?_⟩ (by rw [List.size_toArray, ← rv.length]; exact hz1) fun h'' tk hd' k => ?_
  · obtain ⟨e1, e2⟩ := hr
    exact pk X.prog X.w i k v (by simpa using e1) (by simpa using e2)
  · have big : s1.heap.objs.size ≤ h'.objs.size := by rw [hsz5]; omega
    have hm : (h'.objs.size == sysModules) = false := beq_eq_false_iff_ne.mpr (Nat.ne_of_gt (Nat.lt_of_lt_of_le I1.big big))
    have hl2 : (mergeK [] (ks.zip ys)).length ≤ sizeLine := by
      refine Nat.le_trans (length_mergeK _ []) ?_
      rw [List.length_nil, Nat.zero_add, List.length_zip]
      have : (ks.map kV).length ≤ sizeLine := hz1
      rw [List.length_map] at this
      omega
    have keep : ∀ b u, s1.heap.get? b = some u → h''.get? b = some u := fun b u e => k b u (fun m => by
      have := Heap.lt_size e
      simp only [List.mem_cons, List.not_mem_nil, or_false] at m
      rcases m with m | m | m | m <;> (rw [m] at this; first | exact absurd this (Nat.lt_irrefl _) | exact absurd this (Nat.not_lt.mpr (Nat.le_add_right _ _)))) (hk b u e)
    exact ⟨.ref h'.objs.size, upd H1 h'.objs.size (.dK (mergeK [] (ks.zip ys))), I1.laid (t' := tk) keep big (show ObjOk X.prog X.w _ _ _ (.dK (mergeK [] (ks.zip ys))) from ⟨hl2, hm, merged [] prs, KV.merge kv .nil, hd'⟩), rfl, q _ (I1.hok.fresh big)⟩
end Rw
namespace Rw
open PySem PySem.Spec PyProof.Rows L2
structure Nm where
  fnN : Nat → Str
  clN : Nat → Str
  coN : Nat → Str
  atN : Nat → Str
  exN : Nat → Str
  dcN : Nat → Str
abbrev HC := Nat × Option Addr
structure Gd where
  prog : Program
  w : World
  K : PySem.W.Frag
  mg : Str → Option Value
  fA : Nat → Addr
  cA : Nat → Addr
  eA : Nat → Addr
  nm : Nm
  tab : Tab
  nAt : Nat
  hs : Option (Nat × Addr × HC) := none
mutual
inductive Rep (G : Gd) (F : Hp) : V → T → Prop
  | non : Rep G F .non .non
  | bl (b : Bool) : Rep G F (.bl b) (.bl b)
  | int (i : Int) : Rep G F (.int i) (.int i)
  | str (x : Str) : Rep G F (.str x) (.str x)
  | tup {a : Addr} {vs : List V} {xs : List T} (h : SqT G.K F a vs) (r : RepL G F vs xs) : Rep G F (.ref a) (.tup xs)
  | lst {a : Addr} {vs : List V} {xs : List T} (h : F a = some (.lst vs)) (r : RepL G F vs xs) : Rep G F (.ref a) (.lst xs)
  | ins {a dx : Addr} {c : Nat} {gs : List (Str × V)} {fs : List (Nat × T)} (h : F a = some (.ins (G.cA c) dx gs)) (r : RepF G F gs fs) : Rep G F (.ref a) (.ins c fs)
  | dct {a : Addr} {gs : List (Key × V)} {fs : List (Key × T)} (h : F a = some (.dK gs)) (r : RepD G F gs fs) : Rep G F (.ref a) (.dct fs)
  | fn (g : Nat) : Rep G F (.ref (G.fA g)) (.fn g)
  | scr {a : Addr} {ns : List Int} (h : SqL G.K F a (ns.map V.int)) : Rep G F (.ref a) (.scr ns)
  | exv {a : Addr} {c : Nat} (h : F a = some (ExO (.ref (G.eA c)) a)) : Rep G F (.ref a) (.exv c [])
  | exvF {a d : Addr} {c f : Nat} {i : Int} (h : F a = some (exo a (G.eA c) (some d))) (hd : F d = some (exd d [(G.nm.atN f, .int i)])) : Rep G F (.ref a) (.exv c [(f, .int i)])
inductive RepL (G : Gd) (F : Hp) : List V → List T → Prop
  | nil : RepL G F [] []
  | cons {v : V} {x : T} {vs : List V} {xs : List T} (h : Rep G F v x) (r : RepL G F vs xs) : RepL G F (v :: vs) (x :: xs)
inductive RepF (G : Gd) (F : Hp) : List (Str × V) → List (Nat × T) → Prop
  | nil : RepF G F [] []
  | cons {v : V} {f : Nat} {x : T} {vs : List (Str × V)} {xs : List (Nat × T)} (hf : f < G.nAt) (h : Rep G F v x) (r : RepF G F vs xs) : RepF G F ((G.nm.atN f, v) :: vs) ((f, x) :: xs)
inductive RepD (G : Gd) (F : Hp) : List (Key × V) → List (Key × T) → Prop
  | nil : RepD G F [] []
  | cons {v : V} {k : Key} {x : T} {vs : List (Key × V)} {xs : List (Key × T)} (h : Rep G F v x) (r : RepD G F vs xs) : RepD G F ((k, v) :: vs) ((k, x) :: xs)
end
theorem sameT {K : PySem.W.Frag} {F F' : Hp} {a : Addr} {vs : List V} (s : Same F F') (h : SqT K F a vs) : SqT K F' a vs := by
  rcases h with (h | ⟨o, h⟩) | h
  · exact .inl (.inl (s _ _ h))
  · exact .inl (.inr ⟨o, s _ _ h⟩)
  · exact .inr h
section
variable {G : Gd} {F F' : Hp}
mutual
theorem Rep.mono (s : Same F F') : ∀ (x : T) (v : V), Rep G F v x → Rep G F' v x
  | .non, _, h => by cases h; exact .non
  | .bl _, _, h => by cases h; exact .bl _
  | .int _, _, h => by cases h; exact .int _
  | .str _, _, h => by cases h; exact .str _
  | .tup xs, _, h => by
    cases h with
    | tup h r => exact .tup (sameT s h) (RepL.mono s xs _ r)
  | .lst xs, _, h => by
    cases h with
    | lst h r => exact .lst (s _ _ h) (RepL.mono s xs _ r)
  | .ins c fs, _, h => by
    cases h with
    | ins h r => exact .ins (s _ _ h) (RepF.mono s fs _ r)
  | .dct fs, _, h => by
    cases h with
    | dct h r => exact .dct (s _ _ h) (RepD.mono s fs _ r)
  | .fn g, _, h => by cases h; exact .fn g
  | .scr ns, _, h => by
    cases h with
    | scr h => exact .scr (s.seq h)
  | .exn _ _, _, h => by cases h
  | .exv _ _, _, h => by
    cases h with
    | exv h => exact .exv (s _ _ h)
    | exvF h hd => exact .exvF (s _ _ h) (s _ _ hd)
theorem RepL.mono (s : Same F F') : ∀ (xs : List T) (vs : List V), RepL G F vs xs → RepL G F' vs xs
  | [], _, h => by cases h; exact .nil
  | x :: xs, _, h => by
    cases h with
    | cons h r => exact .cons (Rep.mono s x _ h) (RepL.mono s xs _ r)
theorem RepF.mono (s : Same F F') : ∀ (xs : List (Nat × T)) (vs : List (Str × V)), RepF G F vs xs → RepF G F' vs xs
  | [], _, h => by cases h; exact .nil
  | (f, x) :: xs, _, h => by
    cases h with
    | cons hf h r => exact .cons hf (Rep.mono s x _ h) (RepF.mono s xs _ r)
theorem RepD.mono (s : Same F F') : ∀ (xs : List (Key × T)) (vs : List (Key × V)), RepD G F vs xs → RepD G F' vs xs
  | [], _, h => by cases h; exact .nil
  | (k, x) :: xs, _, h => by
    cases h with
    | cons h r => exact .cons (Rep.mono s x _ h) (RepD.mono s xs _ r)
end
def Gd.hd (G : Gd) (h : Option (Nat × Addr × HC)) : Gd := { G with hs := h }
mutual
theorem Rep.hd {h : Option (Nat × Addr × HC)} : ∀ (x : T) (v : V), Rep G F v x → Rep (G.hd h) F v x
  | .non, _, h => by cases h; exact .non
  | .bl _, _, h => by cases h; exact .bl _
  | .int _, _, h => by cases h; exact .int _
  | .str _, _, h => by cases h; exact .str _
  | .tup xs, _, h => by
    cases h with
    | tup h r => exact .tup (G := G.hd _) h (RepL.hd xs _ r)
  | .lst xs, _, h => by
    cases h with
    | lst h r => exact .lst h (RepL.hd xs _ r)
  | .ins c fs, _, h => by
    cases h with
    | ins h r => exact .ins (G := G.hd _) h (RepF.hd fs _ r)
  | .dct fs, _, h => by
    cases h with
    | dct h r => exact .dct h (RepD.hd fs _ r)
  | .fn g, _, h => by cases h; exact .fn (G := G.hd _) g
  | .scr ns, _, h => by
    cases h with
    | scr h => exact .scr (G := G.hd _) h
  | .exn _ _, _, h => by cases h
  | .exv _ _, _, h => by
    cases h with
    | exv h => exact .exv (G := G.hd _) h
    | exvF h hd => exact .exvF (G := G.hd _) h hd
theorem RepL.hd {h : Option (Nat × Addr × HC)} : ∀ (xs : List T) (vs : List V), RepL G F vs xs → RepL (G.hd h) F vs xs
  | [], _, h => by cases h; exact .nil
  | x :: xs, _, h => by
    cases h with
    | cons h r => exact .cons (Rep.hd x _ h) (RepL.hd xs _ r)
theorem RepF.hd {h : Option (Nat × Addr × HC)} : ∀ (xs : List (Nat × T)) (vs : List (Str × V)), RepF G F vs xs → RepF (G.hd h) F vs xs
  | [], _, h => by cases h; exact .nil
  | (f, x) :: xs, _, h => by
    cases h with
    | cons hf h r => exact .cons (G := G.hd _) hf (Rep.hd x _ h) (RepF.hd xs _ r)
theorem RepD.hd {h : Option (Nat × Addr × HC)} : ∀ (xs : List (Key × T)) (vs : List (Key × V)), RepD G F vs xs → RepD (G.hd h) F vs xs
  | [], _, h => by cases h; exact .nil
  | (k, x) :: xs, _, h => by
    cases h with
    | cons h r => exact .cons (Rep.hd x _ h) (RepD.hd xs _ r)
end
theorem RepL.length : ∀ {xs : List T} {vs : List V}, RepL G F vs xs → vs.length = xs.length
  | [], _, h => by cases h; rfl
  | x :: xs, _, h => by
    cases h with
    | cons h r => exact congrArg Nat.succ r.length
theorem RepL.get : ∀ {xs : List T} {vs : List V} {i : Nat} {x : T}, RepL G F vs xs → xs[i]? = some x → ∃ v, vs[i]? = some v ∧ Rep G F v x
  | [], _, _, _, h, e => by simp at e
  | y :: xs, _, 0, x, h, e => by
    cases h with
    | cons h r =>
      simp at e
      subst e
      exact ⟨_, rfl, h⟩
  | y :: xs, _, i + 1, x, h, e => by
    cases h with
    | cons h r =>
      obtain ⟨v, h1, h2⟩ := RepL.get (i := i) r (by simpa using e)
      exact ⟨v, by simpa using h1, h2⟩
mutual
theorem Rep.dp : ∀ (x : T) (v : V) (d : PyData), Rep G F v x → x.py = some d → Dp G.K F v d
  | .non, _, _, h, e => by cases h; cases e; exact .non
  | .bl _, _, _, h, e => by cases h; cases e; exact .bl _
  | .int _, _, _, h, e => by cases h; cases e; exact .int _
  | .str _, _, _, h, e => by cases h; cases e; exact .str _
  | .tup xs, _, _, h, e => by
    cases h with
    | tup h r =>
      have e1 : (T.pys xs).map PyData.tuple = some _ := e
      obtain ⟨ds, e2, e3⟩ := Option.map_eq_some_iff.mp e1
      subst e3
      exact .tup h (RepL.dp xs _ ds r e2)
  | .lst xs, _, _, h, e => by
    cases h with
    | lst h r =>
      have e1 : (T.pys xs).map PyData.list = some _ := e
      obtain ⟨ds, e2, e3⟩ := Option.map_eq_some_iff.mp e1
      subst e3
      exact .lst (.inl (.inl h)) (RepL.dp xs _ ds r e2)
  | .ins c fs, _, _, h, e => by cases e
  | .dct fs, _, _, h, e => by cases e
  | .fn g, _, _, h, e => by cases e
  | .exn _ _, _, _, h, e => by cases e
  | .exv _ _, _, _, h, e => by cases e
  | .scr ns, _, _, h, e => by
    cases h with
    | scr h =>
      cases e
      refine .lst h ?_
      have all : ∀ ms : List Int, DpAll G.K F (ms.map V.int) (ms.map PyData.int) := fun ms => by
        induction ms with
        | nil => exact .nil
        | cons m ms ih => exact .cons (.int m) ih
      exact all ns
theorem RepL.dp : ∀ (xs : List T) (vs : List V) (ds : List PyData), RepL G F vs xs → T.pys xs = some ds → DpAll G.K F vs ds
  | [], _, _, h, e => by cases h; cases e; exact .nil
  | x :: xs, _, ds, h, e => by
    cases h with
    | cons h r =>
      have e1 : (match T.py x with
        | some d => (T.pys xs).map (d :: ·)
        | none => none) = some ds := e
      cases q : T.py x with
      | none => rw [q] at e1; cases e1
      | some d =>
        rw [q] at e1
        obtain ⟨es, e2, e3⟩ := Option.map_eq_some_iff.mp e1
        subst e3
        exact .cons (Rep.dp x _ d h q) (RepL.dp xs _ es r e2)
end
mutual
theorem py_plain : ∀ (x : T) (d : PyData), x.py = some d → d.plain = true
  | .non, _, e => by cases e; rfl
  | .bl _, _, e => by cases e; rfl
  | .int _, _, e => by cases e; rfl
  | .str _, _, e => by cases e; rfl
  | .tup xs, _, e => by
    have e1 : (T.pys xs).map PyData.tuple = some _ := e
    obtain ⟨ds, e2, e3⟩ := Option.map_eq_some_iff.mp e1
    subst e3
    exact pys_plain xs ds e2
  | .lst xs, _, e => by
    have e1 : (T.pys xs).map PyData.list = some _ := e
    obtain ⟨ds, e2, e3⟩ := Option.map_eq_some_iff.mp e1
    subst e3
    exact pys_plain xs ds e2
  | .ins c fs, _, e => by cases e
  | .dct fs, _, e => by cases e
  | .fn g, _, e => by cases e
  | .exn _ _, _, e => by cases e
  | .exv _ _, _, e => by cases e
  | .scr ns, _, e => by
    cases e
    show PyData.plainAll (ns.map PyData.int) = true
    induction ns with
    | nil => rfl
    | cons m ms ih =>
      show (PyData.plain (.int m) && PyData.plainAll (ms.map PyData.int)) = true
      rw [ih]
      rfl
theorem pys_plain : ∀ (xs : List T) (ds : List PyData), T.pys xs = some ds → PyData.plainAll ds = true
  | [], _, e => by cases e; rfl
  | x :: xs, ds, e => by
    have e1 : (match T.py x with
      | some d => (T.pys xs).map (d :: ·)
      | none => none) = some ds := e
    cases q : T.py x with
    | none => rw [q] at e1; cases e1
    | some d =>
      rw [q] at e1
      obtain ⟨es, e2, e3⟩ := Option.map_eq_some_iff.mp e1
      subst e3
      show (PyData.plain d && PyData.plainAll es) = true
      rw [py_plain x d q, pys_plain xs es e2]
      rfl
end
end
structure Wd where
  F : Hp
  B : Hp
  n : Nat
  at_ : Nat → Addr
structure Wd.le (W W' : Wd) : Prop where
  f : Same W.F W'.F
  new : ∀ a o, W'.F a = some o → W.F a = some o ∨ W.B a = none
  b : W'.B = W.B
  n : W.n ≤ W'.n
  at_ : ∀ k, k < W.n → W'.at_ k = W.at_ k
theorem Wd.le.refl (W : Wd) : W.le W := ⟨Same.refl _, fun _ _ h => .inl h, rfl, Nat.le_refl _, fun _ _ => rfl⟩
theorem Wd.le.trans {W W1 W2 : Wd} (a : W.le W1) (b : W1.le W2) : W.le W2 where
  f := a.f.trans b.f
  new := fun x o h => by
    rcases b.new x o h with q | q
    · exact a.new x o q
    · exact .inr (by rw [a.b] at q; exact q)
  b := b.b.trans a.b
  n := Nat.le_trans a.n b.n
  at_ := fun k hk => (b.at_ k (Nat.lt_of_lt_of_le hk a.n)).trans (a.at_ k hk)
def RepV (G : Gd) (W : Wd) (v : V) : Val → Prop
  | .t x => Rep G W.F v x
  | .r n => n < W.n ∧ v = .ref (W.at_ n)
inductive CellOk (G : Gd) (W : Wd) : HO → Cell → Prop
  | lst {vs : List V} {ws : List Val} (h : Paired (RepV G W) vs ws) : CellOk G W (.lst vs) (.lst ws)
  | ins {dx : Addr} {c : Nat} {gs : List (Str × V)} {fs : List (Nat × Val)} (h : Paired (fun p q => q.1 < G.nAt ∧ p.1 = G.nm.atN q.1 ∧ RepV G W p.2 q.2) gs fs) : CellOk G W (.ins (G.cA c) dx gs) (.ins c fs)
  | dct {gs : List (Key × V)} {fs : List (Key × Val)} (h : Paired (fun p q => p.1 = q.1 ∧ RepV G W p.2 q.2) gs fs) : CellOk G W (.dK gs) (.dct fs)
structure Sim (G : Gd) (W : Wd) (S : Store) (H : Hp) : Prop where
  fz : Same W.F H
  len : S.length = W.n
  live : ∀ (k : Nat) (c : Cell), S[k]? = some c → c ≠ .dead → W.F (W.at_ k) = none ∧ W.B (W.at_ k) = none ∧ ∃ o, H (W.at_ k) = some o ∧ CellOk G W o c
  inj : ∀ (j k : Nat) (c d : Cell), S[j]? = some c → S[k]? = some d → c ≠ .dead → d ≠ .dead → W.at_ j = W.at_ k → j = k
  fr : Same W.B H
def ExF (G : Gd) (F : Hp) (c : Nat) (od : Option Addr) (fs : List (Nat × T)) : Prop := (fs = [] ∧ od = none) ∨ ∃ (g f : Nat) (t : T) (d : Addr) (v : V), fs = [(f, t)] ∧ od = some d ∧ G.tab.exa c = some (g, f) ∧ F d = some (.xd [(G.nm.atN f, v)]) ∧ Rep G F v t
def RepE (G : Gd) (W : Wd) (i : Nat) (x : V) (v : Val) : Prop := RepV G W x v ∨ ∃ a c fs, G.hs = some (i, a, c) ∧ v = .t (.exn c.1 fs) ∧ x = .ref a ∧ ExF G W.F c.1 c.2 fs
def EnvRep (G : Gd) (W : Wd) (σ : L2.St) (env : Env) : Prop :=
  σ.length = env.length ∧ ∀ (i : Nat) (v : Val), env[i]? = some (some v) → ∃ x, σ[i]? = some (some x) ∧ RepE G W i x v
structure ExRep (G : Gd) (F : Hp) (cls : Value) (od : Option Addr) (x : Exn) : Prop where
  c : cls = .ref (G.eA x.c)
  f : ExF G F x.c od x.fs
section
variable {G : Gd} {W W' : Wd} {S : Store} {H : Hp} {σ : L2.St} {env : Env}
theorem RepV.mono (l : W.le W') {v : V} : ∀ {a : Val}, RepV G W v a → RepV G W' v a
  | .t x, h => Rep.mono l.f x v h
  | .r n, h => ⟨Nat.lt_of_lt_of_le h.1 l.n, by rw [l.at_ n h.1]; exact h.2⟩
theorem RepVs.mono (l : W.le W') {vs : List V} {ws : List Val} (h : Paired (RepV G W) vs ws) : Paired (RepV G W') vs ws := Paired.mono (fun _ _ r => r.mono l) h
theorem CellOk.mono (l : W.le W') {o : HO} {c : Cell} (h : CellOk G W o c) : CellOk G W' o c := by
  cases h with
  | lst h => exact .lst (RepVs.mono l h)
  | ins h => exact .ins (Paired.mono (fun _ _ r => ⟨r.1, r.2.1, r.2.2.mono l⟩) h)
  | dct h => exact .dct (Paired.mono (fun _ _ r => ⟨r.1, r.2.mono l⟩) h)
theorem ExF.mono {F F' : Hp} (s : Same F F') {c : Nat} {od : Option Addr} {fs : List (Nat × T)} (h : ExF G F c od fs) : ExF G F' c od fs := by
  rcases h with h | ⟨g, f, t, d, v, h1, h2, h3, h4, h5⟩
  · exact .inl h
  · exact .inr ⟨g, f, t, d, v, h1, h2, h3, s _ _ h4, h5.mono s⟩
theorem ExF.hd {F : Hp} {c : Nat} {od : Option Addr} {fs : List (Nat × T)} {k : Option (Nat × Addr × HC)} (h : ExF G F c od fs) : ExF (G.hd k) F c od fs := by
  rcases h with h | ⟨g, f, t, d, v, h1, h2, h3, h4, h5⟩
  · exact .inl h
  · exact .inr ⟨g, f, t, d, v, h1, h2, h3, h4, h5.hd⟩
theorem RepE.mono (l : W.le W') {i : Nat} {x : V} {v : Val} (h : RepE G W i x v) : RepE G W' i x v := h.imp (fun r => r.mono l) fun ⟨a, c, fs, h1, h2, h3, h4⟩ => ⟨a, c, fs, h1, h2, h3, h4.mono l.f⟩
theorem EnvRep.mono (l : W.le W') (h : EnvRep G W σ env) : EnvRep G W' σ env := ⟨h.1, fun i v e => by
  obtain ⟨x, e1, r⟩ := h.2 i v e
  exact ⟨x, e1, r.mono l⟩⟩
theorem EnvRep.set (h : EnvRep G W σ env) {x : V} {v : Val} (r0 : RepV G W x v) (i : Nat) : EnvRep G W (σ.set i (some x)) (env.set i (some v)) := by
  have r : RepE G W i x v := .inl r0
  refine ⟨by rw [List.length_set, List.length_set]; exact h.1, fun j w e => ?_⟩
  by_cases q : i = j
  · subst q
    by_cases hl : i < env.length
    · rw [List.getElem?_set_self hl] at e
      cases e
      exact ⟨x, List.getElem?_set_self (by rw [h.1]; exact hl), r⟩
    · rw [List.getElem?_eq_none (by rw [List.length_set]; omega)] at e
      cases e
  · rw [List.getElem?_set_ne q] at e
    rw [List.getElem?_set_ne q]
    exact h.2 j w e
theorem RepV.hd {h : Option (Nat × Addr × HC)} {x : V} : ∀ {a : Val}, RepV G W x a → RepV (G.hd h) W x a
  | .t t, r => Rep.hd t x r
  | .r _, r => r
theorem CellOk.hd {h : Option (Nat × Addr × HC)} {o : HO} {c : Cell} (k : CellOk G W o c) : CellOk (G.hd h) W o c := by
  cases k with
  | lst k => exact .lst (Paired.mono (fun _ _ r => r.hd) k)
  | ins k => exact .ins (G := G.hd h) (Paired.mono (fun _ _ r => ⟨r.1, r.2.1, r.2.2.hd⟩) k)
  | dct k => exact .dct (Paired.mono (fun _ _ r => ⟨r.1, r.2.hd⟩) k)
theorem Sim.hd {h : Option (Nat × Addr × HC)} (s : Sim G W S H) : Sim (G.hd h) W S H := ⟨s.fz, s.len, fun k c e d => by
  obtain ⟨h1, h2, o, h3, h4⟩ := s.live k c e d
  exact ⟨h1, h2, o, h3, h4.hd⟩, s.inj, s.fr⟩
theorem EnvRep.held (h : EnvRep G W σ env) (hn : G.hs = none) (i : Nat) (a : Addr) (c : HC) {fs : List (Nat × T)} (hf : ExF G W.F c.1 c.2 fs) : EnvRep (G.hd (some (i, a, c))) W (σ.set i (some (.ref a))) (env.set i (some (.t (.exn c.1 fs)))) := by
  refine ⟨by rw [List.length_set, List.length_set]; exact h.1, fun j w e => ?_⟩
  by_cases q : i = j
  · subst q
    by_cases hl : i < env.length
    · rw [List.getElem?_set_self hl] at e
      cases e
      exact ⟨.ref a, List.getElem?_set_self (by rw [h.1]; exact hl), .inr ⟨a, c, fs, rfl, rfl, rfl, hf.hd⟩⟩
    · rw [List.getElem?_eq_none (by rw [List.length_set]; omega)] at e
      cases e
  · rw [List.getElem?_set_ne q] at e
    rw [List.getElem?_set_ne q]
    obtain ⟨x, e1, r⟩ := h.2 j w e
    refine ⟨x, e1, ?_⟩
    rcases r with r | ⟨a', c', fs', z, _⟩
    · exact .inl r.hd
    · rw [hn] at z; cases z
theorem EnvRep.gone {i : Nat} {a : Addr} {c : HC} (h : EnvRep (G.hd (some (i, a, c))) W σ env) : EnvRep (G.hd none) W (σ.set i none) (env.set i none) := by
  refine ⟨by rw [List.length_set, List.length_set]; exact h.1, fun j w e => ?_⟩
  by_cases q : i = j
  · subst q
    by_cases hl : i < env.length
    · rw [List.getElem?_set_self hl] at e
      cases e
    · rw [List.getElem?_eq_none (by rw [List.length_set]; omega)] at e
      cases e
  · rw [List.getElem?_set_ne q] at e
    rw [List.getElem?_set_ne q]
    obtain ⟨x, e1, r⟩ := h.2 j w e
    refine ⟨x, e1, ?_⟩
    rcases r with r | ⟨a', c', fs', z, _⟩
    · exact .inl (RepV.hd (G := G.hd (some (i, a, c))) (h := none) r)
    · have z : some (i, a, c) = some (j, a', c') := z
      cases z
      exact absurd rfl q
theorem EnvRep.wipe (h : EnvRep G W σ env) : ∀ vs : List Nat, EnvRep G W (L2.wipe σ vs) (wipeE env vs)
  | [] => h
  | v :: vs => by
    have q := EnvRep.wipe h vs
    refine ⟨by rw [L2.wipe, wipeE, List.length_set, List.length_set]; exact q.1, fun j w e => ?_⟩
    rw [wipeE] at e
    rw [L2.wipe]
    by_cases z : v = j
    · subst z
      by_cases hl : v < (wipeE env vs).length
      · rw [List.getElem?_set_self hl] at e
        cases e
      · rw [List.getElem?_eq_none (by rw [List.length_set]; omega)] at e
        cases e
    · rw [List.getElem?_set_ne z] at e
      rw [List.getElem?_set_ne z]
      exact q.2 j w e
def Wd.addF (W : Wd) (p : Addr) (o : HO) : Wd := { W with F := upd W.F p o }
theorem same_upd {F : Hp} {p : Addr} {o : HO} (h : F p = none) : Same F (upd F p o) := fun a u e => by
  rw [upd_ne (ne_of_none e h)]
  exact e
theorem Sim.free (s : Sim G W S H) {p : Addr} (hp : H p = none) : W.F p = none ∧ W.B p = none := ⟨s.fz.free hp, s.fr.free hp⟩
theorem Wd.le_addF (s : Sim G W S H) {p : Addr} (hp : H p = none) (o : HO) : W.le (W.addF p o) where
  f := same_upd (s.free hp).1
  new := fun a u e => by
    by_cases q : a = p
    · exact .inr (by rw [q]; exact (s.free hp).2)
    · exact .inl (by have e' : upd W.F p o a = some u := e; rw [upd_ne q] at e'; exact e')
  b := rfl
  n := Nat.le_refl _
  at_ := fun _ _ => rfl
theorem Sim.addF (s : Sim G W S H) {p : Addr} (hp : H p = none) (o : HO) : Sim G (W.addF p o) S (upd H p o) where
  fz := fun a u e => by
    by_cases q : a = p
    · subst q
      have e' : upd W.F a o a = some u := e
      rw [upd_same] at e' ⊢
      exact e'
    · have e' : upd W.F p o a = some u := e
      rw [upd_ne q] at e'
      rw [upd_ne q]
      exact s.fz a u e'
  len := s.len
  live := fun k c e d => by
    obtain ⟨h1, h2, u, h3, h4⟩ := s.live k c e d
    have q : W.at_ k ≠ p := ne_of_none h3 hp
    refine ⟨by show upd W.F p o (W.at_ k) = none; rw [upd_ne q]; exact h1, h2, u, by rw [show (W.addF p o).at_ k = W.at_ k from rfl, upd_ne q]; exact h3, h4.mono (Wd.le_addF s hp o)⟩
  inj := s.inj
  fr := fun a u e => by
    rw [upd_ne (ne_of_none (s.fr a u e) hp)]
    exact s.fr a u e
def Wd.addC (W : Wd) (p : Addr) : Wd := { W with n := W.n + 1, at_ := fun k => if k = W.n then p else W.at_ k }
theorem Wd.le_addC (W : Wd) (p : Addr) : W.le (W.addC p) where
  f := Same.refl _
  new := fun _ _ h => .inl h
  b := rfl
  n := Nat.le_succ _
  at_ := fun k hk => if_neg (Nat.ne_of_lt hk)
theorem Sim.addC (s : Sim G W S H) {p : Addr} {o : HO} {c : Cell} (hp : H p = none) (ok : CellOk G W o c) : Sim G (W.addC p) (S ++ [c]) (upd H p o) := by
  have old : ∀ k, k < S.length → (W.addC p).at_ k = W.at_ k := fun k hk => if_neg (by rw [← s.len]; omega)
  have new : (W.addC p).at_ S.length = p := if_pos s.len
  refine ⟨fun a u e => ?_, by rw [List.length_append, s.len]; rfl, fun k d e nd => ?_, fun j k d1 d2 e1 e2 n1 n2 q => ?_, fun a u e => ?_⟩
  · rw [upd_ne (ne_of_none (s.fz a u e) hp)]
    exact s.fz a u e
  · by_cases hk : k < S.length
    · rw [List.getElem?_append_left hk] at e
      obtain ⟨h1, h2, u, h3, h4⟩ := s.live k d e nd
      rw [old k hk]
      exact ⟨h1, h2, u, by rw [upd_ne (ne_of_none h3 hp)]; exact h3, h4.mono (Wd.le_addC W p)⟩
    · rw [List.getElem?_append_right (by omega)] at e
      have hk0 : k = S.length := by
        cases z : k - S.length with
        | zero => omega
        | succ m => rw [z] at e; simp at e
      subst hk0
      simp at e
      subst e
      rw [new]
      exact ⟨(s.free hp).1, (s.free hp).2, o, upd_same, ok.mono (Wd.le_addC W p)⟩
  · have lt : ∀ (j : Nat) (d : Cell), (S ++ [c])[j]? = some d → j < S.length ∨ j = S.length := fun j d e => by
      have := (List.getElem?_eq_some_iff.mp e).1
      rw [List.length_append] at this
      simp at this
      omega
    rcases lt j d1 e1 with hj | hj <;> rcases lt k d2 e2 with hk | hk
    · rw [old j hj, old k hk] at q
      rw [List.getElem?_append_left hj] at e1
      rw [List.getElem?_append_left hk] at e2
      exact s.inj j k d1 d2 e1 e2 n1 n2 q
    · rw [List.getElem?_append_left hj] at e1
      obtain ⟨_, _, u, h3, _⟩ := s.live j d1 e1 n1
      rw [hk, old j hj, new] at q
      rw [q, hp] at h3
      cases h3
    · rw [List.getElem?_append_left hk] at e2
      obtain ⟨_, _, u, h3, _⟩ := s.live k d2 e2 n2
      rw [hj, old k hk, new] at q
      rw [← q, hp] at h3
      cases h3
    · omega
  · rw [upd_ne (ne_of_none (s.fr a u e) hp)]
    exact s.fr a u e
theorem Sim.setC (s : Sim G W S H) {n : Nat} {c c' : Cell} {o : HO} (hn : S[n]? = some c) (hd : c ≠ .dead) (ok : CellOk G W o c') : Sim G W (S.set n c') (upd H (W.at_ n) o) := by
  obtain ⟨l1, l2, _⟩ := s.live n c hn hd
  have hlt := (List.getElem?_eq_some_iff.mp hn).1
  have old : ∀ k d, (S.set n c')[k]? = some d → d ≠ Cell.dead → ∃ e, S[k]? = some e ∧ e ≠ Cell.dead := fun k d e nd => by
    by_cases z : n = k
    · subst z
      exact ⟨c, hn, hd⟩
    · rw [List.getElem?_set_ne z] at e
      exact ⟨d, e, nd⟩
  refine ⟨fun a u e => ?_, by rw [List.length_set]; exact s.len, fun k d e nd => ?_, fun j k d1 d2 e1 e2 n1 n2 q => ?_, fun a u e => ?_⟩
  · rw [upd_ne (ne_of_none e l1)]
    exact s.fz a u e
  · by_cases z : n = k
    · subst z
      rw [List.getElem?_set_self hlt] at e
      cases e
      exact ⟨l1, l2, o, upd_same, ok⟩
    · rw [List.getElem?_set_ne z] at e
      obtain ⟨h1, h2, u, h3, h4⟩ := s.live k d e nd
      exact ⟨h1, h2, u, by rw [upd_ne (fun q => z (s.inj k n d c e hn nd hd q).symm)]; exact h3, h4⟩
  · obtain ⟨x1, y1, z1⟩ := old j d1 e1 n1
    obtain ⟨x2, y2, z2⟩ := old k d2 e2 n2
    exact s.inj j k x1 x2 y1 y2 z1 z2 q
  · rw [upd_ne (ne_of_none e l2)]
    exact s.fr a u e
theorem Sim.upd_new (s : Sim G W S H) {p : Addr} (hp : H p = none) (o : HO) : Sim G W S (upd H p o) := by
  refine ⟨fun a u e => ?_, s.len, fun k d e nd => ?_, s.inj, fun a u e => ?_⟩
  · rw [upd_ne (ne_of_none (s.fz a u e) hp)]
    exact s.fz a u e
  · obtain ⟨h1, h2, u, h3, h4⟩ := s.live k d e nd
    exact ⟨h1, h2, u, by rw [upd_ne (ne_of_none h3 hp)]; exact h3, h4⟩
  · rw [upd_ne (ne_of_none (s.fr a u e) hp)]
    exact s.fr a u e
structure Out (W : Wd) (S : Store) (p : Addr) : Prop where
  f : W.F p = none
  b : W.B p = none
  c : ∀ k c, S[k]? = some c → c ≠ .dead → W.at_ k ≠ p
theorem Sim.out (s : Sim G W S H) {p : Addr} (hp : H p = none) : Out W S p := ⟨(s.free hp).1, (s.free hp).2, fun k c e d z => by
  obtain ⟨_, _, u, h3, _⟩ := s.live k c e d
  rw [z, hp] at h3
  cases h3⟩
theorem Sim.upd_out (s : Sim G W S H) {p : Addr} (hp : Out W S p) (o : HO) : Sim G W S (upd H p o) := by
  refine ⟨fun a u e => ?_, s.len, fun k d e nd => ?_, s.inj, fun a u e => ?_⟩
  · rw [upd_ne (ne_of_none e hp.f)]
    exact s.fz a u e
  · obtain ⟨h1, h2, u, h3, h4⟩ := s.live k d e nd
    exact ⟨h1, h2, u, by rw [upd_ne (hp.c k d e nd)]; exact h3, h4⟩
  · rw [upd_ne (ne_of_none e hp.b)]
    exact s.fr a u e
theorem le_seizeF {p : Addr} (f : W.F p = none) (b : W.B p = none) (o : HO) : W.le (W.addF p o) where
  f := same_upd f
  new := fun a u e => by
    by_cases q : a = p
    · exact .inr (by rw [q]; exact b)
    · exact .inl (by have e' : upd W.F p o a = some u := e; rw [upd_ne q] at e'; exact e')
  b := rfl
  n := Nat.le_refl _
  at_ := fun _ _ => rfl
theorem Sim.seizeF (s : Sim G W S H) {p : Addr} {o : HO} (hp : Out W S p) (h : H p = some o) : Sim G (W.addF p o) S H where
  fz := fun a u e => by
    by_cases q : a = p
    · subst q
      have e' : upd W.F a o a = some u := e
      rw [upd_same] at e'
      rw [h, e']
    · have e' : upd W.F p o a = some u := e
      rw [upd_ne q] at e'
      exact s.fz a u e'
  len := s.len
  live := fun k c e d => by
    obtain ⟨h1, h2, u, h3, h4⟩ := s.live k c e d
    refine ⟨?_, h2, u, h3, h4.mono (le_seizeF hp.f hp.b o)⟩
    show upd W.F p o (W.at_ k) = none
    rw [upd_ne (hp.c k c e d)]
    exact h1
  inj := s.inj
  fr := s.fr
theorem Sim.seizeC (s : Sim G W S H) {p : Addr} {o : HO} {c : Cell} (hp : Out W S p) (h : H p = some o) (ok : CellOk G W o c) : Sim G (W.addC p) (S ++ [c]) H := by
  have old : ∀ k, k < S.length → (W.addC p).at_ k = W.at_ k := fun k hk => if_neg (by rw [← s.len]; omega)
  have new : (W.addC p).at_ S.length = p := if_pos s.len
  have lt : ∀ (j : Nat) (d : Cell), (S ++ [c])[j]? = some d → j < S.length ∨ j = S.length := fun j d e => by
    have := (List.getElem?_eq_some_iff.mp e).1
    rw [List.length_append] at this
    simp at this
    omega
  refine ⟨s.fz, by rw [List.length_append, s.len]; rfl, fun k d e nd => ?_, fun j k d1 d2 e1 e2 n1 n2 q => ?_, s.fr⟩
  · rcases lt k d e with hk | hk
    · rw [List.getElem?_append_left hk] at e
      obtain ⟨h1, h2, u, h3, h4⟩ := s.live k d e nd
      rw [old k hk]
      exact ⟨h1, h2, u, h3, h4.mono (Wd.le_addC W p)⟩
    · subst hk
      simp at e
      subst e
      rw [new]
      exact ⟨hp.f, hp.b, o, h, ok.mono (Wd.le_addC W p)⟩
  · rcases lt j d1 e1 with hj | hj <;> rcases lt k d2 e2 with hk | hk
    · rw [old j hj, old k hk] at q
      rw [List.getElem?_append_left hj] at e1
      rw [List.getElem?_append_left hk] at e2
      exact s.inj j k d1 d2 e1 e2 n1 n2 q
    · rw [List.getElem?_append_left hj] at e1
      rw [hk, old j hj, new] at q
      exact absurd q (hp.c j d1 e1 n1)
    · rw [List.getElem?_append_left hk] at e2
      rw [hj, old k hk, new] at q
      exact absurd q.symm (hp.c k d2 e2 n2)
    · omega
def Wd.pin (W : Wd) (p : Addr) (o : HO) : Wd := { W with B := upd W.B p o }
theorem Sim.pin (s : Sim G W S H) {p : Addr} {o : HO} (hp : Out W S p) (h : H p = some o) : Sim G (W.pin p o) S H where
  fz := s.fz
  len := s.len
  live := fun k c e d => by
    obtain ⟨h1, h2, u, h3, h4⟩ := s.live k c e d
    refine ⟨h1, ?_, u, h3, ?_⟩
    · show upd W.B p o (W.at_ k) = none
      rw [upd_ne (hp.c k c e d)]
      exact h2
    · cases h4 with
      | lst h => exact .lst h
      | ins h => exact .ins h
      | dct h => exact .dct h
  inj := s.inj
  fr := fun a u e => by
    by_cases q : a = p
    · subst q
      have e' : upd W.B a o a = some u := e
      rw [upd_same] at e'
      rw [h, e']
    · have e' : upd W.B p o a = some u := e
      rw [upd_ne q] at e'
      exact s.fr a u e'
theorem RepV.pinned {p : Addr} {o : HO} {x : V} : ∀ {a : Val}, RepV G W x a → RepV G (W.pin p o) x a
  | .t _, r => r
  | .r _, r => r
theorem EnvRep.pinned {p : Addr} {o : HO} (h : EnvRep G W σ env) : EnvRep G (W.pin p o) σ env := ⟨h.1, fun i v e => by
  obtain ⟨x, e1, r⟩ := h.2 i v e
  exact ⟨x, e1, r.imp (fun r => r.pinned) id⟩⟩
def Wd.unpin (W : Wd) (B : Hp) : Wd := { W with B := B }
theorem RepV.unpinned {B : Hp} {x : V} : ∀ {a : Val}, RepV G W x a → RepV G (W.unpin B) x a
  | .t _, r => r
  | .r _, r => r
theorem EnvRep.unpinned {B : Hp} (h : EnvRep G W σ env) : EnvRep G (W.unpin B) σ env := ⟨h.1, fun i v e => by
  obtain ⟨x, e1, r⟩ := h.2 i v e
  exact ⟨x, e1, r.imp (fun r => r.unpinned) id⟩⟩
theorem unpin_le {p : Addr} {o : HO} (hp : W.F p = none) (l : (W.pin p o).le W') : W.le (W'.unpin W.B) where
  f := l.f
  new := fun a u e => by
    rcases l.new a u e with h | h
    · exact .inl h
    · by_cases q : a = p
      · subst q
        have h : upd W.B a o a = none := h
        rw [upd_same] at h
        cases h
      · have h : upd W.B p o a = none := h
        rw [upd_ne q] at h
        exact .inr h
  b := rfl
  n := l.n
  at_ := l.at_
theorem unpin_sim {p : Addr} {o : HO} (hp : W.F p = none) (hb : W.B p = none) (l : (W.pin p o).le W') (s : Sim G W' S H) : Sim G (W'.unpin W.B) S H ∧ Out (W'.unpin W.B) S p ∧ H p = some o := by
  have eB : W'.B = upd W.B p o := l.b
  have hpB : W'.B p = some o := by rw [eB, upd_same]
  refine ⟨⟨s.fz, s.len, fun k c e d => ?_, s.inj, fun a u e => ?_⟩, ⟨?_, hb, fun k c e d z => ?_⟩, s.fr p o hpB⟩
  · obtain ⟨h1, h2, u, h3, h4⟩ := s.live k c e d
    refine ⟨h1, ?_, u, h3, ?_⟩
    · show W.B (W'.at_ k) = none
      cases q : W.B (W'.at_ k) with
      | none => rfl
      | some v =>
        have z : W'.at_ k ≠ p := fun z => by rw [z, hpB] at h2; cases h2
        rw [eB, upd_ne z, q] at h2
        cases h2
    · cases h4 with
      | lst h => exact .lst (Paired.mono (fun _ _ r => r.unpinned) h)
      | ins h => exact .ins (Paired.mono (fun _ _ r => ⟨r.1, r.2.1, r.2.2.unpinned⟩) h)
      | dct h => exact .dct (Paired.mono (fun _ _ r => ⟨r.1, r.2.unpinned⟩) h)
  · have z : a ≠ p := fun z => by
      have e : W.B a = some u := e
      rw [z, hb] at e
      cases e
    exact s.fr a u (by rw [eB, upd_ne z]; exact e)
  · show W'.F p = none
    cases q : W'.F p with
    | none => rfl
    | some u =>
      rcases l.new p u q with h | h
      · have h : W.F p = some u := h
        rw [hp] at h
        cases h
      · have h : upd W.B p o p = none := h
        rw [upd_same] at h
        cases h
  · obtain ⟨_, h2, _⟩ := s.live k c e d
    have z : W'.at_ k = p := z
    rw [z, hpB] at h2
    cases h2
theorem Sim.bury (s : Sim G W S H) {n : Nat} {c : Cell} (hn : S[n]? = some c) (hd : c ≠ .dead) : Sim G W (S.set n .dead) H ∧ Out W (S.set n .dead) (W.at_ n) := by
  obtain ⟨l1, l2, _⟩ := s.live n c hn hd
  have hlt := (List.getElem?_eq_some_iff.mp hn).1
  have old : ∀ k d, (S.set n Cell.dead)[k]? = some d → d ≠ .dead → S[k]? = some d ∧ n ≠ k := fun k d e nd => by
    by_cases z : n = k
    · subst z
      rw [List.getElem?_set_self hlt] at e
      cases e
      exact absurd rfl nd
    · rw [List.getElem?_set_ne z] at e
      exact ⟨e, z⟩
  refine ⟨⟨s.fz, by rw [List.length_set]; exact s.len, fun k d e nd => s.live k d (old k d e nd).1 nd, fun j k d1 d2 e1 e2 n1 n2 q => s.inj j k d1 d2 (old j d1 e1 n1).1 (old k d2 e2 n2).1 n1 n2 q, s.fr⟩, l1, l2, fun k d e nd z => ?_⟩
  obtain ⟨e1, e2⟩ := old k d e nd
  exact e2 (s.inj k n d c e1 hn nd hd z).symm
end
section
variable {α β γ δ : Type}
def Post (G : Gd) (rep : Wd → β → α → Prop) (Wx : WX) (σ : L2.St) (W : Wd) (r : R α) (Q : β → Hp → Prop) : Prop := match r with
  | .ok a S => ∀ (W' : Wd) (b : β) (H' : Hp), W.le W' → Sim G W' S H' → rep W' b a → Q b H'
  | .ex x S => ∀ (W' : Wd) (cls : Value) (od : Option Addr) (H' : Hp), W.le W' → Sim G W' S H' → ExRep G W'.F cls od x → Wx cls od σ H'
  | .bad => False
def Den (G : Gd) (rep : Wd → β → α → Prop) (Wx : WX) (f : Env → Store → R α) : L2.St → Hp → (β → Hp → Prop) → Prop := fun σ H Q =>
  ∃ (W : Wd) (env : Env) (S : Store), Sim G W S H ∧ EnvRep G W σ env ∧ Post G rep Wx σ W (f env S) Q
variable {G : Gd} {rep : Wd → β → α → Prop} {rep2 : Wd → δ → γ → Prop} {Wx : WX} {σ : L2.St} {W W' : Wd} {S : Store} {H : Hp} {env : Env} {f : Env → Store → R α} {k : α → Store → R γ} {Q : δ → Hp → Prop} {Kt : β → Hp → Prop}
theorem Post.mono {r : R α} {Q : β → Hp → Prop} (h : Post G rep Wx σ W r Q) (l : W.le W') : Post G rep Wx σ W' r Q := by
  cases r with
  | ok a S => exact fun W2 b H' l2 s e => h W2 b H' (l.trans l2) s e
  | ex x S => exact fun W2 cls od H' l2 s e => h W2 cls od H' (l.trans l2) s e
  | bad => exact h
theorem Den.step (h : Post G rep2 Wx σ W ((f env S).bind k) Q) (s : Sim G W S H) (e : EnvRep G W σ env)
    (c : ∀ (a : α) (S1 : Store) (W1 : Wd) (b : β) (H1 : Hp), f env S = .ok a S1 → W.le W1 → Sim G W1 S1 H1 → EnvRep G W1 σ env → rep W1 b a → Post G rep2 Wx σ W1 (k a S1) Q → Kt b H1) :
    Den G rep Wx f σ H Kt := by
  refine ⟨W, env, S, s, e, ?_⟩
  cases q : f env S with
  | ok a S1 =>
    rw [q] at h
    exact fun W1 b H1 l s1 r => c a S1 W1 b H1 q l s1 (e.mono l) r (Post.mono (show Post G rep2 Wx σ W (k a S1) Q from h) l)
  | ex x S1 =>
    rw [q] at h
    exact h
  | bad =>
    rw [q] at h
    exact (show False from h).elim
theorem Den.last (h : Post G rep Wx σ W (f env S) Kt) (s : Sim G W S H) (e : EnvRep G W σ env) : Den G rep Wx f σ H Kt := ⟨W, env, S, s, e, h⟩
theorem Post.step {r : R α} {β' : Type} {rep' : Wd → β' → α → Prop} {Q : δ → Hp → Prop} {Kt : β' → Hp → Prop} (h : Post G rep2 Wx σ W (r.bind k) Q)
    (c : ∀ (a : α) (S1 : Store) (W1 : Wd) (b : β') (H1 : Hp), r = .ok a S1 → W.le W1 → Sim G W1 S1 H1 → rep' W1 b a → Post G rep2 Wx σ W1 (k a S1) Q → Kt b H1) : Post G rep' Wx σ W r Kt := by
  cases r with
  | ok a S1 => exact fun W1 b H1 l s1 r => c a S1 W1 b H1 rfl l s1 r (Post.mono (show Post G rep2 Wx σ W (k a S1) Q from h) l)
  | ex x S1 => exact h
  | bad => exact h
theorem Post.ok {a : α} {b : β} {Q : β → Hp → Prop} (h : Post G rep Wx σ W (.ok a S) Q) (s : Sim G W S H) (r : rep W b a) : Q b H := h W b H (.refl W) s r
end
section
def PostS (G : Gd) (Wx : WX) (W : Wd) (m : RS) (D : Ends) : Prop := match m with
  | .nx env S => ∀ (W' : Wd) (σ : L2.St) (H : Hp), W.le W' → Sim G W' S H → EnvRep G W' σ env → D.nx σ H
  | .rt v S => ∀ (W' : Wd) (x : V) (H : Hp), W.le W' → Sim G W' S H → RepV G W' x v → D.rt x H
  | .bk env S => ∀ (W' : Wd) (σ : L2.St) (H : Hp), W.le W' → Sim G W' S H → EnvRep G W' σ env → D.bk σ H
  | .ct env S => ∀ (W' : Wd) (σ : L2.St) (H : Hp), W.le W' → Sim G W' S H → EnvRep G W' σ env → D.ct σ H
  | .ex x env S => ∀ (W' : Wd) (σ : L2.St) (cls : Value) (od : Option Addr) (H : Hp), W.le W' → Sim G W' S H → EnvRep G W' σ env → ExRep G W'.F cls od x → Wx cls od σ H
  | .bad => False
def DenS (G : Gd) (Wx : WX) (f : Env → Store → RS) : TS := fun D σ H => ∃ (W : Wd) (env : Env) (S : Store), Sim G W S H ∧ EnvRep G W σ env ∧ PostS G Wx W (f env S) D
variable {α β : Type} {G : Gd} {rep : Wd → β → α → Prop} {Wx : WX} {σ : L2.St} {W W' : Wd} {S : Store} {H : Hp} {env : Env} {f : Env → Store → R α} {k : α → Store → RS} {D : Ends} {Kt : β → Hp → Prop}
theorem PostS.mono {m : RS} (h : PostS G Wx W m D) (l : W.le W') : PostS G Wx W' m D := by
  cases m with
  | nx env S => exact fun W2 σ H l2 s e => h W2 σ H (l.trans l2) s e
  | rt v S => exact fun W2 x H l2 s e => h W2 x H (l.trans l2) s e
  | bk env S => exact fun W2 σ H l2 s e => h W2 σ H (l.trans l2) s e
  | ct env S => exact fun W2 σ H l2 s e => h W2 σ H (l.trans l2) s e
  | ex x env S => exact fun W2 σ cls od H l2 s e => h W2 σ cls od H (l.trans l2) s e
  | bad => exact h
theorem Den.stepS (h : PostS G Wx W ((f env S).st env k) D) (s : Sim G W S H) (e : EnvRep G W σ env)
    (c : ∀ (a : α) (S1 : Store) (W1 : Wd) (b : β) (H1 : Hp), f env S = .ok a S1 → W.le W1 → Sim G W1 S1 H1 → EnvRep G W1 σ env → rep W1 b a → PostS G Wx W1 (k a S1) D → Kt b H1) :
    Den G rep Wx f σ H Kt := by
  refine ⟨W, env, S, s, e, ?_⟩
  cases q : f env S with
  | ok a S1 =>
    rw [q] at h
    exact fun W1 b H1 l s1 r => c a S1 W1 b H1 q l s1 (e.mono l) r (PostS.mono (show PostS G Wx W (k a S1) D from h) l)
  | ex x S1 =>
    rw [q] at h
    exact fun W1 cls od H1 l s1 r => h W1 σ cls od H1 l s1 (e.mono l) r
  | bad =>
    rw [q] at h
    exact (show False from h).elim
end
end Rw
namespace Rw
open PySem PySem.Spec PyProof.Rows L2
structure Ck where
  N : List Str
  sc : Scope
  nm : Nm
  tab : Tab
  glF : Nat → Bool
  calm : Bool
  can : Str → Bool
  top : Bool := false
  hs : Option Nat := none
def visB (sc : Scope) (x : Str) : Bool := match sc.names.lookup x with
  | some .local => true
  | some .cell => true
  | some .free => true
  | _ => false
def glB (sc : Scope) (x : Str) : Bool := match sc.names.lookup x with
  | some .globalImplicit => true
  | _ => false
def okN (x : Str) : Bool := !(x == ("__debug__" : Str)) && (!(x == ("__classdict__" : Str)) && !decide (x = ("__name__" : Str)))
def conB : T → Const → Bool
  | .non, .none => true
  | .bl b, .bool c => b == c
  | .int i, .int j => decide (i = j)
  | .str x, .str y => decide (x = y)
  | _, _ => false
def isSet : Expr → Bool
  | .Set _ _ _ => true
  | _ => false
def isSlc : Expr → Bool
  | .Slice _ _ _ _ => true
  | _ => false
def isStar : Expr → Bool
  | .Starred _ _ => true
  | _ => false
def noStar : List Expr → Bool
  | [] => true
  | e :: es => !isStar e && noStar es
def plainT : Expr → Bool
  | .UnaryOp .Not _ _ => false
  | .BoolOp _ _ _ => false
  | .IfExp _ _ _ _ => false
  | .Compare _ _ _ _ => false
  | _ => true
def isCmpI : IE → Bool
  | .cmp _ _ _ => true
  | .cmp2 _ _ _ _ _ => true
  | .inRg _ _ _ => true
  | .eqD _ _ _ => true
  | _ => false
def bltN : Blt → Str
  | .len => "len" | .int => "int" | .str => "str" | .min2 => "min" | .max2 => "max" | .abs => "abs" | .list => "list" | .tuple => "tuple"
  | .all => "all" | .any => "any" | .sum => "sum" | .minl => "min" | .maxl => "max" | .divmod => "divmod" | .sorted => "sorted" | .bool => "bool" | .dict => "dict"
def tyN (nm : Nm) : Ty → Str
  | .int => "int" | .bool => "bool" | .str => "str" | .list => "list" | .tuple => "tuple" | .dict => "dict" | .cls c => nm.clN c
def isCl (tab : Tab) : Ty → Bool
  | .cls c => (tab.cl c).isSome
  | _ => true
def tysB (C : Ck) : List Ty → List Expr → Bool
  | [], [] => true
  | t :: ts, .Name x _ :: es => glB C.sc x && (okN x && (decide (x = tyN C.nm t) && (isCl C.tab t && tysB C ts es)))
  | _, _ => false
def locB (sc : Scope) (x : Str) : Bool := match sc.names.lookup x with
  | some .local => true
  | some .cell => true
  | _ => false
def isSup : Expr → Bool
  | .Call (.Name x _) [] [] _ => decide (x = ("super" : Str))
  | _ => false
def isTupE : Expr → Bool
  | .Tuple _ _ _ => true
  | _ => false
def chkTg (C : Ck) : List Nat → List Expr → Bool
  | [], [] => true
  | i :: is, .Name x _ :: es => decide (C.N[i]? = some x) && (C.can x && chkTg C is es)
  | _, _ => false
def chkT (C : Ck) (many : Bool) (tg : List Nat) (e : Expr) : Bool := match many, tg, e with
  | false, [i], .Name x _ => decide (C.N[i]? = some x) && C.can x
  | true, is, .Tuple es _ _ => chkTg C is es && C.calm
  | _, _, _ => false
def ownOf (N : List Str) (tg : List Nat) : List (Str × Nat) := tg.map fun i => ((N[i]?).getD Str.empty, i)
def blkSc (sc scope : Scope) : Scope := { scope with names := scope.names.map fun (n, k) => if (k == NameKind.free && sc.kind == .function && sc.names.lookup n == some .cell) then (n, NameKind.cell) else (n, k) }
def Ck.blk (C : Ck) (scope : Scope) : Ck := { C with sc := blkSc C.sc scope, can := locB scope, top := false }
def newB (tab : Tab) (c m : Nat) : Bool := match tab.cl c with
  | some k => (match k.init with
    | some f => arity tab f (m + 1)
    | none => decide (m = 0))
  | none => false
def bmN : BM → Str
  | .append => "append" | .pop => "pop" | .popi => "pop" | .insert => "insert" | .extend => "extend" | .index => "index" | .count => "count"
def bmA : BM → Nat → Bool
  | .pop, n => decide (n = 0)
  | .append, n => decide (n = 1)
  | .extend, n => decide (n = 1)
  | .insert, n => decide (n = 2)
  | .popi, n => decide (n = 1)
  | .index, n => decide (n = 1)
  | .count, n => decide (n = 1)
def m1P (m : Str) : Expr → Option (Expr × Expr)
  | .Call (.Attribute a n ap) [y] [] cp => if decide (n = m) && (ap.endLine == cp.line) then some (a, y) else none
  | _ => none
theorem m1P_ok {m : Str} {e a y : Expr} (h : m1P m e = some (a, y)) : ∃ ap cp, e = .Call (.Attribute a m ap) [y] [] cp ∧ (ap.endLine == cp.line) = true := by
  unfold m1P at h
  split at h
  · split at h
    · rename_i c
      obtain ⟨c1, c2⟩ := Bool.and_eq_true_iff.mp c
      have c1 := of_decide_eq_true c1
      subst c1
      cases h
      exact ⟨_, _, rfl, c2⟩
    · cases h
  · cases h
def tmN : TM → Str
  | .strip => "strip" | .starts => "startswith" | .ends => "endswith" | .find => "find" | .zfill => "zfill" | .part => "partition" | .idx => "index"
def cintB (k : Int) : Expr → Bool
  | .Constant c _ _ => conB (.int k) c
  | _ => false
def m2P (m : Str) : Expr → Option (Expr × Expr × Expr)
  | .Call (.Attribute a n ap) [y, f] [] cp => if decide (n = m) && (ap.endLine == cp.line) then some (a, y, f) else none
  | _ => none
theorem m2P_ok {m : Str} {e a y f : Expr} (h : m2P m e = some (a, y, f)) : ∃ ap cp, e = .Call (.Attribute a m ap) [y, f] [] cp ∧ (ap.endLine == cp.line) = true := by
  unfold m2P at h
  split at h
  · split at h
    · rename_i c
      obtain ⟨c1, c2⟩ := Bool.and_eq_true_iff.mp c
      have c1 := of_decide_eq_true c1
      subst c1
      cases h
      exact ⟨_, _, rfl, c2⟩
    · cases h
  · cases h
def svP : Expr → Option Expr
  | .Call (.Name x _) [.Call (.Attribute o m ap) [] [] mp] [] _ => if decide (x = ("sum" : Str)) && (decide (m = ("values" : Str)) && (ap.endLine == mp.line)) then some o else none
  | _ => none
theorem svP_ok {e o : Expr} (h : svP e = some o) : ∃ p ap mp q, e = .Call (.Name "sum" p) [.Call (.Attribute o "values" ap) [] [] mp] [] q ∧ (ap.endLine == mp.line) = true := by
  unfold svP at h
  split at h
  · split at h
    · rename_i c
      obtain ⟨c1, c⟩ := Bool.and_eq_true_iff.mp c
      obtain ⟨c2, c3⟩ := Bool.and_eq_true_iff.mp c
      have c1 := of_decide_eq_true c1
      have c2 := of_decide_eq_true c2
      subst c1 c2
      cases h
      exact ⟨_, _, _, _, rfl, c3⟩
    · cases h
  · cases h
def dzP : Expr → Option (Expr × Expr)
  | .Call (.Name x _) [.Call (.Name y _) [a, b] [] _] [] _ => if decide (x = ("dict" : Str)) && decide (y = ("zip" : Str)) then some (a, b) else none
  | _ => none
theorem dzP_ok {e a b : Expr} (h : dzP e = some (a, b)) : ∃ p p2 q q2, e = .Call (.Name "dict" p) [.Call (.Name "zip" p2) [a, b] [] q] [] q2 := by
  unfold dzP at h
  split at h
  · split at h
    · rename_i c
      obtain ⟨c1, c2⟩ := Bool.and_eq_true_iff.mp c
      have c1 := of_decide_eq_true c1
      have c2 := of_decide_eq_true c2
      subst c1 c2
      cases h
      exact ⟨_, _, _, _, rfl⟩
    · cases h
  · cases h
def nameP : Expr → Option Str
  | .Name x _ => some x
  | _ => none
theorem nameP_ok {e : Expr} {x : Str} (h : nameP e = some x) : ∃ p, e = .Name x p := by
  unfold nameP at h
  split at h
  · cases h
    exact ⟨_, rfl⟩
  · cases h
def isStrs : Option T → Bool
  | some (.tup ts) => (strsT ts).isSome
  | _ => false
theorem isStrs_ok {o : Option T} (h : isStrs o = true) : ∃ ts ys, o = some (.tup ts) ∧ strsT ts = some ys := by
  unfold isStrs at h
  split at h
  · obtain ⟨ys, e⟩ := Option.isSome_iff_exists.mp h
    exact ⟨_, ys, rfl, e⟩
  · cases h
def cixP : Expr → Option (Str × Expr)
  | .Call (.Attribute (.Name x _) n ap) [y] [] cp => if decide (n = ("index" : Str)) && (ap.endLine == cp.line) then some (x, y) else none
  | _ => none
theorem cixP_ok {e : Expr} {x : Str} {y : Expr} (h : cixP e = some (x, y)) : ∃ p ap cp, e = .Call (.Attribute (.Name x p) "index" ap) [y] [] cp ∧ (ap.endLine == cp.line) = true := by
  unfold cixP at h
  split at h
  · split at h
    · rename_i c
      obtain ⟨c1, c2⟩ := Bool.and_eq_true_iff.mp c
      have c1 := of_decide_eq_true c1
      subst c1
      cases h
      exact ⟨_, _, _, rfl, c2⟩
    · cases h
  · cases h
def lsP : Expr → Option Expr
  | .Call (.Name x _) [.Call (.Name z _) [y] [] _] [] _ => if decide (x = ("len" : Str)) && decide (z = ("set" : Str)) then some y else none
  | _ => none
theorem lsP_ok {e y : Expr} (h : lsP e = some y) : ∃ p p2 q q2, e = .Call (.Name "len" p) [.Call (.Name "set" p2) [y] [] q] [] q2 := by
  unfold lsP at h
  split at h
  · split at h
    · rename_i c
      obtain ⟨c1, c2⟩ := Bool.and_eq_true_iff.mp c
      have c1 := of_decide_eq_true c1
      have c2 := of_decide_eq_true c2
      subst c1 c2
      cases h
      exact ⟨_, _, _, _, rfl⟩
    · cases h
  · cases h
def exP : Expr → Option (Str × Bool × List Expr)
  | .Call (.Name f _) [.Name x _, .Name z zp] [] _ => if decide (f = ("isinstance" : Str)) then some (x, false, [.Name z zp]) else none
  | .Call (.Name f _) [.Name x _, .Tuple zs _ _] [] _ => if decide (f = ("isinstance" : Str)) then some (x, true, zs) else none
  | _ => none
theorem exP_ok {e : Expr} {x : Str} {m : Bool} {zs : List Expr} (h : exP e = some (x, m, zs)) : (m = false ∧ ∃ p p2 z zp q, e = .Call (.Name "isinstance" p) [.Name x p2, .Name z zp] [] q ∧ zs = [.Name z zp]) ∨
    (m = true ∧ ∃ p p2 k tp q, e = .Call (.Name "isinstance" p) [.Name x p2, .Tuple zs k tp] [] q) := by
  unfold exP at h
  split at h
  · split at h
    · rename_i c
      have c1 := of_decide_eq_true c
      subst c1
      cases h
      exact .inl ⟨rfl, _, _, _, _, _, rfl, rfl⟩
    · cases h
  · split at h
    · rename_i c
      have c1 := of_decide_eq_true c
      subst c1
      cases h
      exact .inr ⟨rfl, _, _, _, _, _, rfl⟩
    · cases h
  · cases h
def lrP : Expr → Option Expr
  | .Call (.Name x _) [.Call (.Name z _) [y] [] _] [] _ => if decide (x = ("list" : Str)) && decide (z = ("range" : Str)) then some y else none
  | _ => none
theorem lrP_ok {e y : Expr} (h : lrP e = some y) : ∃ p p2 q q2, e = .Call (.Name "list" p) [.Call (.Name "range" p2) [y] [] q] [] q2 := by
  unfold lrP at h
  split at h
  · split at h
    · rename_i c
      obtain ⟨c1, c2⟩ := Bool.and_eq_true_iff.mp c
      have c1 := of_decide_eq_true c1
      have c2 := of_decide_eq_true c2
      subst c1 c2
      cases h
      exact ⟨_, _, _, _, rfl⟩
    · cases h
  · cases h
def irP : Expr → Option (Bool × Expr × Expr)
  | .Compare l [.In] [.Call (.Name z _) [y] [] _] _ => if decide (z = ("range" : Str)) then some (false, l, y) else none
  | .Compare l [.NotIn] [.Call (.Name z _) [y] [] _] _ => if decide (z = ("range" : Str)) then some (true, l, y) else none
  | _ => none
theorem irP_ok {e l y : Expr} {neg : Bool} (h : irP e = some (neg, l, y)) : ∃ p2 q p, e = .Compare l [if neg then .NotIn else .In] [.Call (.Name "range" p2) [y] [] q] p := by
  unfold irP at h
  split at h
  · split at h
    · rename_i c
      have c := of_decide_eq_true c
      subst c
      cases h
      exact ⟨_, _, _, rfl⟩
    · cases h
  · split at h
    · rename_i c
      have c := of_decide_eq_true c
      subst c
      cases h
      exact ⟨_, _, _, rfl⟩
    · cases h
  · cases h
def dct0P : Expr → Bool
  | .Dict [] [] _ => true
  | _ => false
theorem dct0P_ok {e : Expr} (h : dct0P e = true) : ∃ p, e = .Dict [] [] p := by
  unfold dct0P at h
  split at h
  · exact ⟨_, rfl⟩
  · cases h
def dct1P : Expr → Option (Int × Int)
  | .Dict [some (.Constant (.int k) _ _)] [.Constant (.int v) _ _] _ => some (k, v)
  | _ => none
theorem dct1P_ok {e : Expr} {k v : Int} (h : dct1P e = some (k, v)) : ∃ a b c d p, e = .Dict [some (.Constant (.int k) a b)] [.Constant (.int v) c d] p := by
  unfold dct1P at h
  split at h
  · cases h
    exact ⟨_, _, _, _, _, rfl⟩
  · cases h
def isxP : Expr → Option (Expr × Expr)
  | .Call (.Name f _) [a, z] [] _ => if decide (f = ("isinstance" : Str)) then some (a, z) else none
  | _ => none
theorem isxP_ok {e a z : Expr} (h : isxP e = some (a, z)) : ∃ p q, e = .Call (.Name "isinstance" p) [a, z] [] q := by
  unfold isxP at h
  split at h
  · split at h
    · rename_i c
      have c := of_decide_eq_true c
      subst c
      cases h
      exact ⟨_, _, rfl⟩
    · cases h
  · cases h
def exsB (C : Ck) : List (Option Nat) → List Expr → Bool
  | [], [] => true
  | none :: ts, .Name x _ :: es => glB C.sc x && (okN x && (decide (x = ("ValueError" : Str)) && exsB C ts es))
  | some d :: ts, .Name x _ :: es => glB C.sc x && (okN x && (decide (x = C.nm.exN d) && ((C.tab.exc d).isSome && exsB C ts es)))
  | _, _ => false
def keysB : List Key → List (Option Expr) → Bool
  | [], [] => true
  | .inl i :: ks, some (.Constant (.int j) _ _) :: es => decide (i = j) && keysB ks es
  | .inr x :: ks, some (.Constant (.str y) _ _) :: es => decide (x = y) && keysB ks es
  | _, _ => false
def hotB (tab : Tab) (f : Nat) : Bool := match tab.fn f with
  | some d => d.hot && decide (d.np = 1)
  | none => false
mutual
def chkE (C : Ck) : IE → Expr → Bool
  | .var i, .Name x _ => decide (C.N[i]? = some x) && (visB C.sc x && (okN x && decide (C.hs ≠ some i)))
  | .listRg a, e => match lrP e with
    | some y => glB C.sc ("list" : Str) && (glB C.sc ("range" : Str) && (chkE C a y && (!isStar y && C.calm)))
    | none => false
  | .inRg neg a b, e => match irP e with
    | some (n2, l, y) => (n2 == neg) && (glB C.sc ("range" : Str) && (chkE C a l && (chkE C b y && !isStar y)))
    | none => false
  | .dct0, e => dct0P e
  | .dct1 k v, e => decide (dct1P e = some (k, v))
  | .dctD _ ks es, .Dict keys values _ => keysB ks keys && (chkEs C es values && (decide (keys.length = values.length) && (nodupK ks && decide (ks.length ≤ 15))))
  | .upd o e, .Call (.Attribute x nm ap) [y] [] cp => chkE C o x && (!isSup x && (decide (nm = ("update" : Str)) && (chkE C e y && (!isStar y && (ap.endLine == cp.line)))))
  | .exIs i many ts, e => match exP e with
    | some (x, m, zs) => decide (C.hs = some i) && (decide (C.N[i]? = some x) && (visB C.sc x && (okN x && (glB C.sc ("isinstance" : Str) && (m == many && (exsB C ts zs && (noStar zs && decide (ts.length ≤ 1000))))))))
    | none => false
  | .hot f i, .Call (.Name g _) [.Name x _] [] _ => decide (C.hs = some i) && (decide (C.N[i]? = some x) && (visB C.sc x && (okN x && (glB C.sc g && (okN g && (decide (g = C.nm.fnN f) && (hotB C.tab f && C.glF f)))))))
  | .exAt i f, .Attribute (.Name x _) n _ => decide (C.hs = some i) && (decide (C.N[i]? = some x) && (visB C.sc x && (okN x && decide (n = C.nm.atN f))))
  | .con t, .Constant c _ _ => conB t c
  | .bin op a b, .BinOp l o r _ => decide (op = o) && (chkE C a l && chkE C b r)
  | .binM op a b, .BinOp l o r _ => decide (op = o) && (chkE C a l && chkE C b r)
  | .neg a, .UnaryOp .USub e _ => chkE C a e
  | .cmp op a b, .Compare l [o] [r] _ => decide (op = o) && (chkE C a l && (chkE C b r && !isSet r))
  | .cmp2 o p a b c, .Compare l [o2, p2] [m, r] _ => decide (o = o2) && (decide (p = p2) && (chkE C a l && (chkE C b m && (chkE C c r && (!isSet m && !isSet r)))))
  | .not a, .UnaryOp .Not e _ => chkE C a e
  | .ands es, .BoolOp .And vs _ => chkEs C es vs
  | .ors es, .BoolOp .Or vs _ => chkEs C es vs
  | .ife t a b, .IfExp c x y _ => chkC C t c && (chkE C a x && chkE C b y)
  | .tup es, .Tuple xs _ _ => chkEs C es xs && noStar xs
  | .lst _ es, .List xs _ => chkEs C es xs && noStar xs
  | .sub a i, .Subscript e x _ => chkE C a e && (chkE C i x && !isSlc x)
  | .call f es, .Call (.Name x _) xs [] _ => glB C.sc x && (okN x && (decide (x = C.nm.fnN f) && (chkEs C es xs && (noStar xs && (arity C.tab f xs.length && (C.glF f && C.calm))))))
  | .glob g, .Name x _ => glB C.sc x && (okN x && (decide (x = C.nm.coN g) && (C.tab.con g).isSome))
  | .slc _ a lo hi, .Subscript e (.Slice l h none _) _ => chkE C a e && ((match l with
    | none => isNo lo
    | some x => !isNo lo && chkE C lo x) && (match h with
    | none => isNo hi
    | some x => !isNo hi && chkE C hi x))
  | .rev _ a, .Subscript e (.Slice none none (some (.UnaryOp .USub (.Constant (.int i) _ _) _)) _) _ => decide (i = 1) && chkE C a e
  | .fld o f, .Attribute e x _ => chkE C o e && (decide (x = C.nm.atN f) && !isSup e)
  | .new c es, .Call (.Name x _) xs [] _ => glB C.sc x && (okN x && (decide (x = C.nm.clN c) && (chkEs C es xs && (noStar xs && (newB C.tab c xs.length && C.calm)))))
  | .meth o f es, .Call (.Attribute e x ap) xs [] cp => chkE C o e && (!isSup e && (decide (x = C.nm.atN f) && (chkEs C es xs && (noStar xs && (decide (xs.length < 20) && ((ap.endLine == cp.line) && C.calm))))))
  | .cix g i, e => match cixP e with
    | some (x, y) => glB C.sc x && (okN x && (decide (x = C.nm.coN g) && (chkE C i y && (!isStar y && isStrs (C.tab.con g)))))
    | none => false
  | .split _ a es, e => match m1P "split" e with
    | some (x, y) => chkE C a x && (!isSup x && (chkEs C es [y] && !isStar y))
    | none => false
  | .dgetT o i, e => match m1P "get" e with
    | some (x, y) => chkE C o x && (!isSup x && (chkE C i y && !isStar y))
    | none => false
  | .dgetD o i d, e => match m2P "get" e with
    | some (x, y, f) => chkE C o x && (!isSup x && (chkE C i y && (!isStar y && (chkE C d f && !isStar f))))
    | none => false
  | .mkx c es, .Call (.Name x _) ys [] _ => glB C.sc x && (okN x && (decide (x = C.nm.exN c) && (chkEs C es ys && (noStar ys && (decide (ys.length = 1) && ((C.tab.exc c).isSome && (((C.tab.exa c).isSome || C.tab.exr c) && C.calm)))))))
  | .isx a ts, e => match isxP e with
    | some (y, z) => glB C.sc ("isinstance" : Str) && (chkE C a y && (!isStar y && (exsB C ts [z] && (noStar [z] && decide (ts.length = 1)))))
    | none => false
  | .exvAt a f, .Attribute x n _ => chkE C a x && (decide (n = C.nm.atN f) && !isSup x)
  | .fnv g, .Name x _ => glB C.sc x && (okN x && (decide (x = C.nm.fnN g) && C.glF g))
  | .callV a gs es, .Call (.Name x p) (y :: ys) [] _ => chkE C a (.Name x p) && (chkEs C es (y :: ys) && (noStar (y :: ys) && (gs.all C.glF && C.calm)))
  | .join a es, e => match m1P "join" e with
    | some (x, y) => chkE C a x && (!isSup x && (chkEs C es [y] && !isStar y))
    | none => false
  | .tcount a es, e => match m1P "count" e with
    | some (x, y) => chkE C a x && (!isSup x && (chkEs C es [y] && !isStar y))
    | none => false
  | .tm q a es, e => match m1P (tmN q) e with
    | some (x, y) => chkE C a x && (!isSup x && (chkEs C es [y] && !isStar y))
    | none => false
  | .dget g i, e => match m1P "get" e with
    | some (d, y) => (match nameP d with
      | some x => glB C.sc x && (okN x && (decide (x = C.nm.dcN g) && (chkE C i y && (!isStar y && (C.tab.dc g).isSome))))
      | none => false)
    | none => false
  | .dgetI g i k, e => match m2P "get" e with
    | some (d, y, f) => (match nameP d with
      | some x => glB C.sc x && (okN x && (decide (x = C.nm.dcN g) && (chkE C i y && (!isStar y && (cintB k f && (!isStar f && (C.tab.dc g).isSome))))))
      | none => false)
    | none => false
  | .dctZ _ a b, e => match dzP e with
    | some (x, y) => glB C.sc ("dict" : Str) && (glB C.sc ("zip" : Str) && (chkE C a x && (!isStar x && (chkE C b y && (!isStar y && C.calm)))))
    | none => false
  | .eqD neg a b, .Compare l [o] [r] _ => decide (o = if neg then .NotEq else .Eq) && (chkE C a l && (chkE C b r && !isSet r))
  | .sumV a, e => match svP e with
    | some y => glB C.sc ("sum" : Str) && (chkE C a y && (!isSup y && C.calm))
    | none => false
  | .lenSet a, e => match lsP e with
    | some y => glB C.sc ("len" : Str) && (glB C.sc ("set" : Str) && (chkE C a y && (!isStar y && C.calm)))
    | none => false
  | .bm b _ o es, .Call (.Attribute e x ap) xs [] cp => chkE C o e && (!isSup e && (decide (x = bmN b) && (chkEs C es xs && (noStar xs && (bmA b xs.length && (ap.endLine == cp.line))))))
  | .comp _ k src many tg ifs elt, .ListComp e [⟨t, it, xs, n⟩] scope _ => decide (n = 0) && (chkIt C t k src it && (L2.blkC C.N C.sc scope (ownOf C.N tg) && (chkT (C.blk scope) many tg t && (chkIfs (C.blk scope) ifs xs && (chkE (C.blk scope) elt e && C.calm)))))
  | .blt b _ es, .Call (.Name x _) (e :: xs) [] _ => glB C.sc x && (okN x && (decide (x = bltN b) && (chkEs C es (e :: xs) && (noStar (e :: xs) && (!needCalm b || C.calm)))))
  | .isi e false [t], .Call (.Name x _) [y, .Name z _] [] _ => glB C.sc x && (okN x && (decide (x = ("isinstance" : Str)) && (chkE C e y && (!isStar y && (glB C.sc z && (okN z && (decide (z = tyN C.nm t) && isCl C.tab t)))))))
  | .isi e true ts, .Call (.Name x _) [y, .Tuple zs _ _] [] _ => glB C.sc x && (okN x && (decide (x = ("isinstance" : Str)) && (chkE C e y && (!isStar y && (tysB C ts zs && (noStar zs && (!ts.isEmpty && decide (ts.length ≤ 1000))))))))
  | _, _ => false
def chkEs (C : Ck) : IEs → List Expr → Bool
  | .nil, [] => true
  | .cons e es, x :: xs => chkE C e x && chkEs C es xs
  | _, _ => false
def chkC (C : Ck) : IC → Expr → Bool
  | .val e, x => chkE C e x && (plainT x || isCmpI e)
  | .not c, .UnaryOp .Not e _ => chkC C c e
  | .ands cs, .BoolOp .And vs _ => chkCs C cs vs && !vs.isEmpty
  | .ors cs, .BoolOp .Or vs _ => chkCs C cs vs && !vs.isEmpty
  | _, _ => false
def chkCs (C : Ck) : ICs → List Expr → Bool
  | .nil, [] => true
  | .cons c cs, x :: xs => chkC C c x && chkCs C cs xs
  | _, _ => false
def chkIfs (C : Ck) : ICs → List Expr → Bool
  | .nil, [] => true
  | .cons c .nil, [x] => chkC C c x
  | _, _ => false
def chkIt (C : Ck) (t : Expr) : ItK → IEs → Expr → Bool
  | .zip, .cons a (.cons b .nil), .Call (.Name x _) [y, z] [] _ => decide (x = ("zip" : Str)) && (glB C.sc x && (chkE C a y && (chkE C b z && (!isStar y && (!isStar z && isTupE t)))))
  | .enum, .cons a .nil, .Call (.Name x _) [y] [] _ => decide (x = ("enumerate" : Str)) && (glB C.sc x && (chkE C a y && (!isStar y && isTupE t)))
  | .seq, .cons a .nil, e => chkE C a e && !isSet e
  | .range, .cons a .nil, .Call (.Name x _) [y] [] _ => decide (x = ("range" : Str)) && (glB C.sc x && (chkE C a y && !isStar y))
  | .range, .cons a (.cons b .nil), .Call (.Name x _) [y, z] [] _ => decide (x = ("range" : Str)) && (glB C.sc x && (chkE C a y && (chkE C b z && (!isStar y && !isStar z))))
  | _, _, _ => false
end
def dflV (d : Fn) (m : Nat) : List Val := (d.dfl.drop (d.dfl.length - (d.np - m))).map Val.t
def spR (G : Gd) (np : Nat) (run : List Val → Store → R Val) : Sp := fun vs H Q E => ∃ (W : Wd) (S : Store) (ds : List Val), Sim G W S H ∧ Paired (RepV G W) vs ds ∧ ds.length = np ∧
  Post G (RepV G) (fun c o _ H => E c o H) [] W (run ds S) Q
structure FnFact (G : Gd) (base : Heap) (k : Nat) (f : Nat) (d : Fn) (run : List Val → Store → R Val) : Prop where
  ex : ∃ (fd : FuncData) (ps : List Str), FnOk G.prog G.w G.K G.mg base (L2.CX G.prog G.w) k (G.fA f) fd ps (spR G d.np run) ∧
    ∀ m, m ≤ d.np → d.np - m ≤ d.dfl.length → ∃ (ds : List Value) (dvs : List V), Binds G.K fd ps ds ∧ Vals dvs ds ∧ ∀ W, Paired (RepV G W) dvs (dflV d m)
structure HotFact (G : Gd) (base : Heap) (k : Nat) (f : Nat) (d : Fn) (run : List Val → Store → R Val) : Prop where
  ex : d.np = 1 → ∃ (fd : FuncData) (q : Str), Binds G.K fd [q] [] ∧ ∀ (h : Option (Nat × Addr × HC)) (A : Around) (outer : List PySem.Env) (s : Shared) (H : Hp) (args : Args) (W : Wd) (S : Store) (a : Addr) (oe : Obj) (c : HC) (fs : List (Nat × T)) (l : List Nat) (Q : VK), L2H.RoomH k A → L2H.PinOk outer H s (a, oe) →
    Env0 G.prog G.w G.K G.mg base A outer s H → BindsTo s fd args [(q, .ref a)] → Zc (.ref (G.eA c.1)) c.2 oe → (∃ vs, oe.data = .fields vs) → G.tab.exc c.1 = some l → ExF (G.hd h) W.F c.1 c.2 fs → Sim (G.hd h) W S H → Post (G.hd h) (RepV (G.hd h)) (fun _ _ _ _ => False) [] W (run [.t (.exn c.1 fs)] S) Q →
    codeAny (model G.prog G.w) A (.call (.ref (G.fA f)) args) (CR (L2.CX G.prog G.w) outer G.prog G.w H s Q fun _ _ _ => False) s
def tyC (G : Gd) : Ty → Value
  | .int => .type "int" | .bool => .type "bool" | .str => .type "str" | .list => .type "list" | .tuple => .type "tuple" | .dict => .type "dict" | .cls c => .ref (G.cA c)
def tyW (G : Gd) : Ty → V
  | .int => .ty "int" | .bool => .ty "bool" | .str => .ty "str" | .list => .ty "list" | .tuple => .ty "tuple" | .dict => .ty "dict" | .cls c => .ref (G.cA c)
structure Mk0 (K : PySem.W.Frag) (C : Addr) : Prop where
  makes : PySem.W.makesIn K C = true
  init : PySem.W.findIn K (.ref C) "__init__" = some (some (.builtin "object.__init__"))
  kp : PySem.W.keepIn K (.ref C) = true
structure ClsFact (G : Gd) (c : Nat) (cl : Cl) : Prop where
  cls : Cls G.K (G.cA c)
  ha : PySem.W.findIn G.K (.ref (G.cA c)) "__class__" = some (some (.builtin "object.__class__"))
  hn : PySem.W.specialIn G.K (.builtin "object.__class__") "__get__" = some (some (.builtin "getset_descriptor.__get__"))
  htk : PySem.W.takesIn G.K (.builtin "object.__class__") = some true
  hm : PySem.W.mroIn G.K (G.cA c) (.type "object") = some true
  isB : ∀ t ∈ [Ty.int, Ty.bool, Ty.str, Ty.list, Ty.tuple, Ty.dict], PySem.W.kitOne G.K (.ref (G.cA c)) (tyC G t) = some false
  isC : ∀ d cd, G.tab.cl d = some cd → PySem.W.kitOne G.K (.ref (G.cA c)) (.ref (G.cA d)) = some (cl.sup.contains d)
  isD : ∀ t ∈ ["NoneType", "bool", "int", "str", "tuple", "list", "dict"], PySem.W.kitOne G.K (.type t) (.ref (G.cA c)) = some false
  mg : G.mg (G.nm.clN c) = some (.ref (G.cA c))
  na : ∀ f ∈ cl.flds, f < G.nAt ∧ NoAttr G.K (G.cA c) (G.nm.atN f)
  mt : ∀ f g, cl.meths.lookup f = some g → f < G.nAt ∧ Meth G.K (G.cA c) (G.nm.atN f) (G.fA g) ∧ (G.tab.fn g).isSome = true
  mkf : match cl.init with
    | some f => Mk G.K (G.cA c) (G.fA f)
    | none => Mk0 G.K (G.cA c)
structure ExcFact (G : Gd) (c : Nat) : Prop where
  mg : G.mg (G.nm.exN c) = some (.ref (G.eA c))
  ex : G.tab.exr c = true → PySem.W.excIn G.K (G.eA c) He.veBase "ValueError.__new__" = true ∧ PySem.W.keepIn G.K (.ref (G.eA c)) = true
  sub : PySem.W.subIn G.K (.ref (G.eA c)) (.type "BaseException") = some true
  ty : PySem.W.typeIn G.K (.ref (G.eA c)) = some (.type "type")
  isE : ExcC G.K (G.eA c)
  ve : PySem.W.kitOne G.K (.ref (G.eA c)) (.type "ValueError") = some true
  kO : ∀ lc, G.tab.exc c = some lc → ∀ d l, G.tab.exc d = some l → PySem.W.kitOne G.K (.ref (G.eA c)) (.ref (G.eA d)) = some (lc.contains d) ∧ PySem.W.exmOne G.K (.ref (G.eA c)) (.ref (G.eA d)) = some (lc.contains d)
def initP : List Stmt → Option (Str × Str × Str × Str)
  | [.Expr (.Call (.Attribute (.Name b _) i ap) [.Name s _, .BinOp (.Constant (.str pre) _ _) .Add (.Call (.Name t _) [.Name a _] [] _) _] [] cp) _, .Assign [.Attribute (.Name s2 _) f _] (.Name a2 _) _] =>
    if i = ("__init__" : Str) ∧ t = ("str" : Str) ∧ s2 = s ∧ a2 = a ∧ pre.length ≤ 100 ∧ (ap.endLine == cp.line) = true then some (b, s, a, f) else none
  | _ => none
theorem initP_ok {body : List Stmt} {b s a f : Str} (h : initP body = some (b, s, a, f)) : ∃ p1 p2 p3 pre j p4 p5 p6 p7 p8 p9 q1 q2 q3 q4 q5, (pre.length ≤ 100 ∧ (p2.endLine == p9.line) = true) ∧ body = [.Expr (.Call (.Attribute (.Name b p1) "__init__" p2) [.Name s p3, .BinOp (.Constant (.str pre) j p4) .Add (.Call (.Name "str" p5) [.Name a p6] [] p7) p8] [] p9) q1, .Assign [.Attribute (.Name s q2) f q3] (.Name a q4) q5] := by
  unfold initP at h
  split at h
  · split at h
    · rename_i c
      obtain ⟨rfl, rfl, rfl, rfl, c5⟩ := c
      cases h
      exact ⟨_, _, _, _, _, _, _, _, _, _, _, _, _, _, _, _, c5, rfl⟩
    · cases h
  · cases h
structure InitX (G : Gd) (c g f : Nat) : Prop where
  nf : f < G.nAt
  mg : G.mg (G.nm.exN c) = some (.ref (G.eA c))
  T : OexC G.K (G.eA c)
  iC : PySem.W.findIn G.K (.ref (G.eA c)) "__init__" = some (some (.ref (G.fA g)))
  tI : PySem.W.typeIn G.K (.ref (G.fA g)) = some (.type "function")
  hno : PySem.W.findIn G.K (.ref (G.eA c)) (G.nm.atN f) = some none
  ex : ∃ (x qual : Str) (params : Arguments) (body : List Stmt) (scope : Scope) (fd : FuncData) (N ps : List Str) (b s a : Str) (C0 : Addr) (mc : Value), FunD G.K x qual params body scope [] [] (G.fA g) fd ∧ FnScope N ps scope ∧ Binds G.K fd ps [] ∧ initP body = some (b, s, a, G.nm.atN f) ∧
    N[0]? = some s ∧ N[1]? = some a ∧ ps.length = 2 ∧ visB scope s = true ∧ visB scope a = true ∧ okN s = true ∧ okN a = true ∧ okN b = true ∧ glB scope b = true ∧ glB scope "str" = true ∧
    G.mg b = some (.ref C0) ∧ G.mg "str" = none ∧ ClX.CRead G.K C0 mc ∧ PySem.W.findCls G.K (.ref C0) mc "__init__" = some (.val (.builtin "ValueError.__init__"))
def flV : T → Option V
  | .str x => some (.str x)
  | .int i => some (.int i)
  | .bl b => some (.bl b)
  | .non => some .non
  | _ => none
structure DcFact (G : Gd) (g : Nat) (kvs : List (Str × T)) : Prop where
  ex : ∃ d es n, G.mg (G.nm.dcN g) = some (.ref d) ∧ KDict G.K G.w d es n ∧ ∀ z, ∃ r, PySem.W.nsIn G.K d z = some r ∧ (match kvs.lookup z with
    | none => r = none
    | some t => ∃ u v, r = some u ∧ RelV v u ∧ flV t = some v)
structure XOk (G : Gd) (C : Ck) (X : Cx) (Wx : WX) (k : Nat) (call : Call) : Prop where
  prog : X.prog = G.prog
  w : X.w = G.w
  K : X.K = G.K
  mg : X.mg = G.mg
  N : X.N = C.N
  nd : X.N.Nodup
  sc : X.env.scope = C.sc
  room : C.calm = true → Room (k + 1) X.A
  roomH : L2H.RoomH (k + 1) X.A
  hu : X.A.units + 64 < cLine
  calm : C.calm = true → X.calm = true
  tk : Takes X Wx
  pas : PassesOwn (model X.prog X.w) X.A X.env X.xe
  tab : C.tab = G.tab
  nm : C.nm = G.nm
  free : ∀ x : Str, x ∈ ["len", "int", "str", "min", "max", "abs", "list", "tuple", "all", "any", "sum", "divmod", "sorted", "bool", "isinstance", "range", "enumerate", "zip", "dict", "set", "ValueError"].map Str.ofString → G.mg x = none
  gl : ∀ f, C.glF f = true → G.mg (G.nm.fnN f) = some (.ref (G.fA f)) ∧ PySem.W.keepIn G.K (.ref (G.fA f)) = true
  cls : ∀ (c : Nat) (cl : Cl), G.tab.cl c = some cl → ClsFact G c cl
  fns : C.calm = true → ∀ (f : Nat) (d : Fn), G.tab.fn f = some d → d.hot = false → ∃ run : List Val → Store → R Val, (∀ vs S, call f vs S = run (vs ++ dflV d vs.length) S) ∧ FnFact G X.base k f d run
  fnsH : ∀ (f : Nat) (d : Fn), G.tab.fn f = some d → d.hot = true → ∃ run : List Val → Store → R Val, (∀ vs S, call f vs S = run (vs ++ dflV d vs.length) S) ∧ HotFact G X.base k f d run
  okf : ∀ f g, f < G.nAt → g < G.nAt → G.nm.atN f = G.nm.atN g → f = g
  con : ∀ g t, G.tab.con g = some t → ∃ v u, G.mg (G.nm.coN g) = some u ∧ RelV v u ∧ (∀ F, Rep G F v t) ∧ ∀ ts, t = .tup ts → ∃ p o, v = .ref p ∧ G.K.lookup p = some o ∧ o.cls = .type "tuple" ∧ o.dict = none
  exc : ∀ c l, G.tab.exc c = some l → ExcFact G c
  dc : ∀ g kvs, G.tab.dc g = some kvs → DcFact G g kvs
  xa : ∀ c g f, G.tab.exa c = some (g, f) → InitX G c g f
  hk : 0 < k
  hs : G.hs.map (fun h => h.1) = C.hs
  cs : C.calm = true → C.hs = none
  hx : ∀ i a c, G.hs = some (i, a, c) → ∃ (oe : Obj), (a, oe) ∈ X.pn ∧ Zc (.ref (G.eA c.1)) c.2 oe ∧ (∃ vs, oe.data = .fields vs) ∧ ∃ l, G.tab.exc c.1 = some l
  stk : C.top = true → X.stack = X.env :: X.outer ∧ X.env.frame = some X.env.locals
  can : ∀ (i : Nat) (x : Str), X.N[i]? = some x → C.can x = true → Loc X.env.scope x ∧ (X.fn x = true ∨ X.env.scope.names.lookup x = some .local)
section
variable {X : Cx} {e : Expr} {es : List Expr} {st : Stmt} {sts : List Stmt}
theorem PE.imp {t t' : TE} (h : PE X e t) (f : ∀ σ H Q, t' σ H Q → t σ H Q) : PE X e t' := ⟨fun pins s σ H Q I q => h.run pins s σ H Q I (f σ H Q q)⟩
theorem PT.imp {t t' : TT} (h : PT X e t) (f : ∀ σ H Q, t' σ H Q → t σ H Q) : PT X e t' := ⟨fun pins s σ H Q I q => h.run pins s σ H Q I (f σ H Q q)⟩
theorem PW.imp {t t' : TT} (h : PW X e t) (f : ∀ σ H Q, t' σ H Q → t σ H Q) : PW X e t' := ⟨fun wh pins s σ H Q I q => h.run wh pins s σ H Q I (f σ H Q q)⟩
theorem PA.imp {t t' : TA} (h : PA X es t) (f : ∀ σ H Q, t' σ H Q → t σ H Q) : PA X es t' := ⟨fun pos pins s σ H Q I q => h.run pos pins s σ H Q I (f σ H Q q)⟩
theorem PS.imp {t t' : TS} (h : PS X st t) (f : ∀ D σ H, t' D σ H → t D σ H) : PS X st t' := ⟨fun pins s σ H D I q => h.run pins s σ H D I (f D σ H q)⟩
theorem PSs.imp {t t' : TS} (h : PSs X sts t) (f : ∀ D σ H, t' D σ H → t D σ H) : PSs X sts t' := ⟨fun pins s σ H D I q => h.run pins s σ H D I (f D σ H q)⟩
theorem OpR.any (f : Value → Value → Sem Value) : OpR X f (fun x y H Q => ∃ r : R2, OpR X f r ∧ r x y H Q) := fun pins s σ H x y v u Q I rx ry ⟨_, h, q⟩ => h pins s σ H x y v u Q I rx ry q
theorem IxR.any : IxR X (fun x y H Q => ∃ r : R2, IxR X r ∧ r x y H Q) := fun va sl pins s σ H x y v u Q I rx ry ⟨_, h, q⟩ e => h va sl pins s σ H x y v u Q I rx ry q e
theorem CallR.any (f : Value) : CallR X f (fun vs H Q => ∃ r : List V → Hp → VK → Prop, CallR X f r ∧ r vs H Q) := fun pins s σ H vs us Q I rx ⟨_, h, q⟩ => h pins s σ H vs us Q I rx q
theorem UnR.any (f : Value → Sem Value) : UnR X f (fun x H Q => ∃ r : V → Hp → VK → Prop, UnR X f r ∧ r x H Q) := fun pins s σ H x v Q I rx ⟨_, h, q⟩ => h pins s σ H x v Q I rx q
end
theorem ba {a b : Bool} (h : (a && b) = true) : a = true ∧ b = true := Bool.and_eq_true_iff.mp h
theorem nb {a : Bool} (h : (!a) = true) : a = false := by cases a <;> first | rfl | cases h
section
variable {X : Cx}
theorem okN_1 {x : Str} (h : okN x = true) : (x == ("__debug__" : Str)) = false := nb (ba h).1
theorem okN_2 {x : Str} (h : okN x = true) : (x == ("__classdict__" : Str)) = false := nb (ba (ba h).2).1
theorem okN_3 {x : Str} (h : okN x = true) : x ≠ ("__name__" : Str) := of_decide_eq_false (nb (ba (ba h).2).2)
theorem visB_ok {sc : Scope} {x : Str} (h : visB sc x = true) : Vis sc x := by
  unfold visB at h
  unfold Vis
  cases q : sc.names.lookup x with
  | none => rw [q] at h; cases h
  | some k =>
    rw [q] at h
    cases k with
    | «local» => exact .inl rfl
    | cell => exact .inr (.inl rfl)
    | free => exact .inr (.inr rfl)
    | globalExplicit => cases h
    | globalImplicit => cases h
theorem glB_ok {sc : Scope} {x : Str} (h : glB sc x = true) : sc.names.lookup x = some .globalImplicit := by
  unfold glB at h
  cases q : sc.names.lookup x with
  | none => rw [q] at h; cases h
  | some k =>
    rw [q] at h
    cases k with
    | globalImplicit => rfl
    | «local» => cases h
    | cell => cases h
    | free => cases h
    | globalExplicit => cases h
theorem star_cons {e : Expr} {es : List Expr} (env : PySem.Env) (h : isStar e = false) : starEach (e :: es) env = (false, eval e env) :: starEach es env := by
  cases e <;> first | rfl | cases h
theorem star_any {env : PySem.Env} {pos : Pos} : ∀ {es : List Expr}, noStar es = true → (backTo pos (starEach es env)).any (·.1) = false
  | [], _ => rfl
  | e :: es, h => by
    obtain ⟨h1, h2⟩ := ba h
    rw [star_cons env (nb h1)]
    show (false || (backTo pos (starEach es env)).any (·.1)) = false
    rw [star_any h2]
    rfl
theorem plainT_ok {e : Expr} {env : PySem.Env} (h : plainT e = true) (whole : Sem Value) : isTrue e env whole = (do let v ← whole; standAt e.pos; holding [v] (truthy v)) := by
  cases e with
  | UnaryOp op _ _ => cases op <;> first | rfl | cases h
  | BoolOp _ _ _ => cases h
  | IfExp _ _ _ _ => cases h
  | Compare _ _ _ _ => cases h
  | _ => rfl
theorem isSet_ok {op : CmpOp} {e : Expr} (h : isSet e = false) : behindInMarks op e = false := by
  cases e <;> first | rfl | cases h
theorem isSlc_ok {e : Expr} (h : isSlc e = false) : PlainIx e := by
  intro o i
  cases e <;> first | rfl | cases h
end
section
variable {G : Gd} {C : Ck} {X : Cx} {Wx : WX} {k : Nat} {call : Call} {W : Wd} {S : Store} {H : Hp} {σ : L2.St} {env : Env} {x y : V} {a b : Val} {Q : VK}
abbrev PostV (G : Gd) := @Post Val V G (RepV G)
theorem post_t {t : T} (h : PostV G Wx σ W (.ok (.t t) S) Q) (s : Sim G W S H) {v : V} (r : Rep G W.F v t) : Q v H := Post.ok h s (show RepV G W v (.t t) from r)
theorem bigI_ok {i j : Int} (h : (bigI i || bigI j) = true) : CMul i j := by
  unfold bigI at h
  simp only [Bool.or_eq_true, decide_eq_true_eq] at h
  show (-(2 ^ 64) < i ∧ i < 2 ^ 64) ∨ (-(2 ^ 64) < j ∧ j < 2 ^ 64)
  omega
theorem mulOk_few {x : Str} {j : Int} (h0 : 0 ≤ j) (h1 : j ≤ 8) (hx : x.length ≤ 1000) : MulOk x j := by
  have tl : ∀ n : Nat, n ≤ 8000 → Builtin.Str.tooLong n = false := fun n hn => by
    show decide (n > sizeLine) = false
    rw [sizeLine_eq]
    exact decide_eq_false (by omega)
  refine ⟨?_, fun _ _ => ?_, fun _ _ => ?_⟩
  · rw [decide_eq_false (by omega), decide_eq_false (by omega)]
    rfl
  · have e : j = 0 ∨ j = 1 ∨ j = 2 ∨ j = 3 ∨ j = 4 ∨ j = 5 ∨ j = 6 ∨ j = 7 ∨ j = 8 := by omega
    rcases e with rfl | rfl | rfl | rfl | rfl | rfl | rfl | rfl | rfl <;> omega
  · refine tl _ ?_
    have : j.toNat ≤ 8 := by omega
    calc x.length * j.toNat ≤ 1000 * 8 := Nat.mul_le_mul hx this
      _ = 8000 := rfl
theorem op_mul_str : OpR X (binaryOp .Mult) (fun x y H Q => ∃ z j, x = .str z ∧ y = .int j ∧ 0 ≤ j ∧ j ≤ 8 ∧ z.length ≤ 1000 ∧ Q (.str (Txt.mul z j)) H) := by
  intro pins s σ H x y v u Q I rx ry h
  obtain ⟨z, j, rfl, rfl, h0, h1, hz, q⟩ := h
  obtain ⟨t, rfl⟩ := rx
  obtain ⟨t', rfl⟩ := ry
  exact SB.mul (mulOk_few h0 h1 hz) fun t'' k => ⟨.str _, H, I.tok _, ⟨_, rfl⟩, q⟩
theorem binA_any (h : PostV G Wx σ W (binA op a b S) Q) (s : Sim G W S H) (rx : RepV G W x a) (ry : RepV G W y b) : ∃ r : R2, OpR X (binaryOp op) r ∧ r x y H Q := by
  cases a with
  | r n => exact (show False from h).elim
  | t a =>
    cases b with
    | r n =>
      have h' : PostV G Wx σ W .bad Q := h
      exact (show False from h').elim
    | t b =>
      have rx : Rep G W.F x a := rx
      have ry : Rep G W.F y b := ry
      have h : PostV G Wx σ W (ofT (binT op a b) S) Q := h
      have no : binT op a b = none → False := fun z => by rw [z] at h; exact h
      cases a with
      | int i =>
        cases b with
        | int j =>
          cases rx
          cases ry
          have h : PostV G Wx σ W (ofT ((binI op i j).map .int) S) Q := h
          cases q : binI op i j with
          | none => rw [q] at h; exact (show False from h).elim
          | some z =>
            rw [q] at h
            have qz : Q (.int z) H := post_t h s (.int z)
            cases op with
            | Add => cases q; exact ⟨_, op_add, i, j, rfl, rfl, qz⟩
            | Sub => cases q; exact ⟨_, op_sub, i, j, rfl, rfl, qz⟩
            | Mult =>
              have q : (if bigI i || bigI j then some (i * j) else none) = some z := q
              split at q
              · rename_i c
                cases q
                exact ⟨_, op_mul, i, j, rfl, rfl, bigI_ok c, qz⟩
              · cases q
            | FloorDiv =>
              have q : (if 0 < j ∧ j.toNat < 1073741824 then some (i / j) else none) = some z := q
              split at q
              · rename_i c
                cases q
                exact ⟨_, op_fdiv, i, j, rfl, rfl, ⟨c.1, by omega⟩, qz⟩
              · cases q
            | Mod =>
              have q : (if 0 < j then some (i % j) else none) = some z := q
              split at q
              · rename_i c
                cases q
                exact ⟨_, op_mod, i, j, rfl, rfl, c, qz⟩
              · cases q
            | Pow =>
              have q : (if (0 ≤ j ∧ j.toNat ≤ 1000000) ∧ i.natAbs < 18446744073709551616 then some (i ^ j.toNat) else none) = some z := q
              split at q
              · rename_i c
                cases q
                exact ⟨_, op_pow, i, j, rfl, rfl, ⟨c.1.1, by omega, by omega⟩, qz⟩
              · cases q
            | LShift =>
              have q : (if (0 ≤ j ∧ j.toNat ≤ 1000000) ∧ i.natAbs < 18446744073709551616 then some (i * 2 ^ j.toNat) else none) = some z := q
              split at q
              · rename_i c
                cases q
                exact ⟨_, op_shl, i, j, rfl, rfl, ⟨c.1.1, by omega, by omega⟩, qz⟩
              · cases q
            | RShift =>
              have q : (if 0 ≤ j then some (i / 2 ^ j.toNat) else none) = some z := q
              split at q
              · rename_i c
                cases q
                exact ⟨_, op_shr, i, j, rfl, rfl, c, qz⟩
              · cases q
            | BitAnd => cases q; exact ⟨_, op_and, i, j, rfl, rfl, qz⟩
            | BitOr => cases q; exact ⟨_, op_or, i, j, rfl, rfl, qz⟩
            | BitXor => cases q; exact ⟨_, op_xor, i, j, rfl, rfl, qz⟩
            | MatMult => cases q
            | Div => cases q
        | _ => exact (no rfl).elim
      | str u =>
        cases b with
        | str v =>
          cases rx
          cases ry
          have h2 : PostV G Wx σ W (ofT (if op = .Add ∧ u.length + v.length ≤ szLine then some (.str (u ++ v)) else none) S) Q := h
          by_cases c : op = .Add ∧ u.length + v.length ≤ szLine
          · rw [if_pos c] at h2
            obtain ⟨c1, c2⟩ := c
            subst c1
            exact ⟨_, op_add_str, u, v, rfl, rfl, c2, post_t h2 s (.str _)⟩
          · rw [if_neg c] at h2
            exact (show False from h2).elim
        | int j =>
          cases rx
          cases ry
          have h2 : PostV G Wx σ W (ofT (if op = .Mult ∧ (0 ≤ j ∧ j ≤ 8) ∧ u.length ≤ 1000 then some (.str (Txt.mul u j)) else none) S) Q := h
          by_cases c : op = .Mult ∧ (0 ≤ j ∧ j ≤ 8) ∧ u.length ≤ 1000
          · rw [if_pos c] at h2
            obtain ⟨c1, ⟨c2, c3⟩, c4⟩ := c
            subst c1
            exact ⟨_, op_mul_str, u, j, rfl, rfl, c2, c3, c4, post_t h2 s (.str _)⟩
          · rw [if_neg c] at h2
            exact (show False from h2).elim
        | _ => exact (no rfl).elim
      | _ => exact (no rfl).elim
theorem allT_rep : ∀ {ws : List Val} {xs : List T} {vs : List V}, Paired (RepV G W) vs ws → allT ws = some xs → RepL G W.F vs xs
  | [], _, _, r, e => by
    cases r
    cases e
    exact .nil
  | .t x :: ws, _, _, r, e => by
    cases r with
    | cons r rr =>
      have e1 : (allT ws).map (x :: ·) = some _ := e
      obtain ⟨ys, e2, e3⟩ := Option.map_eq_some_iff.mp e1
      subst e3
      exact .cons r (allT_rep rr e2)
  | .r n :: ws, _, _, _, e => by cases e
theorem RepL.app {F : Hp} : ∀ {xs ys : List T} {vs us : List V}, RepL G F vs xs → RepL G F us ys → RepL G F (vs ++ us) (xs ++ ys)
  | [], _, _, _, r, q => by cases r; exact q
  | x :: xs, _, _, _, r, q => by
    cases r with
    | cons h r => exact .cons h (r.app q)
theorem RepL.rep {F : Hp} {xs : List T} {vs : List V} (r : RepL G F vs xs) : ∀ n, RepL G F (List.replicate n vs).flatten (List.replicate n xs).flatten
  | 0 => .nil
  | n + 1 => by
    rw [List.replicate_succ, List.flatten_cons, List.replicate_succ, List.flatten_cons]
    exact r.app (r.rep n)
theorem new_tup {xs : List T} {vs : List V} (h : PostV G Wx σ W (.ok (.t (.tup xs)) S) Q) (s : Sim G W S H) (r : RepL G W.F vs xs) : ∀ p, H p = none → Q (.ref p) (upd H p (.tup vs)) := fun p hp => by
  refine h (W.addF p (.tup vs)) (.ref p) _ (Wd.le_addF s hp _) (s.addF hp _) ?_
  exact .tup (.inl (.inl upd_same)) (RepL.mono (Wd.le_addF s hp _).f xs vs r)
theorem peek_rep {t : T} (s : Sim G W S H) (r : RepV G W x a) (e : peek S a = some t) : Rep G H x t := by
  cases a with
  | t u =>
    cases e
    exact Rep.mono s.fz t x r
  | r n =>
    obtain ⟨hn, ex⟩ := r
    subst ex
    have e1 : (match S[n]? with
      | some (.lst vs) => (allT vs).map .lst
      | _ => none) = some t := e
    cases q : S[n]? with
    | none => rw [q] at e1; cases e1
    | some c =>
      rw [q] at e1
      cases c with
      | lst ws =>
        obtain ⟨xs, e2, e3⟩ := Option.map_eq_some_iff.mp e1
        subst e3
        obtain ⟨_, _, o, ho, ok⟩ := s.live n _ q (by intro z; cases z)
        cases ok with
        | lst hp => exact .lst ho (RepL.mono s.fz xs _ (allT_rep hp e2))
      | dead => cases e1
      | ins _ _ => cases e1
      | dct _ => cases e1
theorem op_eqP (hu : X.A.units + 64 < cLine) : OpR X (compareOp .Eq) (fun x y H Q => ∃ d e, Dp X.K H x d ∧ Dp X.K H y e ∧ d.plain = true ∧ e.plain = true ∧ min d.depth e.depth ≤ 60 ∧ Q (.bl (PyData.eqv d e)) H) := by
  intro pins s σ H x y v u Q I rx ry ⟨d, e, hd, he, pd, pe, hm, q⟩
  obtain ⟨as, r1⟩ := Dp.reads I d x v hd rx
  obtain ⟨bs, r2⟩ := Dp.reads I e y u he ry
  exact PySem.SeqAt.eq_plain r1 r2 pd pe (by omega) ⟨.bl _, H, I, rfl, q⟩
theorem op_neP (hu : X.A.units + 64 < cLine) : OpR X (compareOp .NotEq) (fun x y H Q => ∃ d e, Dp X.K H x d ∧ Dp X.K H y e ∧ d.plain = true ∧ e.plain = true ∧ min d.depth e.depth ≤ 60 ∧ Q (.bl (!PyData.eqv d e)) H) := by
  intro pins s σ H x y v u Q I rx ry ⟨d, e, hd, he, pd, pe, hm, q⟩
  obtain ⟨as, r1⟩ := Dp.reads I d x v hd rx
  obtain ⟨bs, r2⟩ := Dp.reads I e y u he ry
  exact PySem.SeqAt.ne_plain r1 r2 pd pe (by omega) ⟨.bl _, H, I, rfl, q⟩
theorem op_inL (hu : X.A.units + 64 < cLine) (neg : Bool) : OpR X (compareOp (if neg then .NotIn else .In)) (fun x y H Q => ∃ d ds, Dp X.K H x d ∧ Dp X.K H y (.list ds) ∧ d.plain = true ∧ PyData.plainAll ds = true ∧ min (PyData.depthAll ds) d.depth ≤ 60 ∧
    Q (.bl (if neg then !ds.any (fun y => PyData.eqv y d) else ds.any fun y => PyData.eqv y d)) H) := by
  intro pins s σ H x y v u Q I rx ry ⟨d, ds, hd, he, pd, pe, hm, q⟩
  obtain ⟨as, r1⟩ := Dp.reads I d x v hd rx
  obtain ⟨bs, r2⟩ := Dp.reads I (.list ds) y u he ry
  cases neg with
  | false => exact PySem.SeqAt.in_list_data r2 r1 pe pd (by omega) ⟨.bl _, H, I, rfl, q⟩
  | true => exact PySem.SeqAt.notIn_list_data r2 r1 pe pd (by omega) ⟨.bl _, H, I, rfl, q⟩
theorem op_inU (hu : X.A.units + 64 < cLine) (neg : Bool) : OpR X (compareOp (if neg then .NotIn else .In)) (fun x y H Q => ∃ d ds, Dp X.K H x d ∧ Dp X.K H y (.tuple ds) ∧ d.plain = true ∧ PyData.plainAll ds = true ∧ min (PyData.depthAll ds) d.depth ≤ 60 ∧
    Q (.bl (if neg then !ds.any (fun y => PyData.eqv y d) else ds.any fun y => PyData.eqv y d)) H) := by
  intro pins s σ H x y v u Q I rx ry ⟨d, ds, hd, he, pd, pe, hm, q⟩
  obtain ⟨as, r1⟩ := Dp.reads I d x v hd rx
  obtain ⟨bs, r2⟩ := Dp.reads I (.tuple ds) y u he ry
  cases neg with
  | false => exact PySem.SeqAt.in_tuple_data r2 r1 pe pd (by omega) ⟨.bl _, H, I, rfl, q⟩
  | true => exact PySem.SeqAt.notIn_tuple_data r2 r1 pe pd (by omega) ⟨.bl _, H, I, rfl, q⟩
theorem cr_range1 : CallR X (.type "range") (fun vs H Q => ∃ j, vs = [V.int j] ∧ ∀ p, H p = none → Q (.ref p) (upd H p (.rng 0 j))) := by
  intro pins s σ H vs us Q I r h
  obtain ⟨j, rfl, q⟩ := h
  obtain ⟨u1, rfl, ri⟩ := r.one
  obtain ⟨t, rfl⟩ := ri
  refine PySem.call_range_1 ⟨.ref s.heap.objs.size, upd H s.heap.objs.size (.rng 0 j), I.laid (t' := s.toks + 1 + 1) (fun b o e => Heap.get?_push_of_some _ e) (Nat.le_refl _) ?_, rfl, q _ (I.hok.fresh (Nat.le_refl _))⟩
  exact ⟨_, _, _, Heap.get?_push_size _ rfl⟩
theorem op_rg (neg : Bool) : OpR X (compareOp (if neg then .NotIn else .In)) (fun x y H Q => ∃ i a lo hi, x = V.int i ∧ y = V.ref a ∧ H a = some (.rng lo hi) ∧ Q (.bl (if neg then !decide (lo ≤ i ∧ i < hi) else decide (lo ≤ i ∧ i < hi))) H) := by
  cases neg with
  | false => exact op_in_rng
  | true =>
    intro pins s σ H x y v u Q I rx ry h
    obtain ⟨i, a, lo, hi, rfl, rfl, ha, q⟩ := h
    obtain ⟨k, rfl⟩ := rx
    obtain rfl : u = Value.ref a := ry
    obtain ⟨t1, t2, t3, ho⟩ := I.hok a _ ha
    show wpAny _ _ (do return Value.bool (!(← contains (Value.ref a) (Value.int i k)))) _ _ s
    refine wpAny_bind (wpAny_contains_slot (T := "range") ⟨_, ho, rfl⟩ F.slot_range_contains (call_meets F.slot_range_contains ⟨_, ho, rfl⟩ F.entry_range_contains (F.args_range_contains_2 _ _) (q_contains a lo hi i t1 t2 t3 k)
      ⟨ho, wpAny_truthy_bool (wpAny_pure ⟨.bl _, H, I, rfl, ?_⟩)⟩))
    rw [place1]
    exact q
theorem isNon_iff {t : T} (r : Rep G H x t) : decide (x = .non) = isNon t := by
  cases r <;> rfl
theorem eqT_some {t u : T} {k : Bool} (e : eqT t u = some k) : ∃ d f, t.py = some d ∧ u.py = some f ∧ min d.depth f.depth ≤ 60 ∧ k = PyData.eqv d f := by
  unfold eqT at e
  split at e
  · rename_i d f h1 h2
    split at e
    · rename_i c
      cases e
      exact ⟨d, f, h1, h2, c, rfl⟩
    · cases e
  · cases e
theorem keyEq_eq : ∀ (a b : Key), keyEq a b = decide (a = b)
  | .inl i, .inl j => by
    show (i == j) = _
    by_cases e : i = j
    · subst e; rw [beq_self_eq_true, decide_eq_true rfl]
    · rw [beq_eq_false_iff_ne.mpr e, decide_eq_false fun z => e (Sum.inl.inj z)]
  | .inr x, .inr y => by
    show (x == y) = _
    by_cases e : x = y
    · subst e; rw [beq_self_eq_true, decide_eq_true rfl]
    · rw [beq_eq_false_iff_ne.mpr e, decide_eq_false fun z => e (Sum.inr.inj z)]
  | .inl _, .inr _ => (decide_eq_false fun z => nomatch z).symm
  | .inr _, .inl _ => (decide_eq_false fun z => nomatch z).symm
abbrev DR (G : Gd) (W : Wd) : (Key × V) → (Key × Val) → Prop := fun p q => p.1 = q.1 ∧ RepV G W p.2 q.2
theorem lookK_rel {k : Key} : ∀ {gs : List (Key × V)} {kvs : List (Key × Val)}, Paired (DR G W) gs kvs → ∀ {v : Val}, lookK kvs k = some v → ∃ x, valV gs k = some x ∧ RepV G W x v
  | _, _, .nil, _, h => nomatch h
  | _, _, .cons (a := p) (b := q) (l₁ := gs) (l₂ := kvs) r rr, v, h => by
    obtain ⟨e1, r1⟩ := r
    have h : (if keyEq q.1 k then some q.2 else lookK kvs k) = some v := h
    rw [keyEq_eq] at h
    by_cases e : q.1 = k
    · rw [if_pos (decide_eq_true e)] at h
      cases h
      exact ⟨p.2, valV_pos (e1.trans e), r1⟩
    · rw [if_neg (by rw [decide_eq_false e]; exact Bool.false_ne_true)] at h
      rw [valV_neg fun z => e (e1.symm.trans z)]
      exact lookK_rel rr h
theorem lookK_repD {F : Hp} {k : Key} : ∀ {gs : List (Key × V)} {fs : List (Key × T)}, RepD G F gs fs → ∀ {t : T}, lookK fs k = some t → ∃ x, valV gs k = some x ∧ Rep G F x t
  | _, _, .nil, _, h => nomatch h
  | _, _, .cons (v := v0) (k := k0) (x := x0) (vs := gs) (xs := fs) r rr, t, h => by
    have h : (if keyEq k0 k then some x0 else lookK fs k) = some t := h
    rw [keyEq_eq] at h
    by_cases e : k0 = k
    · rw [if_pos (decide_eq_true e)] at h
      cases h
      exact ⟨v0, valV_pos (p := (k0, v0)) e, r⟩
    · rw [if_neg (by rw [decide_eq_false e]; exact Bool.false_ne_true)] at h
      rw [valV_neg (p := (k0, v0)) e]
      exact lookK_repD rr h
theorem putKV_rel {gs : List (Key × V)} {kvs : List (Key × Val)} (r : Paired (DR G W) gs kvs) (k : Key) {x : V} {v : Val} (rv : RepV G W x v) : Paired (DR G W) (putK gs k x) (putKV kvs k v) := by
  have e : (gs.any fun kv => decide (kv.1 = k)) = kvs.any fun p => keyEq p.1 k := by
    induction r with
    | nil => rfl
    | cons h t ih => rw [List.any_cons, List.any_cons, ih, keyEq_eq, h.1]
  have m : Paired (DR G W) (gs.map fun kv => if kv.1 = k then (kv.1, x) else kv) (kvs.map fun p => if keyEq p.1 k then (p.1, v) else p) := by
    clear e
    induction r with
    | nil => exact .nil
    | @cons p q _ _ h t ih =>
      rw [List.map_cons, List.map_cons]
      refine .cons ?_ ih
      rw [keyEq_eq]
      by_cases z : p.1 = k
      · rw [if_pos z, if_pos (decide_eq_true (h.1.symm.trans z))]
        exact ⟨h.1, rv⟩
      · rw [if_neg z, if_neg (by rw [decide_eq_false fun y => z (h.1.trans y)]; exact Bool.false_ne_true)]
        exact h
  unfold putK putKV
  rw [e]
  split
  · exact m
  · exact Paired.snoc r ⟨rfl, rv⟩
theorem mergeKV_rel : ∀ {ms : List (Key × V)} {more : List (Key × Val)}, Paired (DR G W) ms more → ∀ {gs : List (Key × V)} {kvs : List (Key × Val)}, Paired (DR G W) gs kvs → Paired (DR G W) (mergeK gs ms) (mergeKV kvs more)
  | _, _, .nil, _, _, r => r
  | _, _, .cons (a := p) (b := q) (l₁ := ms) (l₂ := more) h t, gs, kvs, r => by
    have z := putKV_rel r p.1 h.2
    rw [h.1] at z
    show Paired (DR G W) (mergeK (putK gs p.1 p.2) ms) (mergeKV (putKV kvs q.1 q.2) more)
    rw [h.1]
    exact mergeKV_rel t z
theorem keyT_rep {F : Hp} {t : T} {k : Key} {x : V} (h : keyT t = some k) (r : Rep G F x t) : x = kV k := by
  cases t with
  | int i => cases h; cases r; rfl
  | str z => cases h; cases r; rfl
  | _ => cases h
theorem lookK_is {k : Key} : ∀ {gs : List (Key × V)} {kvs : List (Key × Val)}, Paired (DR G W) gs kvs → (valV gs k).isSome = (lookK kvs k).isSome
  | _, _, .nil => rfl
  | _, _, .cons (a := p) (b := q) (l₁ := gs) (l₂ := kvs) r rr => by
    show _ = (if keyEq q.1 k then some q.2 else lookK kvs k).isSome
    rw [keyEq_eq]
    by_cases e : q.1 = k
    · rw [if_pos (decide_eq_true e), valV_pos (r.1.trans e)]
      rfl
    · rw [if_neg (by rw [decide_eq_false e]; exact Bool.false_ne_true), valV_neg fun z => e (r.1.symm.trans z)]
      exact lookK_is rr
theorem lookK_isD {F : Hp} {k : Key} : ∀ {gs : List (Key × V)} {fs : List (Key × T)}, RepD G F gs fs → (valV gs k).isSome = (lookK fs k).isSome
  | _, _, .nil => rfl
  | _, _, .cons (v := v0) (k := k0) (x := x0) (vs := gs) (xs := fs) r rr => by
    show _ = (if keyEq k0 k then some x0 else lookK fs k).isSome
    rw [keyEq_eq]
    by_cases e : k0 = k
    · rw [if_pos (decide_eq_true e), valV_pos (p := (k0, v0)) e]
      rfl
    · rw [if_neg (by rw [decide_eq_false e]; exact Bool.false_ne_true), valV_neg (p := (k0, v0)) e]
      exact lookK_isD rr
theorem op_inD (hu : X.A.units + 64 < cLine) (neg : Bool) : OpR X (compareOp (if neg then .NotIn else .In)) (fun x y H Q => ∃ a o, y = .ref a ∧ DGet H a x o ∧ Q (.bl (if neg then !o.isSome else o.isSome)) H) := by
  intro pins s σ H x y v u Q I rx ry ⟨a, o, ey, g, q⟩
  subst ey
  obtain rfl : u = Value.ref a := ry
  cases neg with
  | false => exact d_in (by omega) I g rx fun s' I' => ⟨.bl o.isSome, H, I', rfl, q⟩
  | true => exact d_notIn (by omega) I g rx fun s' I' => ⟨.bl (!o.isSome), H, I', rfl, q⟩
theorem in_any (hK : X.K = G.K) (hu : X.A.units + 64 < cLine) {t u : T} {k : Bool} (neg : Bool) (e : inT t u = some k) (rx : Rep G H x t) (ry : Rep G H y u) (q : Q (.bl (if neg then !k else k)) H) :
    ∃ r : R2, OpR X (compareOp (if neg then .NotIn else .In)) r ∧ r x y H Q := by
  unfold inT at e
  split at e
  · rename_i d xs h1
    obtain ⟨ds, e1, e2⟩ := Option.bind_eq_some_iff.mp e
    split at e2
    · rename_i c
      cases e2
      refine ⟨_, op_inL hu neg, d, ds, by rw [hK]; exact Rep.dp t x d rx h1, by rw [hK]; exact Rep.dp (.lst xs) y (.list ds) ry (by show (T.pys xs).map PyData.list = _; rw [e1]; rfl), py_plain t d h1, pys_plain xs ds e1, c, q⟩
    · cases e2
  · rename_i d xs h1
    obtain ⟨ds, e1, e2⟩ := Option.bind_eq_some_iff.mp e
    split at e2
    · rename_i c
      cases e2
      refine ⟨_, op_inU hu neg, d, ds, by rw [hK]; exact Rep.dp t x d rx h1, by rw [hK]; exact Rep.dp (.tup xs) y (.tuple ds) ry (by show (T.pys xs).map PyData.tuple = _; rw [e1]; rfl), py_plain t d h1, pys_plain xs ds e1, c, q⟩
    · cases e2
  · cases t with
    | str z =>
      cases rx
      cases ry
      cases e
      cases neg with
      | false => exact ⟨_, op_in_str, _, _, rfl, rfl, q⟩
      | true => exact ⟨_, op_notin_str, _, _, rfl, rfl, q⟩
    | _ => cases e
  · obtain ⟨k', e1, e2⟩ := Option.map_eq_some_iff.mp e
    cases ry with
    | dct hF r =>
      have ex := keyT_rep e1 rx
      subst ex
      refine ⟨_, op_inD hu neg, _, valV _ k', rfl, DGet.k hF, ?_⟩
      rw [lookK_isD r, e2]
      exact q
  · cases e
theorem cmpW_any (hK : X.K = G.K) (hu : X.A.units + 64 < cLine) (h : PostV G Wx σ W (cmpW op a b S) Q) (s : Sim G W S H) (rx : RepV G W x a) (ry : RepV G W y b) : ∃ r : R2, OpR X (compareOp op) r ∧ r x y H Q := by
  unfold cmpW at h
  cases e1 : peek S a with
  | none => rw [e1] at h; exact (show False from h).elim
  | some t =>
    cases e2 : peek S b with
    | none =>
      rw [e1, e2] at h
      have rt := peek_rep s rx e1
      have h : PostV G Wx σ W (ofT ((dInC op t b S).map .bl) S) Q := h
      cases e : dInC op t b S with
      | none => rw [e] at h; exact (show False from h).elim
      | some k =>
        rw [e] at h
        have q : Q (.bl k) H := post_t h s (.bl k)
        unfold dInC at e
        split at e
        · rename_i n
          obtain ⟨hn, ey⟩ := ry
          subst ey
          split at e
          · rename_i kvs hc
            obtain ⟨_, _, o, ho, okc⟩ := s.live n _ hc (by intro z; cases z)
            cases okc with
            | dct hp =>
              obtain ⟨k', e3, e4⟩ := Option.bind_eq_some_iff.mp e
              have ex := keyT_rep e3 rt
              subst ex
              split at e4
              · cases e4
                exact ⟨_, op_inD hu false, _, valV _ k', rfl, DGet.k ho, by rw [lookK_is hp]; exact q⟩
              · cases e4
                exact ⟨_, op_inD hu true, _, valV _ k', rfl, DGet.k ho, by rw [lookK_is hp]; exact q⟩
              · cases e4
          · cases e
        · cases e
    | some u =>
      rw [e1, e2] at h
      have rt := peek_rep s rx e1
      have ru := peek_rep s ry e2
      have h : PostV G Wx σ W (ofT ((cmpT op t u).map .bl) S) Q := h
      cases e : cmpT op t u with
      | none => rw [e] at h; exact (show False from h).elim
      | some k =>
        rw [e] at h
        have q : Q (.bl k) H := post_t h s (.bl k)
        have ord : ∀ {op : CmpOp}, ordO op t u = some k → ∃ i j, x = .int i ∧ y = .int j ∧ k = ordT op i j := fun {op} e => by
          cases t with
          | int i =>
            cases u with
            | int j =>
              cases rt
              cases ru
              cases e
              exact ⟨i, j, rfl, rfl, rfl⟩
            | _ => cases e
          | _ => cases e
        cases op with
        | Eq =>
          obtain ⟨d, f, h1, h2, c, e3⟩ := eqT_some e
          subst e3
          exact ⟨_, op_eqP hu, d, f, by rw [hK]; exact Rep.dp t x d rt h1, by rw [hK]; exact Rep.dp u y f ru h2, py_plain t d h1, py_plain u f h2, c, q⟩
        | NotEq =>
          obtain ⟨k', e4, e5⟩ := Option.map_eq_some_iff.mp (show (eqT t u).map not = some k from e)
          obtain ⟨d, f, h1, h2, c, e3⟩ := eqT_some e4
          subst e3 e5
          exact ⟨_, op_neP hu, d, f, by rw [hK]; exact Rep.dp t x d rt h1, by rw [hK]; exact Rep.dp u y f ru h2, py_plain t d h1, py_plain u f h2, c, q⟩
        | In => exact in_any hK hu false (show inT t u = some k from e) rt ru q
        | NotIn =>
          obtain ⟨k', e4, e5⟩ := Option.map_eq_some_iff.mp (show (inT t u).map not = some k from e)
          subst e5
          exact in_any hK hu true e4 rt ru q
        | Is =>
          have e3 : (if isNon u then some (isNon t) else isB t u) = some k := e
          split at e3
          · rename_i c
            cases e3
            have : y = .non := of_decide_eq_true ((isNon_iff ru).trans c)
            exact ⟨_, op_isN, this, by rw [isNon_iff rt]; exact q⟩
          · cases t with
            | bl i =>
              cases u with
              | bl j =>
                cases rt
                cases ru
                cases e3
                rw [show (i == j) = decide (i = j) from Bool.beq_eq_decide_eq i j] at q
                exact ⟨_, op_isBl, i, j, rfl, rfl, q⟩
              | _ => cases e3
            | _ => cases e3
        | IsNot =>
          have e3 : (if isNon u then some (!isNon t) else none) = some k := e
          split at e3
          · rename_i c
            cases e3
            have : y = .non := of_decide_eq_true ((isNon_iff ru).trans c)
            exact ⟨_, op_notN, this, by rw [isNon_iff rt]; exact q⟩
          · cases e3
        | Lt =>
          obtain ⟨i, j, e3, e4, e5⟩ := ord (op := .Lt) e
          exact ⟨_, op_lt, i, j, e3, e4, by rw [e5] at q; exact q⟩
        | LtE =>
          obtain ⟨i, j, e3, e4, e5⟩ := ord (op := .LtE) e
          exact ⟨_, op_le, i, j, e3, e4, by rw [e5] at q; exact q⟩
        | Gt =>
          obtain ⟨i, j, e3, e4, e5⟩ := ord (op := .Gt) e
          exact ⟨_, op_gt, i, j, e3, e4, by rw [e5] at q; exact q⟩
        | GtE =>
          obtain ⟨i, j, e3, e4, e5⟩ := ord (op := .GtE) e
          exact ⟨_, op_ge, i, j, e3, e4, by rw [e5] at q; exact q⟩
theorem cmp_any (hK : X.K = G.K) (hu : X.A.units + 64 < cLine) (h : PostV G Wx σ W (cmpV op a b S) Q) (s : Sim G W S H) (rx : RepV G W x a) (ry : RepV G W y b) : ∃ r : R2, OpR X (compareOp op) r ∧ r x y H Q := by
  unfold cmpV at h
  split at h
  · obtain ⟨_, ex⟩ := rx
    subst ex
    cases ry
    exact ⟨_, op_isN, rfl, by rw [decide_eq_false (by intro z; cases z)]; exact post_t h s (.bl false)⟩
  · obtain ⟨_, ex⟩ := rx
    subst ex
    cases ry
    exact ⟨_, op_notN, rfl, by rw [decide_eq_false (by intro z; cases z)]; exact post_t h s (.bl true)⟩
  · exact cmpW_any hK hu h s rx ry
theorem isE_eq {α β : Type} : ∀ {l : List α} {m : List β}, l.length = m.length → l.isEmpty = m.isEmpty
  | [], [], _ => rfl
  | _ :: _, _ :: _, _ => rfl
  | [], _ :: _, h => by cases h
  | _ :: _, [], h => by cases h
theorem truV_st {γ δ : Type} {rep : Wd → δ → γ → Prop} {f : Bool → Store → R γ} {Q : δ → Hp → Prop} (h : Post G rep Wx σ W ((truV a S).bind f) Q) (s : Sim G W S H) (rx : RepV G W x a) : ∃ k, TruV G.K x H k ∧ Post G rep Wx σ W (f k S) Q := by
  cases a with
  | r n =>
    obtain ⟨hn, ex⟩ := rx
    subst ex
    have h : Post G rep Wx σ W ((match S[n]? with
      | some (.lst vs) => R.ok (!vs.isEmpty) S
      | _ => .bad).bind f) Q := h
    cases q : S[n]? with
    | none => rw [q] at h; exact (show False from h).elim
    | some c =>
      rw [q] at h
      cases c with
      | lst vs =>
        obtain ⟨_, _, o, ho, ok⟩ := s.live n _ q (by intro z; cases z)
        cases ok with
        | lst hp => exact ⟨_, .inl ⟨_, .of ho, rfl⟩, by rw [isE_eq hp.length]; exact h⟩
      | _ => exact (show False from h).elim
  | t t =>
    have h : Post G rep Wx σ W ((ofO (truT t) S).bind f) Q := h
    have no : truT t = none → False := fun z => by rw [z] at h; exact h
    cases t with
    | bl k =>
      cases rx
      exact ⟨k, rfl, h⟩
    | non =>
      cases rx
      exact ⟨false, rfl, h⟩
    | int i =>
      cases rx
      exact ⟨_, rfl, h⟩
    | str y =>
      cases rx
      have h : Post G rep Wx σ W ((ofO (if y.length ≤ szLine then some ((y.length : Int) != 0) else none) S).bind f) Q := h
      by_cases c : y.length ≤ szLine
      · rw [if_pos c] at h
        exact ⟨_, ⟨c, rfl⟩, h⟩
      · rw [if_neg c] at h
        exact (show False from h).elim
    | tup xs =>
      cases rx with
      | tup hF r => exact ⟨_, .inr (.inl ⟨_, sameT s.fz hF, rfl⟩), by rw [isE_eq r.length]; exact h⟩
    | lst xs =>
      cases rx with
      | lst hF r => exact ⟨_, .inl ⟨_, .of (s.fz _ _ hF), rfl⟩, by rw [isE_eq r.length]; exact h⟩
    | scr ns =>
      cases rx with
      | scr hF => exact ⟨_, .inl ⟨_, s.fz.seq hF, rfl⟩, by rw [isE_eq (List.length_map _)]; exact h⟩
    | _ => exact (no rfl).elim
theorem tru_post {Q : Bool → Hp → Prop} (h : Post G (fun _ (b c : Bool) => b = c) Wx σ W (truV a S) Q) (s : Sim G W S H) (rx : RepV G W x a) : ∃ k, TruV G.K x H k ∧ Q k H := by
  have h2 : Post G (fun _ (b c : Bool) => b = c) Wx σ W ((truV a S).bind fun k S => .ok k S) Q := by
    cases z : truV a S with
    | ok k S2 => rw [z] at h; exact h
    | ex x S2 => rw [z] at h; exact h
    | bad => rw [z] at h; exact h
  obtain ⟨k, h3, h4⟩ := truV_st h2 s rx
  exact ⟨k, h3, Post.ok (rep := fun _ (b c : Bool) => b = c) h4 s rfl⟩
theorem alloc_post {m : Bool} {ws : List Val} {vs : List V} (h : PostV G Wx σ W (alloc m ws S) Q) (s : Sim G W S H) (r : Paired (RepV G W) vs ws) : vs.length ≤ sizeLine ∧ ∀ p, H p = none → Q (.ref p) (upd H p (.lst vs)) := by
  unfold alloc at h
  by_cases c : ws.length ≤ szLine
  · rw [if_pos c] at h
    refine ⟨by rw [r.length]; exact c, fun p hp => ?_⟩
    cases m with
    | true =>
      have h : PostV G Wx σ W (.ok (.r S.length) (S ++ [.lst ws])) Q := h
      refine h (W.addC p) (.ref p) _ (Wd.le_addC W p) (s.addC hp (.lst r)) ⟨?_, ?_⟩
      · show S.length < W.n + 1
        rw [s.len]
        exact Nat.lt_succ_self _
      · show V.ref p = V.ref (if S.length = W.n then p else _)
        rw [if_pos s.len]
    | false =>
      have h : PostV G Wx σ W (match allT ws with
        | some xs => .ok (.t (.lst xs)) S
        | none => .bad) Q := h
      cases e : allT ws with
      | none => rw [e] at h; exact (show False from h).elim
      | some xs =>
        rw [e] at h
        refine h (W.addF p (.lst vs)) (.ref p) _ (Wd.le_addF s hp _) (s.addF hp _) ?_
        exact .lst upd_same (RepL.mono (Wd.le_addF s hp _).f xs vs (allT_rep r e))
  · rw [if_neg c] at h
    exact (show False from h).elim
theorem vals_repL {vs : List V} : ∀ {xs : List T} {vs : List V}, RepL G W.F vs xs → Paired (RepV G W) vs (xs.map .t)
  | [], _, r => by cases r; exact .nil
  | x :: xs, _, r => by
    cases r with
    | cons h r => exact .cons (show RepV G W _ (.t x) from h) (vals_repL (vs := []) r)
theorem alloc_len {m : Bool} {ws : List Val} (h : PostV G Wx σ W (alloc m ws S) Q) : ws.length ≤ szLine := by
  unfold alloc at h
  split at h
  · assumption
  · exact (show False from h).elim
theorem flat_len {α : Type} (xs : List α) : ∀ n, (List.replicate n xs).flatten.length = xs.length * n
  | 0 => rfl
  | n + 1 => by rw [List.replicate_succ, List.flatten_cons, List.length_append, flat_len xs n, Nat.mul_succ, Nat.add_comm]
theorem lstV_rep {ws : List Val} (s : Sim G W S H) (r : RepV G W x a) (e : lstV S a = some ws) : ∃ p vs, x = .ref p ∧ H p = some (.lst vs) ∧ Paired (RepV G W) vs ws := by
  cases a with
  | t u =>
    cases u with
    | lst xs =>
      cases e
      cases r with
      | lst hF r => exact ⟨_, _, rfl, s.fz _ _ hF, vals_repL (vs := []) r⟩
    | _ => cases e
  | r n =>
    obtain ⟨hn, ex⟩ := r
    subst ex
    have e1 : (match S[n]? with
      | some (.lst vs) => some vs
      | _ => none) = some ws := e
    cases q : S[n]? with
    | none => rw [q] at e1; cases e1
    | some c =>
      rw [q] at e1
      cases c with
      | lst us =>
        cases e1
        obtain ⟨_, _, o, ho, ok⟩ := s.live n _ q (by intro z; cases z)
        cases ok with
        | lst hp => exact ⟨_, _, rfl, ho, hp⟩
      | dead => cases e1
      | ins _ _ => cases e1
      | dct _ => cases e1
theorem Paired.app2 {α β : Type} {P : α → β → Prop} {us : List α} {ws : List β} (q : Paired P us ws) : ∀ {xs : List α} {ys : List β}, Paired P xs ys → Paired P (xs ++ us) (ys ++ ws)
  | _, _, .nil => q
  | _, _, .cons r t => .cons r (Paired.app2 q t)
theorem Paired.rep2 {α β : Type} {P : α → β → Prop} {us : List α} {ws : List β} (q : Paired P us ws) : ∀ n, Paired P (List.replicate n us).flatten (List.replicate n ws).flatten
  | 0 => .nil
  | n + 1 => by
    rw [List.replicate_succ, List.replicate_succ, List.flatten_cons, List.flatten_cons]
    exact Paired.app2 (Paired.rep2 q n) q
theorem binL_any {m : Bool} (h : PostV G Wx σ W (binL m op a b S) Q) (s : Sim G W S H) (rx : RepV G W x a) (ry : RepV G W y b) : ∃ r : R2, OpR X (binaryOp op) r ∧ r x y H Q := by
  have no : ∀ {P : Prop}, PostV G Wx σ W .bad Q → P := fun z => (show False from z).elim
  unfold binL at h
  cases e : lstV S a with
  | none => rw [e] at h; exact no h
  | some xs =>
    rw [e] at h
    obtain ⟨p, vs, rfl, hp, r1⟩ := lstV_rep s rx e
    cases op with
    | Add =>
      have h : PostV G Wx σ W (match lstV S b with
        | some ys => alloc m (xs ++ ys) S
        | none => .bad) Q := h
      cases e2 : lstV S b with
      | none => rw [e2] at h; exact no h
      | some ys =>
        rw [e2] at h
        obtain ⟨q, us, rfl, hq, r2⟩ := lstV_rep s ry e2
        have h : PostV G Wx σ W (alloc m (xs ++ ys) S) Q := h
        have c := alloc_len h
        rw [List.length_append] at c
        exact ⟨_, op_cat, p, q, vs, us, rfl, rfl, hp, hq, by rw [Paired.length r1, Paired.length r2]; exact c, (alloc_post h s (Paired.app2 r2 r1)).2⟩
    | Mult =>
      cases b with
      | r n => exact no h
      | t u =>
        cases u with
        | int k =>
          cases ry
          have h : PostV G Wx σ W (if k.natAbs < 9223372036854775808 then alloc m (List.replicate k.toNat xs).flatten S else .bad) Q := h
          split at h
          · rename_i c
            have c2 := alloc_len h
            rw [flat_len] at c2
            exact ⟨_, op_rep, p, k, vs, rfl, rfl, hp, by omega, by omega, by rw [Paired.length r1]; exact c2, (alloc_post h s (Paired.rep2 r1 k.toNat)).2⟩
          · exact no h
        | _ => exact no h
    | _ => exact no h
theorem RepL.app2 {F : Hp} : ∀ {xs ys : List T} {vs us : List V}, RepL G F vs xs → RepL G F us ys → RepL G F (vs ++ us) (xs ++ ys)
  | [], _, _, _, h, k => by cases h; exact k
  | x :: xs, _, _, _, h, k => by
    cases h with
    | cons h r => exact .cons h (RepL.app2 r k)
theorem catT_any (hK : X.K = G.K) (h : PostV G Wx σ W (catT op a b S) Q) (s : Sim G W S H) (rx : RepV G W x a) (ry : RepV G W y b) : ∃ r : R2, OpR X (binaryOp op) r ∧ r x y H Q := by
  unfold catT at h
  split at h
  · rename_i us ws
    cases rx with
    | @tup pa va _ hx rlx =>
    cases ry with
    | @tup pb vb _ hy rly =>
    split at h
    · rename_i c2
      refine ⟨_, op_catA, pa, pb, va, vb, rfl, rfl, by rw [hK]; exact sameT s.fz hx, by rw [hK]; exact sameT s.fz hy, by rw [rlx.length, rly.length]; exact c2, fun e => ?_, fun e1 e2 => ?_, fun e1 e2 p hp => ?_⟩
      · subst e
        cases us with
        | nil => exact post_t h s (.tup hy rly)
        | cons _ _ => cases rlx
      · subst e2
        cases ws with
        | nil => rw [List.append_nil] at h; exact post_t h s (.tup hx rlx)
        | cons _ _ => cases rly
      · exact h (W.addF p (.tup (va ++ vb))) (.ref p) _ (Wd.le_addF s hp _) (s.addF hp _) (.tup (.inl (.inl upd_same)) (RepL.mono (Wd.le_addF s hp _).f _ _ (RepL.app2 rlx rly)))
    · exact (show False from h).elim
  · rename_i us k
    cases rx with
    | @tup pa va _ hx rlx =>
    cases ry
    split at h
    · rename_i c1
      subst c1
      exact ⟨_, op_repT1, pa, va, rfl, rfl, by rw [hK]; exact sameT s.fz hx, post_t h s (.tup hx rlx)⟩
    · split at h
      · rename_i c2
        obtain ⟨c2, c3, c4, c5⟩ := c2
        refine ⟨_, op_repT, pa, k, va, rfl, rfl, by rw [hK]; exact sameT s.fz hx, fun e => ?_, c3, by omega, by rw [rlx.length]; exact c5, fun p hp => ?_⟩
        · subst e
          cases us with
          | nil => cases c2
          | cons _ _ => cases rlx
        · exact h (W.addF p (.tup (List.replicate k.toNat va).flatten)) (.ref p) _ (Wd.le_addF s hp _) (s.addF hp _) (.tup (.inl (.inl upd_same)) (RepL.mono (Wd.le_addF s hp _).f _ _ (RepL.rep rlx k.toNat)))
      · exact (show False from h).elim
  · exact (show False from h).elim
theorem bin_any (hK : X.K = G.K) (h : PostV G Wx σ W (binV op a b S) Q) (s : Sim G W S H) (rx : RepV G W x a) (ry : RepV G W y b) : ∃ r : R2, OpR X (binaryOp op) r ∧ r x y H Q := by
  unfold binV at h
  split at h
  · exact binL_any h s rx ry
  · split at h
    · exact catT_any hK h s rx ry
    · exact binA_any h s rx ry
theorem tup_post {ws : List Val} {vs : List V} (h : PostV G Wx σ W (if ws.length ≤ szLine then ofT ((allT ws).map .tup) S else .bad) Q) (s : Sim G W S H) (r : Paired (RepV G W) vs ws) : vs.length ≤ sizeLine ∧ ∀ p, H p = none → Q (.ref p) (upd H p (.tup vs)) := by
  by_cases c : ws.length ≤ szLine
  · rw [if_pos c] at h
    refine ⟨by rw [r.length]; exact c, fun p hp => ?_⟩
    cases e : allT ws with
    | none => rw [e] at h; exact (show False from h).elim
    | some xs =>
      rw [e] at h
      have h : PostV G Wx σ W (.ok (.t (.tup xs)) S) Q := h
      refine h (W.addF p (.tup vs)) (.ref p) _ (Wd.le_addF s hp _) (s.addF hp _) ?_
      exact .tup (.inl (.inl upd_same)) (RepL.mono (Wd.le_addF s hp _).f xs vs (allT_rep r e))
  · rw [if_neg c] at h
    exact (show False from h).elim
theorem ix_eq (n : Nat) (i : Int) : ixN n i = ix n i := rfl
theorem atL_ex {α : Type} {xs : List α} {i : Int} {v : α} (h : atL xs i = some v) : ∃ j, ix xs.length i = some j ∧ xs[j]? = some v := Option.bind_eq_some_iff.mp h
theorem atL_rep {xs : List T} {vs : List V} {F : Hp} {i : Int} {t : T} (r : RepL G F vs xs) (h : atL xs i = some t) : ∃ v, atI vs i = some v ∧ Rep G F v t := by
  obtain ⟨j, h1, h2⟩ := atL_ex h
  obtain ⟨v, h3, h4⟩ := r.get h2
  refine ⟨v, ?_, h4⟩
  unfold atI
  rw [ix_eq, r.length, h1]
  exact h3
theorem Paired.get {α β : Type} {P : α → β → Prop} : ∀ {xs : List α} {ys : List β} {i : Nat} {y : β}, Paired P xs ys → ys[i]? = some y → ∃ x, xs[i]? = some x ∧ P x y
  | _, _, _, _, .nil, e => by simp at e
  | _, _, 0, y, .cons r _, e => by
    simp at e
    subst e
    exact ⟨_, rfl, r⟩
  | _, _, i + 1, y, .cons _ t, e => by
    obtain ⟨x, h1, h2⟩ := Paired.get (i := i) t (by simpa using e)
    exact ⟨x, by simpa using h1, h2⟩
def rIxK : R2 := fun x y H Q => ∃ a v, x = .ref a ∧ DGet H a y (some v) ∧ Q v H
theorem ix_dict {X : Cx} (hu : X.A.units + 1 < cLine) : IxR X rIxK := by
  intro value slice pins s σ H x y v u Q I rx ry h hs
  obtain ⟨a, w, ex, g, q⟩ := h
  subst ex
  cases rx
  exact tail_any (dict_typeIs I g) PySem.F.slot_dict_getitem.lookup (d_getItem hu I g ry fun w' s' I' r' => ⟨w, H, I', r', q⟩) hs
theorem sub_dct {X : Cx} {Q : VK} (hu : X.A.units + 1 < cLine) {ad : Addr} {gs : List (Key × V)} {kvs : List (Key × Val)} {k : Key} (h : PostV G Wx σ W (ofO (lookK kvs k) S) Q) (s : Sim G W S H) (hH : H ad = some (.dK gs)) (r : Paired (DR G W) gs kvs) :
    ∃ r : R2, IxR X r ∧ r (.ref ad) (kV k) H Q := by
  cases e : lookK kvs k with
  | none => rw [e] at h; exact (show False from h).elim
  | some v =>
    rw [e] at h
    obtain ⟨x, e1, r1⟩ := lookK_rel r e
    exact ⟨rIxK, ix_dict hu, ad, x, rfl, by rw [← e1]; exact DGet.k hH, Post.ok h s r1⟩
theorem sub_dctT {X : Cx} {Q : VK} (hu : X.A.units + 1 < cLine) {ad : Addr} {gs : List (Key × V)} {kvs : List (Key × T)} {k : Key} (h : PostV G Wx σ W (ofT (lookK kvs k) S) Q) (s : Sim G W S H) (hF : W.F ad = some (.dK gs)) (r : RepD G W.F gs kvs) :
    ∃ r : R2, IxR X r ∧ r (.ref ad) (kV k) H Q := by
  cases e : lookK kvs k with
  | none => rw [e] at h; exact (show False from h).elim
  | some v =>
    rw [e] at h
    obtain ⟨x, e1, r1⟩ := lookK_repD r e
    exact ⟨rIxK, ix_dict hu, ad, x, rfl, by rw [← e1]; exact DGet.k (s.fz _ _ hF), Post.ok h s (show RepV G W x (.t v) from r1)⟩
theorem sub_any (hK : X.K = G.K) (hu : X.A.units + 1 < cLine) (h : PostV G Wx σ W (subV a b S) Q) (s : Sim G W S H) (rx : RepV G W x a) (ry : RepV G W y b) : ∃ r : R2, IxR X r ∧ r x y H Q := by
  have no : ∀ {P : Prop}, PostV G Wx σ W .bad Q → P := fun z => (show False from z).elim
  cases b with
  | r n =>
    cases a with
    | r m => exact no h
    | t t => cases t <;> exact no h
  | t u =>
    cases u with
    | int i =>
      cases ry
      cases a with
      | r n =>
        obtain ⟨hn, ex⟩ := rx
        subst ex
        have h : PostV G Wx σ W (match S[n]? with
          | some (.lst vs) => ofO (atL vs i) S
          | some (.dct kvs) => ofO (lookK kvs (.inl i)) S
          | _ => .bad) Q := h
        cases q : S[n]? with
        | none => rw [q] at h; exact no h
        | some c =>
          rw [q] at h
          cases c with
          | lst ws =>
            have h : PostV G Wx σ W (ofO (atL ws i) S) Q := h
            obtain ⟨_, _, o, ho, ok⟩ := s.live n _ q (by intro z; cases z)
            cases ok with
            | @lst vs _ hp =>
              cases e : atL ws i with
              | none => rw [e] at h; exact no h
              | some w =>
                rw [e] at h
                obtain ⟨j, h1, h2⟩ := atL_ex e
                obtain ⟨v, h3, h4⟩ := Paired.get hp h2
                refine ⟨_, ix_list, _, vs, i, v, rfl, rfl, SqL.of ho, ?_, Post.ok h s h4⟩
                unfold atI
                rw [ix_eq, Paired.length hp, h1]
                exact h3
          | dead => exact no h
          | ins _ _ => exact no h
          | dct kvs =>
            obtain ⟨_, _, o, ho, ok⟩ := s.live n _ q (by intro z; cases z)
            cases ok with
            | dct hp => exact sub_dct hu h s ho hp
      | t t =>
        cases t with
        | lst xs =>
          cases rx with
          | lst hF r =>
            have h : PostV G Wx σ W (ofT (atL xs i) S) Q := h
            cases e : atL xs i with
            | none => rw [e] at h; exact no h
            | some t =>
              rw [e] at h
              obtain ⟨v, h1, h2⟩ := atL_rep r e
              exact ⟨_, ix_list, _, _, i, v, rfl, rfl, SqL.of (s.fz _ _ hF), h1, post_t h s h2⟩
        | tup xs =>
          cases rx with
          | tup hF r =>
            have h : PostV G Wx σ W (ofT (atL xs i) S) Q := h
            cases e : atL xs i with
            | none => rw [e] at h; exact no h
            | some t =>
              rw [e] at h
              obtain ⟨v, h1, h2⟩ := atL_rep r e
              exact ⟨_, ix_tup, _, _, i, v, rfl, rfl, by rw [hK]; exact sameT s.fz hF, h1, post_t h s h2⟩
        | scr ns =>
          cases rx with
          | scr hF =>
            have h : PostV G Wx σ W (ofT ((atL ns i).map .int) S) Q := h
            cases e : atL ns i with
            | none => rw [e] at h; exact no h
            | some m =>
              rw [e] at h
              obtain ⟨j, h1, h2⟩ := atL_ex e
              refine ⟨_, ix_list, _, _, i, .int m, rfl, rfl, by rw [hK]; exact s.fz.seq hF, ?_, post_t h s (.int m)⟩
              unfold atI
              rw [ix_eq, List.length_map, h1]
              show (ns.map V.int)[j]? = _
              rw [List.getElem?_map, h2]
              rfl
        | dct kvs =>
          cases rx with
          | dct hF r => exact sub_dctT hu h s hF r
        | str z =>
          cases rx
          have h : PostV G Wx σ W (if z.length ≤ szLine then ofT ((atL z.cps.toList i).map fun c => .str ⟨#[c]⟩) S else .bad) Q := h
          by_cases cz : z.length ≤ szLine
          · rw [if_pos cz] at h
            cases e : atL z.cps.toList i with
            | none => rw [e] at h; exact no h
            | some c =>
              rw [e] at h
              exact ⟨_, ix_str, z, i, c, rfl, rfl, cz, e, post_t h s (.str _)⟩
          · rw [if_neg cz] at h
            exact no h
        | _ => exact no h
    | str z =>
      cases ry
      cases a with
      | r n =>
        obtain ⟨hn, ex⟩ := rx
        subst ex
        have h : PostV G Wx σ W (match S[n]? with
          | some (.dct kvs) => ofO (lookK kvs (.inr z)) S
          | _ => .bad) Q := h
        cases q : S[n]? with
        | none => rw [q] at h; exact no h
        | some c =>
          rw [q] at h
          cases c with
          | dct kvs =>
            obtain ⟨_, _, o, ho, ok⟩ := s.live n _ q (by intro z; cases z)
            cases ok with
            | dct hp => exact sub_dct hu h s ho hp
          | _ => exact no h
      | t t =>
        cases t with
        | dct kvs =>
          cases rx with
          | dct hF r => exact sub_dctT hu h s hF r
        | _ => exact no h
    | _ =>
      cases a with
      | r m => exact no h
      | t t => cases t <;> exact no h
end
end Rw
namespace Rw
open PySem PySem.Spec PyProof.Rows L2
section
variable {G : Gd} {C : Ck} {X : Cx} {Wx : WX} {k : Nat} {call : Call} {W : Wd} {S : Store} {H : Hp} {σ : L2.St} {env : Env} {x y : V} {a b : Val} {Q : VK}
abbrev tE (G : Gd) (Wx : WX) (call : Call) (e : IE) : TE := Den G (RepV G) Wx (dE G.tab call e)
abbrev tEs (G : Gd) (Wx : WX) (call : Call) (es : IEs) : TA := Den G (fun W => Paired (RepV G W)) Wx (dEs G.tab call es)
abbrev tB (G : Gd) (Wx : WX) (call : Call) (c : IC) : TT := Den G (fun _ (b k : Bool) => b = k) Wx (dB G.tab call c)
abbrev tAndC (G : Gd) (Wx : WX) (call : Call) (cs : ICs) : TT := Den G (fun _ (b k : Bool) => b = k) Wx (dAnd G.tab call cs)
abbrev tOrC (G : Gd) (Wx : WX) (call : Call) (cs : ICs) : TT := Den G (fun _ (b k : Bool) => b = k) Wx (dOr G.tab call cs)
theorem one_arg {a : Val} {vs : List V} (r : Paired (RepV G W) vs [a]) : ∃ v, vs = [v] ∧ RepV G W v a := by
  cases r with
  | cons r rr => cases rr; exact ⟨_, rfl, r⟩
theorem two_args {a b : Val} {vs : List V} (r : Paired (RepV G W) vs [a, b]) : ∃ v w, vs = [v, w] ∧ RepV G W v a ∧ RepV G W w b := by
  cases r with
  | cons r rr =>
    cases rr with
    | cons r2 rr => cases rr; exact ⟨_, _, rfl, r, r2⟩
theorem XOk.kindOf (ok : XOk G C X Wx k call) {x : Str} (h : glB C.sc x = true) : Gl X x := by
  show X.env.scope.names.lookup x = _
  rw [ok.sc]
  exact glB_ok h
theorem XOk.vis (ok : XOk G C X Wx k call) {x : Str} (h : visB C.sc x = true) : Vis X.env.scope x := by
  rw [ok.sc]
  exact visB_ok h
def bltTy : Blt → Option String
  | .int => some "int" | .str => some "str" | .list => some "list" | .tuple => some "tuple" | .bool => some "bool" | .dict => some "dict"
  | _ => none
def bltId : Blt → String
  | .len => "len" | .min2 => "min" | .max2 => "max" | .abs => "abs" | .all => "all" | .any => "any" | .sum => "sum" | .minl => "min" | .maxl => "max" | .divmod => "divmod" | .sorted => "sorted"
  | _ => ""
def bltF (b : Blt) : Value := match bltTy b with
  | some t => .type t
  | none => .builtin (bltId b)
theorem blt_boot (b : Blt) : bootBuiltins (bltN b) = some (bltF b) := by
  cases b <;> decide +kernel
theorem blt_free (ok : XOk G C X Wx k call) (b : Blt) : X.mg (bltN b) = none := by
  rw [ok.mg]
  refine ok.free _ ?_
  cases b <;> decide +kernel
theorem pe_blt (ok : XOk G C X Wx k call) {b : Blt} {e : Expr} {es : List Expr} {p pos : Pos} {t : TA} {r : List V → Hp → VK → Prop} (hr : CallR X (bltF b) r) (hg : Gl X (bltN b)) (ha : PA X (e :: es) t) (hs : noStar (e :: es) = true)
    (n1 : bltN b ≠ "__name__") (n2 : (bltN b == ("__debug__" : Str)) = false) : PE X (.Call (.Name (bltN b) p) (e :: es) [] pos) (fun σ H Q => t σ H fun vs H1 => r vs H1 Q) := by
  have hb := blt_boot b
  have h1 := star_cons (es := es) X.env (nb (ba hs).1)
  have h2 := star_any (env := X.env) (pos := pos) (ba hs).2
  cases q : bltTy b with
  | none =>
    have ef : bltF b = .builtin (bltId b) := by unfold bltF; rw [q]
    rw [ef] at hr hb
    exact pe_callB hr hg (blt_free ok b) hb ha n1 n2 h1 h2
  | some T =>
    have ef : bltF b = .type T := by unfold bltF; rw [q]
    rw [ef] at hr hb
    exact pe_callTy hr hg (blt_free ok b) hb ha n1 n2 h1 h2
theorem vals_ints : ∀ ns : List Int, Paired (RepV G W) (ns.map V.int) (ns.map fun n => Val.t (.int n))
  | [] => .nil
  | n :: ns => .cons (show Rep G W.F (.int n) (.int n) from .int n) (vals_ints ns)
theorem listV_rep {ws : List Val} (s : Sim G W S H) (r : RepV G W x a) (e : listV S a = some ws) : ∃ p vs, x = .ref p ∧ SqL G.K H p vs ∧ Paired (RepV G W) vs ws := by
  cases a with
  | t u =>
    cases u with
    | lst xs =>
      cases e
      cases r with
      | lst hF r => exact ⟨_, _, rfl, SqL.of (s.fz _ _ hF), vals_repL (vs := []) r⟩
    | scr ns =>
      cases e
      cases r with
      | scr hF => exact ⟨_, _, rfl, s.fz.seq hF, vals_ints ns⟩
    | _ => cases e
  | r n =>
    obtain ⟨hn, ex⟩ := r
    subst ex
    have e1 : (match S[n]? with
      | some (.lst vs) => some vs
      | _ => none) = some ws := e
    cases q : S[n]? with
    | none => rw [q] at e1; cases e1
    | some c =>
      rw [q] at e1
      cases c with
      | lst us =>
        cases e1
        obtain ⟨_, _, o, ho, ok⟩ := s.live n _ q (by intro z; cases z)
        cases ok with
        | lst hp => exact ⟨_, _, rfl, SqL.of ho, hp⟩
      | dead => cases e1
      | ins _ _ => cases e1
      | dct _ => cases e1
theorem allB_rep : ∀ {ws : List Val} {bs : List Bool} {vs : List V}, Paired (RepV G W) vs ws → allB ws = some bs → vs = bs.map V.bl
  | [], _, _, r, e => by cases r; cases e; rfl
  | .t (.bl b) :: ws, _, _, r, e => by
    cases r with
    | cons r rr =>
      obtain ⟨cs, e2, e3⟩ := Option.map_eq_some_iff.mp (show (allB ws).map (b :: ·) = some _ from e)
      subst e3
      cases r
      rw [allB_rep rr e2]
      rfl
  | .r n :: ws, _, _, _, e => by cases e
  | .t .non :: _, _, _, _, e => by cases e
  | .t (.int _) :: _, _, _, _, e => by cases e
  | .t (.str _) :: _, _, _, _, e => by cases e
  | .t (.tup _) :: _, _, _, _, e => by cases e
  | .t (.lst _) :: _, _, _, _, e => by cases e
  | .t (.ins _ _) :: _, _, _, _, e => by cases e
  | .t (.dct _) :: _, _, _, _, e => by cases e
  | .t (.fn _) :: _, _, _, _, e => by cases e
  | .t (.scr _) :: _, _, _, _, e => by cases e
theorem allI_rep : ∀ {ws : List Val} {bs : List Int} {vs : List V}, Paired (RepV G W) vs ws → allI ws = some bs → vs = bs.map V.int
  | [], _, _, r, e => by cases r; cases e; rfl
  | .t (.int b) :: ws, _, _, r, e => by
    cases r with
    | cons r rr =>
      obtain ⟨cs, e2, e3⟩ := Option.map_eq_some_iff.mp (show (allI ws).map (b :: ·) = some _ from e)
      subst e3
      cases r
      rw [allI_rep rr e2]
      rfl
  | .r n :: ws, _, _, _, e => by cases e
  | .t .non :: _, _, _, _, e => by cases e
  | .t (.bl _) :: _, _, _, _, e => by cases e
  | .t (.str _) :: _, _, _, _, e => by cases e
  | .t (.tup _) :: _, _, _, _, e => by cases e
  | .t (.lst _) :: _, _, _, _, e => by cases e
  | .t (.ins _ _) :: _, _, _, _, e => by cases e
  | .t (.dct _) :: _, _, _, _, e => by cases e
  | .t (.fn _) :: _, _, _, _, e => by cases e
  | .t (.scr _) :: _, _, _, _, e => by cases e
theorem repD_pair {gs : List (Key × V)} : ∀ {fs : List (Key × T)} {gs : List (Key × V)}, RepD G W.F gs fs → Paired (DR G W) gs (fs.map fun p => (p.1, Val.t p.2))
  | [], _, r => by cases r; exact .nil
  | _ :: fs, _, r => by
    cases r with
    | cons h r => exact .cons ⟨rfl, h⟩ (repD_pair (gs := []) r)
theorem allD_rep : ∀ {kvs : List (Key × Val)} {gs : List (Key × V)} {xs : List (Key × T)}, Paired (DR G W) gs kvs → allD kvs = some xs → RepD G W.F gs xs
  | [], _, _, r, e => by
    cases r
    cases e
    exact .nil
  | (k, .t x) :: kvs, _, _, r, e => by
    cases r with
    | @cons p q _ _ r rr =>
      obtain ⟨k', v⟩ := p
      obtain ⟨e1, r1⟩ := r
      have e1 : k' = k := e1
      subst e1
      obtain ⟨ys, e2, e3⟩ := Option.map_eq_some_iff.mp (show (allD kvs).map ((k', x) :: ·) = some _ from e)
      subst e3
      exact .cons r1 (allD_rep rr e2)
  | (_, .r n) :: kvs, _, _, _, e => by cases e
theorem dctOf_rep {kvs : List (Key × Val)} (s : Sim G W S H) (r : RepV G W x a) (e : dctOf S a = some kvs) : ∃ ad gs, x = .ref ad ∧ H ad = some (.dK gs) ∧ Paired (DR G W) gs kvs := by
  cases a with
  | t u =>
    cases u with
    | dct fs =>
      cases e
      cases r with
      | dct hF r => exact ⟨_, _, rfl, s.fz _ _ hF, repD_pair (gs := []) r⟩
    | _ => cases e
  | r n =>
    obtain ⟨hn, ex⟩ := r
    subst ex
    have e1 : (match S[n]? with
      | some (.dct kvs) => some kvs
      | _ => none) = some kvs := e
    cases q : S[n]? with
    | none => rw [q] at e1; cases e1
    | some c =>
      rw [q] at e1
      cases c with
      | dct us =>
        cases e1
        obtain ⟨_, _, o, ho, ok⟩ := s.live n _ q (by intro z; cases z)
        cases ok with
        | dct hp => exact ⟨_, _, rfl, ho, hp⟩
      | dead => cases e1
      | ins _ _ => cases e1
      | lst _ => cases e1
theorem mkD_post {m : Bool} {kvs : List (Key × Val)} {gs : List (Key × V)} (h : PostV G Wx σ W (mkD m kvs S) Q) (s : Sim G W S H) (r : Paired (DR G W) gs kvs) : ∀ p, H p = none → Q (.ref p) (upd H p (.dK gs)) := fun p hp => by
  unfold mkD at h
  cases m with
  | true =>
    have h : PostV G Wx σ W (.ok (.r S.length) (S ++ [.dct kvs])) Q := h
    refine h (W.addC p) (.ref p) _ (Wd.le_addC W p) (s.addC hp (.dct r)) ⟨?_, ?_⟩
    · show S.length < W.n + 1
      rw [s.len]
      exact Nat.lt_succ_self _
    · show V.ref p = V.ref (if S.length = W.n then p else _)
      rw [if_pos s.len]
  | false =>
    have h : PostV G Wx σ W (match allD kvs with
      | some xs => .ok (.t (.dct xs)) S
      | none => .bad) Q := h
    cases e : allD kvs with
    | none => rw [e] at h; exact (show False from h).elim
    | some xs =>
      rw [e] at h
      refine h (W.addF p (.dK gs)) (.ref p) _ (Wd.le_addF s hp _) (s.addF hp _) ?_
      exact .dct upd_same (RepD.mono (Wd.le_addF s hp _).f _ _ (allD_rep r e))
theorem pairs_rep (s : Sim G W S H) : ∀ {ws : List Val} {vs : List V} {kvs : List (Key × Val)}, Paired (RepV G W) vs ws → pairsV ws = some kvs →
    ∃ (ps : List Addr) (gs : List (Key × V)), vs = ps.map V.ref ∧ Paired (fun p kv => SqT G.K H p [kV kv.1, kv.2]) ps gs ∧ Paired (DR G W) gs kvs
  | [], _, _, r, e => by
    cases r
    cases e
    exact ⟨[], [], rfl, .nil, .nil⟩
  | w :: ws, _, _, r, e => by
    cases r with
    | cons r rr =>
      obtain ⟨q, e1, e2⟩ := Option.bind_eq_some_iff.mp (show ((pairV w).bind fun q => (pairsV ws).map (q :: ·)) = some _ from e)
      obtain ⟨qs, e3, e4⟩ := Option.map_eq_some_iff.mp e2
      subst e4
      obtain ⟨ps, gs, rfl, h2, h3⟩ := pairs_rep s rr e3
      unfold pairV at e1
      split at e1
      · rename_i k v
        obtain ⟨k', e5, e6⟩ := Option.map_eq_some_iff.mp e1
        subst e6
        cases r with
        | tup hF rl =>
          cases rl with
          | cons ra rl =>
            cases rl with
            | cons rb rl =>
              cases rl
              have ex := keyT_rep e5 ra
              subst ex
              exact ⟨_ :: ps, (k', _) :: gs, rfl, .cons (sameT s.fz hF) h2, .cons ⟨rfl, rb⟩ h3⟩
      · cases e1
theorem min_fold : ∀ (ns : List Int) (n : Int), (ns.foldl min n) ∈ n :: ns ∧ ∀ y ∈ n :: ns, ns.foldl min n ≤ y
  | [], n => ⟨List.mem_cons_self, fun y h => by rw [List.mem_singleton.mp h]; exact Int.le_refl _⟩
  | m :: ns, n => by
    obtain ⟨h1, h2⟩ := min_fold ns (min n m)
    have e : (m :: ns).foldl min n = ns.foldl min (min n m) := rfl
    rw [e]
    generalize ns.foldl min (min n m) = z at h1 h2
    refine ⟨?_, fun y hy => ?_⟩
    · rcases List.mem_cons.mp h1 with h | h
      · rcases Int.le_total n m with q | q
        · rw [h, Int.min_eq_left q]; exact List.mem_cons_self
        · rw [h, Int.min_eq_right q]; exact List.mem_cons_of_mem _ List.mem_cons_self
      · exact List.mem_cons_of_mem _ (List.mem_cons_of_mem _ h)
    · have h3 := h2 _ List.mem_cons_self
      rcases List.mem_cons.mp hy with h | h
      · omega
      · rcases List.mem_cons.mp h with h | h
        · omega
        · exact h2 y (List.mem_cons_of_mem _ h)
theorem max_fold : ∀ (ns : List Int) (n : Int), (ns.foldl max n) ∈ n :: ns ∧ ∀ y ∈ n :: ns, y ≤ ns.foldl max n
  | [], n => ⟨List.mem_cons_self, fun y h => by rw [List.mem_singleton.mp h]; exact Int.le_refl _⟩
  | m :: ns, n => by
    obtain ⟨h1, h2⟩ := max_fold ns (max n m)
    have e : (m :: ns).foldl max n = ns.foldl max (max n m) := rfl
    rw [e]
    generalize ns.foldl max (max n m) = z at h1 h2
    refine ⟨?_, fun y hy => ?_⟩
    · rcases List.mem_cons.mp h1 with h | h
      · rcases Int.le_total n m with q | q
        · rw [h, Int.max_eq_right q]; exact List.mem_cons_of_mem _ List.mem_cons_self
        · rw [h, Int.max_eq_left q]; exact List.mem_cons_self
      · exact List.mem_cons_of_mem _ (List.mem_cons_of_mem _ h)
    · have h3 := h2 _ List.mem_cons_self
      rcases List.mem_cons.mp hy with h | h
      · omega
      · rcases List.mem_cons.mp h with h | h
        · omega
        · exact h2 y (List.mem_cons_of_mem _ h)
theorem pair_snd : ∀ {gs : List (Key × V)} {kvs : List (Key × Val)}, Paired (DR G W) gs kvs → Paired (RepV G W) (gs.map (·.2)) (kvs.map (·.2))
  | _, _, .nil => .nil
  | _, _, .cons r rr => .cons r.2 (pair_snd rr)
theorem blt_any (ok : XOk G C X Wx k call) {b : Blt} (hc : needCalm b = true → X.calm = true) {m : Bool} {ws : List Val} {vs : List V} (h : PostV G Wx σ W (bltV b m ws S) Q) (s : Sim G W S H) (r : Paired (RepV G W) vs ws) :
    ∃ q : List V → Hp → VK → Prop, CallR X (bltF b) q ∧ q vs H Q := by
  have no : ∀ {P : Prop}, PostV G Wx σ W .bad Q → P := fun z => (show False from z).elim
  unfold bltV at h
  split at h
  · rename_i a
    obtain ⟨v, rfl, rv⟩ := one_arg r
    unfold lenV at h
    split at h
    · cases rv with
      | lst hF rl =>
        refine ⟨_, call_len_seq, _, _, rfl, .inl (SqL.of (s.fz _ _ hF)), ?_⟩
        rw [rl.length]
        exact post_t h s (.int _)
    · cases rv with
      | tup hF rl =>
        refine ⟨_, call_len_seq, _, _, rfl, .inr (by rw [ok.K]; exact sameT s.fz hF), ?_⟩
        rw [rl.length]
        exact post_t h s (.int _)
    · rename_i ns
      cases rv with
      | scr hF =>
        refine ⟨_, call_len_seq, _, _, rfl, .inl (by rw [ok.K]; exact s.fz.seq hF), ?_⟩
        rw [List.length_map]
        exact post_t h s (.int _)
    · cases rv
      split at h
      · rename_i c
        exact ⟨_, call_len_str, _, rfl, c, post_t h s (.int _)⟩
      · exact no h
    · rename_i n
      obtain ⟨hn, ex⟩ := rv
      subst ex
      split at h
      · rename_i vs q
        obtain ⟨_, _, o, ho, ok2⟩ := s.live n _ q (by intro z; cases z)
        cases ok2 with
        | lst hp =>
          refine ⟨_, call_len_seq, _, _, rfl, .inl (SqL.of ho), ?_⟩
          rw [Paired.length hp]
          exact post_t h s (.int _)
      · exact no h
    · exact no h
  · obtain ⟨v, rfl, rv⟩ := one_arg r
    cases rv
    exact ⟨_, call_int1, .inl ⟨_, rfl, post_t h s (.int _)⟩⟩
  · obtain ⟨v, rfl, rv⟩ := one_arg r
    cases rv
    exact ⟨_, call_int1, .inr ⟨_, rfl, post_t h s (.int _)⟩⟩
  · rename_i x
    obtain ⟨v, rfl, rv⟩ := one_arg r
    cases rv
    have h : PostV G Wx σ W (match PySem.intText? x with
      | some n => if x.length ≤ 640 then .ok (.t (.int n)) S else .bad
      | none => .bad) Q := h
    cases q : PySem.intText? x with
    | none => rw [q] at h; exact no h
    | some n =>
      rw [q] at h
      have h : PostV G Wx σ W (if x.length ≤ 640 then .ok (.t (.int n)) S else .bad) Q := h
      split at h
      · rename_i c
        exact ⟨_, call_int_str, _, _, rfl, q, c, post_t h s (.int _)⟩
      · exact no h
  · obtain ⟨v, rfl, rv⟩ := one_arg r
    cases rv
    split at h
    · rename_i c
      exact ⟨_, call_str_int, _, rfl, c, post_t h s (.str _)⟩
    · exact no h
  · obtain ⟨v, rfl, rv⟩ := one_arg r
    cases rv
    exact ⟨_, SkE.call_str_str, _, rfl, post_t h s (.str _)⟩
  · obtain ⟨v, w, rfl, rv, rw⟩ := two_args r
    cases rv
    cases rw
    exact ⟨_, call_min2 (hc rfl), _, _, rfl, post_t h s (.int _)⟩
  · obtain ⟨v, w, rfl, rv, rw⟩ := two_args r
    cases rv
    cases rw
    exact ⟨_, call_max2 (hc rfl), _, _, rfl, post_t h s (.int _)⟩
  · obtain ⟨v, rfl, rv⟩ := one_arg r
    cases rv
    exact ⟨_, call_abs, _, rfl, post_t h s (.int _)⟩
  · obtain ⟨v, rfl, rv⟩ := one_arg r
    split at h
    · cases rv with
      | tup hF rl =>
        obtain ⟨h1, h2⟩ := alloc_post h s (vals_repL (vs := []) rl)
        exact ⟨_, call_list_of, _, _, rfl, .inr (by rw [ok.K]; exact sameT s.fz hF), h2⟩
    · rename_i q
      obtain ⟨p, us, rfl, hs, rp⟩ := listV_rep s rv q
      obtain ⟨h1, h2⟩ := alloc_post h s rp
      exact ⟨_, call_list_of, _, _, rfl, .inl (by rw [ok.K]; exact hs), h2⟩
    · exact no h
  · obtain ⟨v, rfl, rv⟩ := one_arg r
    split at h
    · cases rv with
      | tup hF rl =>
        exact ⟨_, call_tuple_of, _, _, rfl, .inr ⟨by rw [ok.K]; exact sameT s.fz hF, post_t h s (.tup hF rl)⟩⟩
    · rename_i q
      obtain ⟨p, us, rfl, hs, rp⟩ := listV_rep s rv q
      obtain ⟨h1, h2⟩ := tup_post h s rp
      exact ⟨_, call_tuple_of, _, _, rfl, .inl ⟨by rw [ok.K]; exact hs, h2⟩⟩
    · exact no h
  · rename_i a
    obtain ⟨v, rfl, rv⟩ := one_arg r
    cases q : listV S a with
    | none => rw [q] at h; exact no h
    | some us =>
      rw [q] at h
      obtain ⟨p, zs, rfl, hs, rp⟩ := listV_rep s rv q
      cases q2 : allB us with
      | none => have h : PostV G Wx σ W (ofT ((allB us).map fun bs => .bl (bs.all id)) S) Q := h; rw [q2] at h; exact no h
      | some bs =>
        have h : PostV G Wx σ W (ofT ((allB us).map fun bs => .bl (bs.all id)) S) Q := h
        rw [q2] at h
        have e := allB_rep rp q2
        subst e
        exact ⟨_, cr_all (hc rfl), _, bs, rfl, by rw [ok.K]; exact hs, post_t h s (.bl _)⟩
  · rename_i a
    obtain ⟨v, rfl, rv⟩ := one_arg r
    cases q : listV S a with
    | none => rw [q] at h; exact no h
    | some us =>
      rw [q] at h
      obtain ⟨p, zs, rfl, hs, rp⟩ := listV_rep s rv q
      cases q2 : allB us with
      | none => have h : PostV G Wx σ W (ofT ((allB us).map fun bs => .bl (bs.any id)) S) Q := h; rw [q2] at h; exact no h
      | some bs =>
        have h : PostV G Wx σ W (ofT ((allB us).map fun bs => .bl (bs.any id)) S) Q := h
        rw [q2] at h
        have e := allB_rep rp q2
        subst e
        exact ⟨_, cr_any (hc rfl), _, bs, rfl, by rw [ok.K]; exact hs, post_t h s (.bl _)⟩
  · rename_i a
    obtain ⟨v, rfl, rv⟩ := one_arg r
    cases q : listV S a with
    | none => rw [q] at h; exact no h
    | some us =>
      rw [q] at h
      obtain ⟨p, zs, rfl, hs, rp⟩ := listV_rep s rv q
      cases q2 : allI us with
      | none => have h : PostV G Wx σ W (ofT ((allI us).map fun bs => .int bs.sum) S) Q := h; rw [q2] at h; exact no h
      | some bs =>
        have h : PostV G Wx σ W (ofT ((allI us).map fun bs => .int bs.sum) S) Q := h
        rw [q2] at h
        have e := allI_rep rp q2
        subst e
        exact ⟨_, cr_sum (hc rfl), _, bs, rfl, by rw [ok.K]; exact hs, post_t h s (.int _)⟩
  · rename_i a
    obtain ⟨v, rfl, rv⟩ := one_arg r
    cases q : listV S a with
    | none => rw [q] at h; exact no h
    | some us =>
      rw [q] at h
      obtain ⟨p, zs, rfl, hs, rp⟩ := listV_rep s rv q
      cases q2 : allI us with
      | none =>
        have h : PostV G Wx σ W (match allI us with
          | some ns => if ns.length < 64 then alloc m ((ns.mergeSort (fun i j => decide (i ≤ j))).map fun i => .t (.int i)) S else .bad
          | none => .bad) Q := h
        rw [q2] at h
        exact no h
      | some ns =>
        have h : PostV G Wx σ W (match allI us with
          | some ns => if ns.length < 64 then alloc m ((ns.mergeSort (fun i j => decide (i ≤ j))).map fun i => .t (.int i)) S else .bad
          | none => .bad) Q := h
        rw [q2] at h
        have h : PostV G Wx σ W (if ns.length < 64 then alloc m ((ns.mergeSort (fun i j => decide (i ≤ j))).map fun i => .t (.int i)) S else .bad) Q := h
        split at h
        · rename_i c
          have e := allI_rep rp q2
          subst e
          refine ⟨_, cr_sorted, _, ns, rfl, by rw [ok.K]; exact hs, c, fun ns' p2 hp hw hn => ?_⟩
          have pm := List.mergeSort_perm ns (fun i j => decide (i ≤ j))
          have pw := List.pairwise_mergeSort (le := fun (i j : Int) => decide (i ≤ j)) (fun a b c h1 h2 => decide_eq_true (Int.le_trans (of_decide_eq_true h1) (of_decide_eq_true h2))) (fun a b => by
            rcases Int.le_total a b with z | z
            · rw [decide_eq_true z]; rfl
            · rw [decide_eq_true z, Bool.or_true]) ns
          have e : ns' = ns.mergeSort (fun i j => decide (i ≤ j)) := List.Perm.eq_of_pairwise (fun x y _ _ h1 h2 => Int.le_antisymm h1 h2) hw (pw.imp of_decide_eq_true) (hp.trans pm.symm)
          subst e
          exact (alloc_post h s (vals_ints _)).2 p2 hn
        · exact no h
  · obtain ⟨v, w, rfl, rv, rw⟩ := two_args r
    cases rv
    cases rw
    split at h
    · rename_i c
      exact ⟨_, call_divmod, _, _, rfl, ⟨c.1, by omega⟩, new_tup h s (.cons (.int _) (.cons (.int _) .nil))⟩
    · exact no h
  · obtain ⟨v, rfl, rv⟩ := one_arg r
    cases rv
    exact ⟨_, call_bool1, .inl ⟨_, rfl, post_t h s (.bl _)⟩⟩
  · obtain ⟨v, rfl, rv⟩ := one_arg r
    cases rv
    exact ⟨_, call_bool1, .inr ⟨_, rfl, post_t h s (.bl _)⟩⟩
  · rename_i a
    obtain ⟨v, rfl, rv⟩ := one_arg r
    have h : PostV G Wx σ W (dictV m a S) Q := h
    unfold dictV at h
    cases q : dctOf S a with
    | some kvs =>
      rw [q] at h
      obtain ⟨ad, gs, rfl, ho, hp⟩ := dctOf_rep s rv q
      exact ⟨_, call_dictD, ad, gs, rfl, .inl ho, mkD_post h s hp⟩
    | none =>
      rw [q] at h
      have h : PostV G Wx σ W (match (listV S a).bind pairsV with
        | some kvs => mkD m (mergeKV [] kvs) S
        | none => .bad) Q := h
      cases q2 : (listV S a).bind pairsV with
      | none => rw [q2] at h; exact no h
      | some kvs =>
        rw [q2] at h
        obtain ⟨us, e1, e2⟩ := Option.bind_eq_some_iff.mp q2
        obtain ⟨p, zs, rfl, hs, rp⟩ := listV_rep s rv e1
        obtain ⟨ps, gs, rfl, h2, h3⟩ := pairs_rep s rp e2
        refine ⟨_, call_dictP (hc rfl), p, ps, gs, rfl, by rw [ok.K]; exact hs, by rw [ok.K]; exact h2, mkD_post h s (mergeKV_rel h3 .nil)⟩
  · rename_i a
    obtain ⟨v, rfl, rv⟩ := one_arg r
    cases q : (((listV S a).bind allI).bind minI) with
    | none =>
      have h : PostV G Wx σ W (ofT ((((listV S a).bind allI).bind minI).map .int) S) Q := h
      rw [q] at h
      exact no h
    | some z =>
      have h : PostV G Wx σ W (ofT ((((listV S a).bind allI).bind minI).map .int) S) Q := h
      rw [q] at h
      obtain ⟨ns, e1, e2⟩ := Option.bind_eq_some_iff.mp q
      obtain ⟨us, e3, e4⟩ := Option.bind_eq_some_iff.mp e1
      obtain ⟨p, zs, rfl, hs, rp⟩ := listV_rep s rv e3
      have e5 := allI_rep rp e4
      subst e5
      cases ns with
      | nil => cases e2
      | cons n ns =>
        cases e2
        obtain ⟨m1, m2⟩ := min_fold ns n
        refine ⟨_, cr_min (hc rfl), p, n :: ns, rfl, by rw [ok.K]; exact hs, Nat.succ_pos _, fun y hy hle => ?_⟩
        have e : y = ns.foldl min n := by
          have := m2 y hy
          have := hle _ m1
          omega
        rw [e]
        exact post_t h s (.int _)
  · rename_i a
    obtain ⟨v, rfl, rv⟩ := one_arg r
    cases q : (((listV S a).bind allI).bind maxI) with
    | none =>
      have h : PostV G Wx σ W (ofT ((((listV S a).bind allI).bind maxI).map .int) S) Q := h
      rw [q] at h
      exact no h
    | some z =>
      have h : PostV G Wx σ W (ofT ((((listV S a).bind allI).bind maxI).map .int) S) Q := h
      rw [q] at h
      obtain ⟨ns, e1, e2⟩ := Option.bind_eq_some_iff.mp q
      obtain ⟨us, e3, e4⟩ := Option.bind_eq_some_iff.mp e1
      obtain ⟨p, zs, rfl, hs, rp⟩ := listV_rep s rv e3
      have e5 := allI_rep rp e4
      subst e5
      cases ns with
      | nil => cases e2
      | cons n ns =>
        cases e2
        obtain ⟨m1, m2⟩ := max_fold ns n
        refine ⟨_, cr_max (hc rfl), p, n :: ns, rfl, by rw [ok.K]; exact hs, Nat.succ_pos _, fun y hy hle => ?_⟩
        have e : y = ns.foldl max n := by
          have := m2 y hy
          have := hle _ m1
          omega
        rw [e]
        exact post_t h s (.int _)
  · exact no h
theorem SlR.any (X : Cx) : SlR X (fun x lo hi H Q => ∃ r : V → Option Int → Option Int → Hp → VK → Prop, SlR X r ∧ r x lo hi H Q) := fun pins s σ H x v vl vu lo hi sl Q I rx hs pl pu ⟨_, h, q⟩ => h pins s σ H x v vl vu lo hi sl Q I rx hs pl pu q
theorem Paired.drop' {α β : Type} {P : α → β → Prop} : ∀ {xs : List α} {ys : List β} (n : Nat), Paired P xs ys → Paired P (xs.drop n) (ys.drop n)
  | _, _, 0, h => h
  | _, _, n + 1, .nil => .nil
  | _, _, n + 1, .cons _ t => Paired.drop' n t
theorem Paired.take' {α β : Type} {P : α → β → Prop} : ∀ {xs : List α} {ys : List β} (n : Nat), Paired P xs ys → Paired P (xs.take n) (ys.take n)
  | _, _, 0, h => by
    rw [List.take_zero, List.take_zero]
    exact .nil
  | _, _, n + 1, .nil => .nil
  | _, _, n + 1, .cons r t => .cons r (Paired.take' n t)
theorem Paired.app' {α β : Type} {P : α → β → Prop} {us : List α} {ws : List β} (q : Paired P us ws) : ∀ {xs : List α} {ys : List β}, Paired P xs ys → Paired P (xs ++ us) (ys ++ ws)
  | _, _, .nil => q
  | _, _, .cons r t => .cons r (Paired.app' q t)
theorem Paired.rev' {α β : Type} {P : α → β → Prop} : ∀ {xs : List α} {ys : List β}, Paired P xs ys → Paired P xs.reverse ys.reverse
  | _, _, .nil => .nil
  | _, _, .cons r t => by
    rw [List.reverse_cons, List.reverse_cons]
    exact Paired.app' (.cons r .nil) (Paired.rev' t)
theorem RepL.drop' {F : Hp} : ∀ {xs : List T} {vs : List V} (n : Nat), RepL G F vs xs → RepL G F (vs.drop n) (xs.drop n)
  | _, _, 0, h => h
  | [], _, n + 1, h => by cases h; exact .nil
  | x :: xs, _, n + 1, h => by
    cases h with
    | cons _ t => exact RepL.drop' n t
theorem RepL.take' {F : Hp} : ∀ {xs : List T} {vs : List V} (n : Nat), RepL G F vs xs → RepL G F (vs.take n) (xs.take n)
  | _, _, 0, h => by
    rw [List.take_zero, List.take_zero]
    exact .nil
  | [], _, n + 1, h => by cases h; exact .nil
  | x :: xs, _, n + 1, h => by
    cases h with
    | cons r t => exact .cons r (RepL.take' n t)
theorem cut_pair {vs : List V} {ws : List Val} (r : Paired (RepV G W) vs ws) (lo hi : Option Int) : Paired (RepV G W) (cutV vs lo hi) (cutL ws lo hi) := by
  unfold cutV cutL
  rw [Paired.length r]
  exact Paired.take' _ (Paired.drop' _ r)
theorem cut_repL {F : Hp} {vs : List V} {ws : List T} (r : RepL G F vs ws) (lo hi : Option Int) : RepL G F (cutV vs lo hi) (cutL ws lo hi) := by
  unfold cutV cutL
  rw [r.length]
  exact RepL.take' _ (RepL.drop' _ r)
theorem slc_any (ok : XOk G C X Wx k call) {m : Bool} {lo hi : Option Int} (h : PostV G Wx σ W (slcV m a lo hi S) Q) (s : Sim G W S H) (rx : RepV G W x a) : ∃ r : V → Option Int → Option Int → Hp → VK → Prop, SlR X r ∧ r x lo hi H Q := by
  have no : ∀ {P : Prop}, PostV G Wx σ W .bad Q → P := fun z => (show False from z).elim
  unfold slcV at h
  split at h
  · cases rx with
    | @tup ad vs xs hF rl =>
      refine ⟨_, sl_tupA, _, vs, rfl, by rw [ok.K]; exact sameT s.fz hF, fun z => ?_, fun _ => new_tup h s (cut_repL rl lo hi)⟩
      have e : ∀ xs : List T, vs.length = xs.length → cutL xs lo hi = xs := fun xs hl => by
        unfold cutL
        rw [← hl, z.1, z.2, List.drop_zero, Nat.sub_zero, hl, List.take_length]
      rw [e _ rl.length] at h
      exact post_t h s (.tup hF rl)
  · cases rx
    split at h
    · rename_i hz
      exact ⟨_, C8.sl_txt, _, rfl, hz, post_t h s (.str _)⟩
    · exact no h
  · rename_i q
    obtain ⟨p, us, rfl, hs, rp⟩ := listV_rep s rx q
    obtain ⟨h1, h2⟩ := alloc_post h s (cut_pair rp lo hi)
    exact ⟨_, sl_list, p, us, rfl, by rw [ok.K]; exact hs, h2⟩
  · exact no h
theorem rev_post (ok : XOk G C X Wx k call) {m : Bool} (h : PostV G Wx σ W (revV m a S) Q) (s : Sim G W S H) (rx : RepV G W x a) : ∃ a xs, x = .ref a ∧ SqL X.K H a xs ∧ ∀ p, H p = none → Q (.ref p) (upd H p (.lst xs.reverse)) := by
  unfold revV at h
  split at h
  · rename_i q
    obtain ⟨p, us, rfl, hs, rp⟩ := listV_rep s rx q
    obtain ⟨h1, h2⟩ := alloc_post h s (Paired.rev' rp)
    exact ⟨p, us, rfl, by rw [ok.K]; exact hs, h2⟩
  · exact (show False from h).elim
theorem MtR.any (X : Cx) (id : String) : MtR X id (fun x vs H Q => ∃ r : V → List V → Hp → VK → Prop, MtR X id r ∧ r x vs H Q) := fun pins s σ H x xs v us Q I rx rs ⟨_, h, q⟩ => h pins s σ H x xs v us Q I rx rs q
def bmId : BM → String
  | .append => "list.append" | .pop => "list.pop" | .popi => "list.pop" | .insert => "list.insert" | .extend => "list.extend" | .index => "list.index" | .count => "list.count"
theorem ix_seq_eq {n : Nat} {i : Int} {j : Nat} (h : ix n i = some j) : -(n : Int) ≤ i ∧ i < n ∧ seqIndex? i n = some j := by
  obtain ⟨h1, h2, h3, h4⟩ := ixN_seq (n := n) (i := i) (j := j) h
  exact ⟨by omega, by omega, h1⟩
theorem cell_lst {n : Nat} {ws : List Val} (s : Sim G W S H) (q : S[n]? = some (.lst ws)) : ∃ vs, H (W.at_ n) = some (.lst vs) ∧ Paired (RepV G W) vs ws := by
  obtain ⟨_, _, o, ho, ok⟩ := s.live n _ q (by intro z; cases z)
  cases ok with
  | lst hp => exact ⟨_, ho, hp⟩
theorem Paired.dropLast' {α β : Type} {P : α → β → Prop} {xs : List α} {ys : List β} (h : Paired P xs ys) : Paired P xs.dropLast ys.dropLast := by
  rw [List.dropLast_eq_take, List.dropLast_eq_take, Paired.length h]
  exact Paired.take' _ h
theorem Paired.erase' {α β : Type} {P : α → β → Prop} : ∀ {xs : List α} {ys : List β} (n : Nat), Paired P xs ys → Paired P (xs.eraseIdx n) (ys.eraseIdx n)
  | _, _, _, .nil => .nil
  | _, _, 0, .cons _ t => t
  | _, _, n + 1, .cons r t => .cons r (Paired.erase' n t)
theorem Paired.set' {α β : Type} {P : α → β → Prop} {x : α} {y : β} (q : P x y) : ∀ {xs : List α} {ys : List β} (n : Nat), Paired P xs ys → Paired P (xs.set n x) (ys.set n y)
  | _, _, _, .nil => .nil
  | _, _, 0, .cons _ t => .cons q t
  | _, _, n + 1, .cons r t => .cons r (Paired.set' q n t)
theorem fl_rep {F : Hp} {v w : V} {t u : T} (ht : flatU t = true) (hu : flatU u = true) (rv : Rep G F v t) (rw' : Rep G F w u) : flatV v = true ∧ flatV w = true ∧ eqV v w = flU t u := by
  cases rv <;> first | exact absurd ht Bool.false_ne_true | skip
  all_goals
    cases rw' <;> first | exact absurd hu Bool.false_ne_true | exact ⟨rfl, rfl, rfl⟩
theorem flats_rep {F : Hp} {xs : List T} {vs : List V} (h : ∀ t ∈ xs, flatU t = true) (r : RepL G F vs xs) : vs.all flatV = true := by
  rw [List.all_eq_true]
  intro v hv
  obtain ⟨i, hi, rfl⟩ := List.mem_iff_getElem.mp hv
  have hl : vs.length = xs.length := r.length
  obtain ⟨v', e1, e2⟩ := r.get (List.getElem?_eq_getElem (show i < xs.length by omega))
  rw [List.getElem?_eq_getElem hi] at e1
  have e1 := Option.some.inj e1
  rw [e1]
  exact (fl_rep (h _ (List.getElem_mem (show i < xs.length by omega))) (h _ (List.getElem_mem (show i < xs.length by omega))) e2 e2).1
theorem idx_rep {F : Hp} {xs : List T} {y : T} {vs : List V} {w : V} {j : Nat} (h : idxT xs y = some j) (r : RepL G F vs xs) (ry : Rep G F w y) : flatV w = true ∧ vs.all flatV = true ∧ ∃ z, vs[j]? = some z ∧ eqV z w = true ∧ ∀ (m : Nat) (z' : V), m < j → vs[m]? = some z' → eqV z' w = false := by
  unfold idxT at h
  split at h
  · rename_i c
    obtain ⟨c1, c2⟩ := ba c
    obtain ⟨hj, h1, h2⟩ := List.findIdx?_eq_some_iff_getElem.mp h
    have flat : ∀ t ∈ xs, flatU t = true := fun t ht => List.all_eq_true.mp c1 t ht
    have hz := r.get (List.getElem?_eq_getElem hj)
    obtain ⟨z, hz1, hz2⟩ := hz
    obtain ⟨f1, f2, f3⟩ := fl_rep (flat _ (List.getElem_mem hj)) c2 hz2 ry
    refine ⟨f2, flats_rep flat r, z, hz1, by rw [f3]; exact h1, fun m z' hm hz' => ?_⟩
    have hm2 : m < xs.length := by omega
    obtain ⟨v', e1, e2⟩ := r.get (List.getElem?_eq_getElem hm2)
    rw [hz'] at e1
    cases Option.some.inj e1
    rw [(fl_rep (flat _ (List.getElem_mem hm2)) c2 e2 ry).2.2]
    have := h2 m hm
    simpa using this
  · cases h
theorem cnt_reps {F : Hp} {y : T} {w : V} (hy : flatU y = true) (ry : Rep G F w y) : ∀ {xs : List T} {vs : List V}, (∀ t ∈ xs, flatU t = true) → RepL G F vs xs → vs.countP (fun v => eqV v w) = xs.countP fun x => flU x y
  | [], [], _, _ => rfl
  | x :: xs, v :: vs, h, .cons r rr => by
    rw [List.countP_cons, List.countP_cons, cnt_reps hy ry (fun t ht => h t (List.mem_cons_of_mem _ ht)) rr, (fl_rep (h x List.mem_cons_self) hy r ry).2.2]
def rCntF (K : PySem.W.Frag) : V → List V → Hp → VK → Prop := fun x xs H Q => ∃ (a : Addr) (ys : List V) (y : V), x = V.ref a ∧ xs = [y] ∧ SqL K H a ys ∧ flatV y = true ∧ ys.all flatV = true ∧ Q (.int (ys.countP fun v => eqV v y : Nat)) H
theorem cnt_eqU {y : V} : ∀ {ys : List V} {us : List Value}, Vals ys us → ys.all flatV = true → us.countP (eqU y) = ys.countP fun v => eqV v y
  | [], _, .nil, _ => rfl
  | v :: ys, _, .cons r rr, h => by
    rw [List.all_cons, Bool.and_eq_true] at h
    rw [List.countP_cons, List.countP_cons, cnt_eqU rr h.2, eqU_of r h.1]
theorem mt_countF {X : Cx} : MtR X "list.count" (rCntF X.K) := by
  intro pins s σ H x xs v us Q I rx rxs h
  obtain ⟨a, ys, y, rfl, rfl, hs, fy, fys, q⟩ := h
  cases rx
  cases rxs with
  | cons ry rt =>
    rename_i uy ut
    cases rt
    obtain ⟨its, rv, ⟨⟨cls, dd, data, sl⟩, n, ho, hc, hdn, hd⟩, hlen⟩ := I.list hs
    simp only at hc hd
    subst hc hd
    refine call_meets PySem.F.slot_list_count ⟨_, ho, rfl⟩ PySem.F.entry_list_count (PySem.F.args_list_count_2 _ _)
      (SeqAt.list_countAt a its.toArray n dd sl uy (eqU y)) ⟨ho, fun u' hu' => mem_eqAt ry fy rv fys u' (by simpa using hu'), ?_⟩
    have ec : its.toArray.toList.countP (eqU y) = ys.countP fun v => eqV v y := cnt_eqU rv fys
    refine ⟨.int (ys.countP fun v => eqV v y : Nat), H, I.tok _, ⟨s.toks, ?_⟩, q⟩
    show Value.int ((its.toArray.toList.countP (eqU y) : Nat) : Int) s.toks = Value.int ((ys.countP fun v => eqV v y : Nat) : Int) s.toks
    rw [ec]
theorem bm_any {b : BM} {ws : List Val} {vs : List V} (h : PostV G Wx σ W (bmV b a ws S) Q) (s : Sim G W S H) (rx : RepV G W x a) (r : Paired (RepV G W) vs ws) : ∃ q : V → List V → Hp → VK → Prop, MtR X (bmId b) q ∧ q x vs H Q := by
  have no : ∀ {P : Prop}, PostV G Wx σ W .bad Q → P := fun z => (show False from z).elim
  unfold bmV at h
  split at h
  · rename_i n
    obtain ⟨hn, ex⟩ := rx
    subst ex
    split at h
    · rename_i us hc
      obtain ⟨zs, ho, hp⟩ := cell_lst s hc
      have hd : Cell.lst us ≠ Cell.dead := fun z => nomatch z
      split at h
      · rename_i v
        obtain ⟨y, rfl, ry⟩ := one_arg r
        split at h
        · rename_i c
          refine ⟨_, mt_append, _, zs, y, rfl, rfl, ho, by rw [Paired.length hp]; exact c, ?_⟩
          exact h W .non _ (.refl W) (s.setC hc hd (.lst (Paired.app' (.cons ry .nil) hp))) .non
        · exact no h
      · rename_i ys
        obtain ⟨y, rfl, ry⟩ := one_arg r
        cases ry with
        | @lst ad us2 _ hF rl =>
          split at h
          · rename_i c
            have hB := s.fz _ _ hF
            have hp2 : Paired (RepV G W) us2 (ys.map .t) := vals_repL (vs := []) rl
            refine ⟨_, mt_extend, _, ad, zs, us2, rfl, rfl, ho, hB, by rw [Paired.length hp, Paired.length hp2, List.length_map]; exact c, ?_⟩
            exact h W .non _ (.refl W) (s.setC hc hd (.lst (Paired.app' hp2 hp))) .non
          · exact no h
      · rename_i i v
        obtain ⟨x1, y, rfl, r1, ry⟩ := two_args r
        cases r1
        split at h
        · rename_i c
          obtain ⟨c1, c2, c3⟩ := c
          refine ⟨_, mt_insert, _, zs, i, y, rfl, rfl, ho, by rw [Paired.length hp]; exact c1, c2, by omega, ?_⟩
          exact h W .non _ (.refl W) (s.setC hc hd (.lst (Paired.app' (Paired.drop' i.toNat hp) (Paired.app' (.cons ry .nil) (Paired.take' i.toNat hp))))) .non
        · exact no h
      · cases r
        split at h
        · rename_i v hv
          obtain ⟨y, h1, h2⟩ := Paired.get hp hv
          refine ⟨_, mt_pop, _, zs, y, rfl, rfl, ho, by rw [Paired.length hp]; exact h1, ?_⟩
          exact h W y _ (.refl W) (s.setC hc hd (.lst (Paired.dropLast' hp))) h2
        · exact no h
      · rename_i i
        obtain ⟨y, rfl, ry⟩ := one_arg r
        cases ry
        split at h
        · rename_i big
          split at h
          · rename_i k hk
            split at h
            · rename_i v hv
              obtain ⟨y, h1, h2⟩ := Paired.get hp hv
              obtain ⟨b1, b2, b3⟩ := ix_seq_eq hk
              have e : szLine = 16777216 := rfl
              refine ⟨_, mt_popAt, _, zs, i, k, y, rfl, rfl, ho, by omega, by omega, by rw [Paired.length hp]; exact b3, h1, ?_⟩
              exact h W y _ (.refl W) (s.setC hc hd (.lst (Paired.erase' k hp))) h2
            · exact no h
          · exact no h
        · exact no h
      · rename_i y
        obtain ⟨w, rfl, rw'⟩ := one_arg r
        split at h
        · rename_i j hj
          obtain ⟨xs, ha, hj⟩ := Option.bind_eq_some_iff.mp hj
          have rl := allT_rep hp ha
          obtain ⟨g1, g2, z, g3, g4, g5⟩ := idx_rep hj rl rw'
          exact ⟨_, mt_index, _, _, w, j, z, rfl, rfl, SqL.of ho, g1, g2, g3, g4, g5, h W (.int (j : Nat)) _ (.refl W) s (.int _)⟩
        · exact no h
      · rename_i y
        obtain ⟨w, rfl, rw'⟩ := one_arg r
        split at h
        · rename_i j hj
          obtain ⟨xs, ha, hj⟩ := Option.bind_eq_some_iff.mp hj
          have rl := allT_rep hp ha
          unfold cntT at hj
          split at hj
          · rename_i c
            obtain ⟨c1, c2⟩ := ba c
            cases hj
            have flat : ∀ t ∈ xs, flatU t = true := fun t ht => List.all_eq_true.mp c1 t ht
            refine ⟨_, mt_countF, _, _, w, rfl, rfl, SqL.of ho, (fl_rep c2 c2 rw' rw').1, flats_rep flat rl, ?_⟩
            rw [cnt_reps c2 rw' flat rl]
            exact h W (.int _) _ (.refl W) s (.int _)
          · cases hj
        · exact no h
      · exact no h
    · exact no h
  · split at h
    · rename_i y
      obtain ⟨w, rfl, rw'⟩ := one_arg r
      split at h
      · rename_i j hj
        cases rx with
        | lst hF rl =>
          obtain ⟨g1, g2, z, g3, g4, g5⟩ := idx_rep hj rl rw'
          exact ⟨_, mt_index, _, _, w, j, z, rfl, rfl, SqL.of (s.fz _ _ hF), g1, g2, g3, g4, g5, h W (.int (j : Nat)) _ (.refl W) s (.int _)⟩
      · exact no h
    · rename_i y
      obtain ⟨w, rfl, rw'⟩ := one_arg r
      split at h
      · rename_i j hj
        cases rx with
        | lst hF rl =>
          unfold cntT at hj
          split at hj
          · rename_i c
            obtain ⟨c1, c2⟩ := ba c
            cases hj
            have flat : ∀ t ∈ _, flatU t = true := fun t ht => List.all_eq_true.mp c1 t ht
            refine ⟨_, mt_countF, _, _, w, rfl, rfl, SqL.of (s.fz _ _ hF), (fl_rep c2 c2 rw' rw').1, flats_rep flat rl, ?_⟩
            rw [cnt_reps c2 rw' flat rl]
            exact h W (.int _) _ (.refl W) s (.int _)
          · cases hj
      · exact no h
    · exact no h
  · exact no h
theorem bm_rule (b : BM) : ∃ slot : Slot "list" (bmN b) (bmId b), typeOf (.builtin (bmId b)) = pure (.type "method_descriptor") := by
  cases b with
  | append => exact ⟨PySem.F.slot_list_append, PySem.F.type_list_append⟩
  | pop => exact ⟨PySem.F.slot_list_pop, PySem.F.type_list_pop⟩
  | popi => exact ⟨PySem.F.slot_list_pop, PySem.F.type_list_pop⟩
  | insert => exact ⟨PySem.F.slot_list_insert, PySem.F.type_list_insert⟩
  | extend => exact ⟨PySem.F.slot_list_extend, PySem.F.type_list_extend⟩
  | index => exact ⟨PySem.F.slot_list_index, PySem.F.type_list_index⟩
  | count => exact ⟨PySem.F.slot_list_count, PySem.F.type_list_count⟩
theorem few_ok {env : PySem.Env} {es : List Expr} {cp : Pos} (hs : noStar es = true) (hl : es.length < 30) : ((backTo cp (starEach es env)).all (fun x => !x.1) && (backToKw cp (keywordEach [] env)).all (fun x => x.1.isSome)
      && decide (es.length + ([] : List Keyword).length + (if ([] : List Keyword).isEmpty then 0 else 1) < 30)) = true := by
  have h1 := star_any (env := env) (pos := cp) hs
  have h2 : (backTo cp (starEach es env)).all (fun x => !x.1) = true := by
    rw [List.all_eq_true]
    intro y hy
    have := List.any_eq_false.mp h1 y hy
    cases q : y.1 with
    | false => rfl
    | true => exact absurd q this
  rw [h2]
  show (true && true && decide (es.length + 0 + 0 < 30)) = true
  rw [decide_eq_true (by omega)]
  rfl
theorem abase {o : Expr} {m : Str} {env : PySem.Env} {wh : Sem Value} (h : isSup o = false) : attributeBase o m env wh = wh := by
  cases o with
  | Call f as kw p =>
    cases f with
    | Name x q =>
      cases as with
      | nil =>
        cases kw with
        | nil =>
          have h : decide (x = ("super" : Str)) = false := h
          refine abase_call ?_
          rw [bne, Bool.not_eq_true']
          exact beq_eq_false_iff_ne.mpr (of_decide_eq_false h)
        | cons _ _ => rfl
      | cons _ _ => rfl
    | _ => rfl
  | _ => rfl
abbrev FR (G : Gd) (W : Wd) : (Str × V) → (Nat × Val) → Prop := fun p q => q.1 < G.nAt ∧ p.1 = G.nm.atN q.1 ∧ RepV G W p.2 q.2
theorem repF_pair : ∀ {gs : List (Str × V)} {fs : List (Nat × T)}, RepF G W.F gs fs → Paired (FR G W) gs (fs.map fun p => (p.1, Val.t p.2))
  | _, [], r => by cases r; exact .nil
  | _, (f, x) :: fs, r => by
    cases r with
    | cons hf h r => exact .cons ⟨hf, rfl, h⟩ (repF_pair r)
theorem look_map (f : Nat) : ∀ fs : List (Nat × T), (fs.map fun (p : Nat × T) => (p.1, Val.t p.2)).lookup f = (fs.lookup f).map .t
  | [] => rfl
  | (g, x) :: fs => by
    show (match f == g with
      | true => some (Val.t x)
      | false => (fs.map fun (p : Nat × T) => (p.1, Val.t p.2)).lookup f) = (match f == g with
      | true => some x
      | false => fs.lookup f).map .t
    cases f == g with
    | true => rfl
    | false => exact look_map f fs
theorem look_rep (okf : ∀ f g, f < G.nAt → g < G.nAt → G.nm.atN f = G.nm.atN g → f = g) {f : Nat} (hf : f < G.nAt) : ∀ {gs : List (Str × V)} {fs : List (Nat × Val)}, Paired (FR G W) gs fs →
    (∀ w, fs.lookup f = some w → ∃ x, gs.lookup (G.nm.atN f) = some x ∧ RepV G W x w) ∧ (fs.lookup f = none → gs.lookup (G.nm.atN f) = none)
  | _, _, .nil => ⟨fun w e => (nomatch e), fun _ => rfl⟩
  | (y, x) :: gs, (g, w) :: fs, .cons ⟨h1, h2, h3⟩ t => by
    have h2 : y = G.nm.atN g := h2
    subst h2
    by_cases z : f = g
    · subst z
      have e1 : ((f, w) :: fs).lookup f = some w := by simp [List.lookup]
      have e2 : ((G.nm.atN f, x) :: gs).lookup (G.nm.atN f) = some x := by simp [List.lookup]
      refine ⟨fun u e => ⟨x, e2, ?_⟩, fun e => ?_⟩
      · rw [e1] at e
        cases e
        exact h3
      · rw [e1] at e
        cases e
    · have e1 : ((g, w) :: fs).lookup f = fs.lookup f := by
        have : (f == g) = false := beq_eq_false_iff_ne.mpr z
        simp [List.lookup, this]
      have e2 : ((G.nm.atN g, x) :: gs).lookup (G.nm.atN f) = gs.lookup (G.nm.atN f) := by
        have : (G.nm.atN f == G.nm.atN g) = false := beq_eq_false_iff_ne.mpr fun q => z (okf f g hf h1 q)
        simp only [List.lookup, this]
      rw [e1, e2]
      exact look_rep okf hf t
theorem put_rep (okf : ∀ f g, f < G.nAt → g < G.nAt → G.nm.atN f = G.nm.atN g → f = g) {f : Nat} (hf : f < G.nAt) {y : V} {v : Val} (r : RepV G W y v) : ∀ {gs : List (Str × V)} {fs : List (Nat × Val)}, Paired (FR G W) gs fs → Paired (FR G W) (putF (G.nm.atN f) y gs) (putN f v fs)
  | _, _, .nil => .cons ⟨hf, rfl, r⟩ .nil
  | (n, x) :: gs, (g, w) :: fs, .cons ⟨h1, h2, h3⟩ t => by
    have h2 : n = G.nm.atN g := h2
    subst h2
    show Paired (FR G W) (if G.nm.atN g = G.nm.atN f then (G.nm.atN g, y) :: gs else (G.nm.atN g, x) :: putF (G.nm.atN f) y gs) (if g = f then (g, v) :: fs else (g, w) :: putN f v fs)
    by_cases z : g = f
    · subst z
      rw [if_pos rfl, if_pos rfl]
      exact .cons ⟨h1, rfl, r⟩ t
    · rw [if_neg z, if_neg fun q => z (okf g f h1 hf q)]
      exact .cons ⟨h1, rfl, h3⟩ (put_rep okf hf r t)
theorem fld_in {tab : Tab} {c f : Nat} (h : fldB tab c f = true) : ∃ cl, tab.cl c = some cl ∧ f ∈ cl.flds := by
  unfold fldB at h
  cases q : tab.cl c with
  | none => rw [q] at h; cases h
  | some cl => rw [q] at h; exact ⟨cl, rfl, by simpa using h⟩
theorem ins_at {c : Nat} {fs : List (Nat × Val)} (s : Sim G W S H) (rx : RepV G W x a) (h : (∃ ts, a = .t (.ins c ts) ∧ fs = ts.map fun (p : Nat × T) => (p.1, Val.t p.2)) ∨ ∃ n, a = .r n ∧ S[n]? = some (.ins c fs)) :
    ∃ ad dx gs, x = .ref ad ∧ H ad = some (.ins (G.cA c) dx gs) ∧ Paired (FR G W) gs fs := by
  rcases h with ⟨ts, rfl, rfl⟩ | ⟨n, rfl, q⟩
  · cases rx with
    | ins hF r => exact ⟨_, _, _, rfl, s.fz _ _ hF, repF_pair r⟩
  · obtain ⟨hn, ex⟩ := rx
    subst ex
    obtain ⟨_, _, o, ho, ok⟩ := s.live n _ q (by intro z; cases z)
    cases ok with
    | ins hp => exact ⟨_, _, _, rfl, ho, hp⟩
theorem fldV_some {tab : Tab} {f : Nat} {S2 : Store} {v : Val} (h : fldV tab a f S = .ok v S2) : S2 = S ∧ ∃ c fs, ((∃ ts, a = .t (.ins c ts) ∧ fs = ts.map fun (p : Nat × T) => (p.1, Val.t p.2)) ∨ ∃ n, a = .r n ∧ S[n]? = some (.ins c fs)) ∧ fldB tab c f = true ∧ fs.lookup f = some v := by
  unfold fldV at h
  split at h
  · rename_i c ts
    split at h
    · rename_i b
      cases q : ts.lookup f with
      | none => rw [q] at h; cases h
      | some t =>
        rw [q] at h
        cases h
        exact ⟨rfl, c, _, .inl ⟨ts, rfl, rfl⟩, b, by rw [look_map, q]; rfl⟩
    · cases h
  · rename_i n
    split at h
    · rename_i c fs hc
      split at h
      · rename_i b
        cases q : fs.lookup f with
        | none => rw [q] at h; cases h
        | some t =>
          rw [q] at h
          cases h
          exact ⟨rfl, c, fs, .inr ⟨n, rfl, hc⟩, b, q⟩
      · cases h
    · cases h
  · cases h
theorem fldV_no {tab : Tab} {f : Nat} : (∃ v, fldV tab a f S = .ok v S) ∨ fldV tab a f S = .bad := by
  unfold fldV
  split
  · rename_i c ts
    split
    · cases ts.lookup f with
      | none => exact .inr rfl
      | some t => exact .inl ⟨_, rfl⟩
    · exact .inr rfl
  · split
    · rename_i c fs hc
      split
      · cases fs.lookup f with
        | none => exact .inr rfl
        | some t => exact .inl ⟨_, rfl⟩
      · exact .inr rfl
    · exact .inr rfl
  · exact .inr rfl
theorem fld_any (ok : XOk G C X Wx k call) {f : Nat} {v : Val} (h : fldV G.tab a f S = .ok v S) (s : Sim G W S H) (rx : RepV G W x a) :
    ∃ ad c dx gs y, x = .ref ad ∧ H ad = some (.ins (G.cA c) dx gs) ∧ Cls X.K (G.cA c) ∧ NoAttr X.K (G.cA c) (G.nm.atN f) ∧ gs.lookup (G.nm.atN f) = some y ∧ RepV G W y v ∧ insC a S = some c := by
  obtain ⟨_, c, fs, h1, h2, h3⟩ := fldV_some h
  obtain ⟨ad, dx, gs, e1, e2, e3⟩ := ins_at s rx h1
  obtain ⟨cl, e4, e5⟩ := fld_in h2
  have F := ok.cls c cl e4
  obtain ⟨n1, n2⟩ := F.na f e5
  obtain ⟨y, e6, e7⟩ := (look_rep ok.okf n1 e3).1 v h3
  refine ⟨ad, c, dx, gs, y, e1, e2, by rw [ok.K]; exact F.cls, by rw [ok.K]; exact n2, e6, e7, ?_⟩
  rcases h1 with ⟨ts, rfl, rfl⟩ | ⟨n, rfl, q⟩
  · rfl
  · unfold insC
    simp only [q]
theorem setFV_some {tab : Tab} {f : Nat} {S2 : Store} {v : Val} (h : setFV tab a f v S = some S2) : ∃ n c fs, a = .r n ∧ S[n]? = some (.ins c fs) ∧ fldB tab c f = true ∧ fs.length < 1000 ∧ S2 = S.set n (.ins c (putN f v fs)) := by
  unfold setFV at h
  split at h
  · rename_i n
    split at h
    · rename_i c fs hc
      split at h
      · rename_i b
        cases h
        exact ⟨n, c, fs, rfl, hc, (ba b).1, of_decide_eq_true (ba b).2, rfl⟩
      · cases h
    · cases h
  · cases h
theorem setF_any (ok : XOk G C X Wx k call) {f : Nat} {v : Val} {y : V} {S2 : Store} (h : setFV G.tab a f v S = some S2) (s : Sim G W S H) (rx : RepV G W x a) (ry : RepV G W y v) :
    ∃ ad c dx gs, x = .ref ad ∧ H ad = some (.ins (G.cA c) dx gs) ∧ Cls X.K (G.cA c) ∧ NoAttr X.K (G.cA c) (G.nm.atN f) ∧ gs.length < 1000 ∧ Sim G W S2 (upd H ad (.ins (G.cA c) dx (putF (G.nm.atN f) y gs))) ∧ insC a S = some c := by
  obtain ⟨n, c, fs, rfl, h1, h2, h3, rfl⟩ := setFV_some h
  obtain ⟨hn, ex⟩ := rx
  subst ex
  obtain ⟨_, _, o, ho, okc⟩ := s.live n _ h1 (by intro z; cases z)
  cases okc with
  | @ins dx _ gs _ hp =>
    obtain ⟨cl, e4, e5⟩ := fld_in h2
    have F := ok.cls c cl e4
    obtain ⟨n1, n2⟩ := F.na f e5
    refine ⟨_, c, dx, gs, rfl, ho, by rw [ok.K]; exact F.cls, by rw [ok.K]; exact n2, by rw [Paired.length hp]; exact h3, s.setC h1 (by intro z; cases z) (.ins (put_rep ok.okf n1 ry hp)), ?_⟩
    unfold insC
    simp only [h1]
theorem cell_dct {n : Nat} {kvs : List (Key × Val)} (s : Sim G W S H) (hc : S[n]? = some (.dct kvs)) : ∃ gs, H (W.at_ n) = some (.dK gs) ∧ Paired (DR G W) gs kvs := by
  obtain ⟨_, _, o, ho, ok⟩ := s.live n _ hc (by intro z; cases z)
  cases ok with
  | dct hp => exact ⟨_, ho, hp⟩
theorem line1000 : (1000 : Nat) < sizeLine := by rw [sizeLine_eq]; decide
theorem put_dct {n : Nat} {kvs : List (Key × Val)} {k : Key} {v : Val} {z : V} (s : Sim G W S H) (hc : S[n]? = some (.dct kvs)) (rz : RepV G W z v) (hl : kvs.length < 1000) :
    ∃ H2, DPut H (W.at_ n) (kV k) z H2 ∧ Sim G W (S.set n (.dct (putKV kvs k v))) H2 := by
  obtain ⟨gs, ho, hp⟩ := cell_dct s hc
  exact ⟨_, DPut.k ho (by rw [Paired.length hp]; exact Nat.lt_trans hl line1000), s.setC hc (by intro z; cases z) (.dct (putKV_rel hp k rz))⟩
theorem setS_any {b v : Val} {y z : V} {S2 : Store} (h : setSV a b v S = some S2) (s : Sim G W S H) (rx : RepV G W x a) (ry : RepV G W y b) (rz : RepV G W z v) (Q : Hp → Prop) (hq : ∀ H2, Sim G W S2 H2 → Q H2) :
    rSetL x y z H Q ∨ rSetD x y z H Q := by
  unfold setSV at h
  split at h
  · rename_i n k
    cases ry
    obtain ⟨hn, ex⟩ := rx
    subst ex
    split at h
    · rename_i ws hc
      obtain ⟨zs, ho, hp⟩ := cell_lst s hc
      obtain ⟨j, e1, e2⟩ := Option.map_eq_some_iff.mp h
      subst e2
      exact .inl ⟨_, zs, k, j, rfl, rfl, ho, by rw [Paired.length hp]; exact e1, hq _ (s.setC hc (by intro z; cases z) (.lst (Paired.set' rz j hp)))⟩
    · rename_i kvs hc
      split at h
      · rename_i c
        injection h with e
        subst e
        obtain ⟨H2, g1, g2⟩ := put_dct (k := .inl k) s hc rz c
        exact .inr ⟨_, H2, rfl, g1, hq _ g2⟩
      · cases h
    · cases h
  · rename_i n k
    cases ry
    obtain ⟨hn, ex⟩ := rx
    subst ex
    split at h
    · rename_i kvs hc
      split at h
      · rename_i c
        injection h with e
        subst e
        obtain ⟨H2, g1, g2⟩ := put_dct (k := .inr k) s hc rz c
        exact .inr ⟨_, H2, rfl, g1, hq _ g2⟩
      · cases h
    · cases h
  · cases h
theorem set_both {X : Cx} (hu : X.A.units + 1 < cLine) : PSet X (fun o i v H Q => rSetL o i v H Q ∨ rSetD o i v H Q) := by
  intro pins s σ H o i v ov iv u Q I ro ri rv h
  rcases h with h | h
  · exact set_list pins s σ H o i v ov iv u Q I ro ri rv h
  · exact set_dict hu pins s σ H o i v ov iv u Q I ro ri rv h
theorem allF_rep : ∀ {ws : List (Nat × Val)} {xs : List (Nat × T)} {vs : List (Str × V)}, Paired (FR G W) vs ws → allF ws = some xs → RepF G W.F vs xs
  | [], _, _, r, e => by
    cases r
    cases e
    exact .nil
  | (f, .t x) :: ws, _, _, r, e => by
    cases r with
    | @cons p q _ _ r rr =>
      have e1 : (allF ws).map ((f, x) :: ·) = some _ := e
      obtain ⟨ys, e2, e3⟩ := Option.map_eq_some_iff.mp e1
      subst e3
      obtain ⟨h1, h2, h3⟩ := r
      obtain ⟨n, v⟩ := p
      have h2 : n = G.nm.atN f := h2
      subst h2
      exact .cons h1 h3 (allF_rep rr e2)
  | (_, .r n) :: ws, _, _, _, e => by cases e
theorem toT_bury {n : Nat} {t : T} {S1 : Store} (s : Sim G W S H) (h : toT S (.r n) = some (t, S1)) : ∃ o, H (W.at_ n) = some o ∧ W.le (W.addF (W.at_ n) o) ∧ Sim G (W.addF (W.at_ n) o) S1 H ∧ Rep G (upd W.F (W.at_ n) o) (.ref (W.at_ n)) t ∧ W.B (W.at_ n) = none := by
  have h : (match S[n]? with
    | some (.lst vs) => (allT vs).map fun xs => (T.lst xs, S.set n .dead)
    | some (.ins c fs) => (allF fs).map fun xs => (T.ins c xs, S.set n .dead)
    | some (.dct kvs) => (allD kvs).map fun xs => (T.dct xs, S.set n .dead)
    | _ => none) = some (t, S1) := h
  cases q : S[n]? with
  | none => rw [q] at h; cases h
  | some c =>
    rw [q] at h
    cases c with
    | dead => cases h
    | dct ws =>
      obtain ⟨l1, l2, o, ho, okc⟩ := s.live n _ q (by intro z; cases z)
      obtain ⟨b1, b2⟩ := s.bury q (by intro z; cases z)
      obtain ⟨xs, e1, e2⟩ := Option.map_eq_some_iff.mp h
      cases e2
      cases okc with
      | @dct gs _ hp =>
        refine ⟨_, ho, le_seizeF l1 l2 _, b1.seizeF b2 ho, .dct upd_same (RepD.mono (same_upd l1) xs gs (allD_rep hp e1)), l2⟩
    | lst ws =>
      obtain ⟨l1, l2, o, ho, okc⟩ := s.live n _ q (by intro z; cases z)
      obtain ⟨b1, b2⟩ := s.bury q (by intro z; cases z)
      obtain ⟨xs, e1, e2⟩ := Option.map_eq_some_iff.mp h
      cases e2
      cases okc with
      | @lst vs _ hp =>
        refine ⟨_, ho, le_seizeF l1 l2 _, b1.seizeF b2 ho, .lst upd_same (RepL.mono (same_upd l1) xs vs (allT_rep hp e1)), l2⟩
    | ins c ws =>
      obtain ⟨l1, l2, o, ho, okc⟩ := s.live n _ q (by intro z; cases z)
      obtain ⟨b1, b2⟩ := s.bury q (by intro z; cases z)
      obtain ⟨xs, e1, e2⟩ := Option.map_eq_some_iff.mp h
      cases e2
      cases okc with
      | @ins dx _ gs _ hp =>
        refine ⟨_, ho, le_seizeF l1 l2 _, b1.seizeF b2 ho, .ins upd_same (RepF.mono (same_upd l1) xs gs (allF_rep hp e1)), l2⟩
theorem bury_rep : ∀ {ws : List Val} {vs : List V} {W : Wd} {S S1 : Store} {xs : List T}, Sim G W S H → Paired (RepV G W) vs ws → buryS ws S = some (xs, S1) → ∃ W1, W.le W1 ∧ Sim G W1 S1 H ∧ RepL G W1.F vs xs
  | [], _, W, S, S1, xs, s, .nil, e => by
    cases e
    exact ⟨W, Wd.le.refl W, s, .nil⟩
  | a :: ws, _, W, S, S1, xs, s, .cons r rr, e => by
    have e : (match toT S a with
      | some (x, S1) => (match buryS ws S1 with
        | some (xs, S2) => some (x :: xs, S2)
        | none => none)
      | none => none) = some (xs, S1) := e
    cases q : toT S a with
    | none => rw [q] at e; cases e
    | some p =>
      obtain ⟨x, S2⟩ := p
      rw [q] at e
      have e : (match buryS ws S2 with
        | some (xs, S2) => some (x :: xs, S2)
        | none => none) = some (xs, S1) := e
      cases q2 : buryS ws S2 with
      | none => rw [q2] at e; cases e
      | some p2 =>
        obtain ⟨ys, S3⟩ := p2
        rw [q2] at e
        cases e
        cases a with
        | t y =>
          cases q
          obtain ⟨W1, l1, s1, r1⟩ := bury_rep s rr q2
          exact ⟨W1, l1, s1, .cons (Rep.mono l1.f _ _ r) r1⟩
        | r n =>
          obtain ⟨o, ho, l, s1, rt, _⟩ := toT_bury s q
          obtain ⟨W1, l1, s2, r1⟩ := bury_rep s1 (RepVs.mono l rr) q2
          obtain ⟨_, rfl⟩ := r
          exact ⟨W1, l.trans l1, s2, .cons (Rep.mono l1.f _ _ rt) r1⟩
theorem tupV_post {ws : List Val} {vs : List V} (h : PostV G Wx σ W (if ws.length ≤ szLine then tupV ws S else .bad) Q) (s : Sim G W S H) (r : Paired (RepV G W) vs ws) : vs.length ≤ sizeLine ∧ ∀ p, H p = none → Q (.ref p) (upd H p (.tup vs)) := by
  unfold tupV at h
  cases q : (allT ws).isSome with
  | true =>
    rw [q, if_pos rfl] at h
    exact tup_post h s r
  | false =>
    rw [q, if_neg Bool.false_ne_true] at h
    by_cases c : ws.length ≤ szLine
    · rw [if_pos c] at h
      refine ⟨by rw [r.length]; exact c, fun p hp => ?_⟩
      cases e : buryS ws S with
      | none => rw [e] at h; exact (show False from h).elim
      | some p2 =>
        obtain ⟨xs, S1⟩ := p2
        rw [e] at h
        have h : PostV G Wx σ W (.ok (.t (.tup xs)) S1) Q := h
        obtain ⟨W1, l1, s1, r1⟩ := bury_rep s r e
        refine h (W1.addF p (.tup vs)) (.ref p) _ (l1.trans (Wd.le_addF s1 hp _)) (s1.addF hp _) ?_
        exact .tup (.inl (.inl upd_same)) (RepL.mono (Wd.le_addF s1 hp _).f xs vs r1)
    · rw [if_neg c] at h
      exact (show False from h).elim
theorem dispL_post {m : Bool} {ws : List Val} {vs : List V} (h : PostV G Wx σ W (dispL m ws S) Q) (s : Sim G W S H) (r : Paired (RepV G W) vs ws) : vs.length ≤ sizeLine ∧ ∀ p, H p = none → Q (.ref p) (upd H p (.lst vs)) := by
  unfold dispL at h
  cases q : (m || (allT ws).isSome) with
  | true =>
    rw [q, if_pos rfl] at h
    exact alloc_post h s r
  | false =>
    rw [q, if_neg Bool.false_ne_true] at h
    by_cases c : ws.length ≤ szLine
    · rw [if_pos c] at h
      refine ⟨by rw [r.length]; exact c, fun p hp => ?_⟩
      cases e : buryS ws S with
      | none => rw [e] at h; exact (show False from h).elim
      | some p2 =>
        obtain ⟨xs, S1⟩ := p2
        rw [e] at h
        have h : PostV G Wx σ W (.ok (.t (.lst xs)) S1) Q := h
        obtain ⟨W1, l1, s1, r1⟩ := bury_rep s r e
        refine h (W1.addF p (.lst vs)) (.ref p) _ (l1.trans (Wd.le_addF s1 hp _)) (s1.addF hp _) ?_
        exact .lst upd_same (RepL.mono (Wd.le_addF s1 hp _).f xs vs r1)
    · rw [if_neg c] at h
      exact (show False from h).elim
theorem fin_post {fr : Bool} {n : Nat} (h : PostV G Wx σ W (finV fr n S) Q) (s : Sim G W S H) (hn : n < W.n) : Q (.ref (W.at_ n)) H := by
  unfold finV at h
  cases fr with
  | false => exact Post.ok h s (show RepV G W _ (.r n) from ⟨hn, rfl⟩)
  | true =>
    have h : PostV G Wx σ W (match toT S (.r n) with
      | some (x, S1) => .ok (.t x) S1
      | none => .bad) Q := h
    cases q : toT S (.r n) with
    | none => rw [q] at h; exact (show False from h).elim
    | some p =>
      obtain ⟨t, S1⟩ := p
      rw [q] at h
      obtain ⟨o, ho, l, s1, r, _⟩ := toT_bury s q
      exact h _ _ H l s1 r
theorem ty_cls (G : Gd) (t : Ty) : ClsV (tyW G t) (tyC G t) := by
  cases t <;> first | exact .ty _ | exact .own _
theorem ty_rel (G : Gd) (t : Ty) : RelV (tyW G t) (tyC G t) := by
  cases t <;> rfl
theorem ty_free {t : Ty} (h : ∀ c, t ≠ .cls c) (nm : Nm) : tyN nm t ∈ ["len", "int", "str", "min", "max", "abs", "list", "tuple", "all", "any", "sum", "divmod", "sorted", "bool", "isinstance", "range", "enumerate", "zip", "dict", "set", "ValueError"].map Str.ofString := by
  cases t with
  | cls c => exact absurd rfl (h c)
  | int => show Str.ofString "int" ∈ _; decide +kernel
  | bool => show Str.ofString "bool" ∈ _; decide +kernel
  | str => show Str.ofString "str" ∈ _; decide +kernel
  | list => show Str.ofString "list" ∈ _; decide +kernel
  | tuple => show Str.ofString "tuple" ∈ _; decide +kernel
  | dict => show Str.ofString "dict" ∈ _; decide +kernel
theorem pe_ty (ok : XOk G C X Wx k call) {t : Ty} {pos : Pos} (hg : Gl X (tyN G.nm t)) (hc : isCl G.tab t = true) (n1 : tyN G.nm t ≠ "__name__") (n2 : (tyN G.nm t == ("__debug__" : Str)) = false) : PE X (.Name (tyN G.nm t) pos) (tC (tyW G t)) := by
  have bi : (∀ c, t ≠ .cls c) → bootBuiltins (tyN G.nm t) = some (tyC G t) → PE X (.Name (tyN G.nm t) pos) (tC (tyW G t)) := fun h hb =>
    pe_bltn hg (by rw [ok.mg]; exact ok.free _ (ty_free h G.nm)) hb (ty_rel G t) n1 n2
  cases t with
  | cls c =>
    cases q : G.tab.cl c with
    | none =>
      have z : (G.tab.cl c).isSome = true := hc
      rw [q] at z
      cases z
    | some cl => exact pe_glob hg (by rw [ok.mg]; exact (ok.cls c cl q).mg) rfl n2
  | int => exact bi (fun c z => nomatch z) (by show bootBuiltins (Str.ofString "int") = some (.type "int"); decide +kernel)
  | bool => exact bi (fun c z => nomatch z) (by show bootBuiltins (Str.ofString "bool") = some (.type "bool"); decide +kernel)
  | str => exact bi (fun c z => nomatch z) (by show bootBuiltins (Str.ofString "str") = some (.type "str"); decide +kernel)
  | list => exact bi (fun c z => nomatch z) (by show bootBuiltins (Str.ofString "list") = some (.type "list"); decide +kernel)
  | tuple => exact bi (fun c z => nomatch z) (by show bootBuiltins (Str.ofString "tuple") = some (.type "tuple"); decide +kernel)
  | dict => exact bi (fun c z => nomatch z) (by show bootBuiltins (Str.ofString "dict") = some (.type "dict"); decide +kernel)
def tyO (G : Gd) : T → Value
  | .non => .type "NoneType" | .bl _ => .type "bool" | .int _ => .type "int" | .str _ => .type "str" | .tup _ => .type "tuple" | .lst _ => .type "list" | .scr _ => .type "list" | .dct _ => .type "dict"
  | .ins c _ => .ref (G.cA c) | .fn _ => .none | .exn _ _ => .none | .exv _ _ => .none
theorem isi_one (ok : XOk G C X Wx k call) {t : Ty} {u : T} {b : Bool} (h : tyT G.tab t u = some b) : PySem.W.kitOne G.K (tyO G u) (tyC G t) = some b := by
  cases t with
  | cls d =>
    have h : (match G.tab.cl d with
      | none => none
      | some _ => clT G.tab d u) = some b := h
    cases q : G.tab.cl d with
    | none => rw [q] at h; cases h
    | some cd =>
      rw [q] at h
      have D := (ok.cls d cd q).isD
      cases u with
      | ins c fs =>
        have h : (G.tab.cl c).map (fun k => k.sup.contains d) = some b := h
        obtain ⟨cl, q2, e⟩ := Option.map_eq_some_iff.mp h
        rw [← e]
        exact (ok.cls c cl q2).isC d cd q
      | fn g => cases h
      | exn _ _ => cases h
      | exv _ _ => cases h
      | non => cases h; exact D _ (by simp)
      | bl _ => cases h; exact D _ (by simp)
      | int _ => cases h; exact D _ (by simp)
      | str _ => cases h; exact D _ (by simp)
      | tup _ => cases h; exact D _ (by simp)
      | lst _ => cases h; exact D _ (by simp)
      | scr _ => cases h; exact D _ (by simp)
      | dct _ => cases h; exact D _ (by simp)
  | _ =>
    cases u with
    | ins c fs =>
      have h : (G.tab.cl c).map (fun _ => false) = some b := h
      obtain ⟨cl, q2, e⟩ := Option.map_eq_some_iff.mp h
      rw [← e]
      exact (ok.cls c cl q2).isB _ (by simp)
    | fn g => cases h
    | exn _ _ => cases h
    | exv _ _ => cases h
    | _ => cases h; exact kit_ty (by decide +kernel)
theorem isi_many (ok : XOk G C X Wx k call) {u : T} : ∀ {ts : List Ty} {b : Bool}, anyTy G.tab u ts = some b → PySem.W.kitAny G.K (tyO G u) (ts.map (tyC G)) = some b
  | [], b, h => by cases h; rfl
  | t :: ts, b, h => by
    have h : (match tyT G.tab t u with
      | some true => some true
      | some false => anyTy G.tab u ts
      | none => none) = some b := h
    cases q : tyT G.tab t u with
    | none => rw [q] at h; cases h
    | some c =>
      rw [q] at h
      refine kitAny_cons (isi_one ok q) (fun z => ?_) (fun z => ?_)
      · subst z
        exact isi_many ok h
      · subst z
        cases h
        rfl
theorem paired_map {α γ δ : Type} {P : γ → δ → Prop} {f : α → γ} {g : α → δ} (h : ∀ a, P (f a) (g a)) : ∀ l : List α, Paired P (l.map f) (l.map g)
  | [] => .nil
  | a :: l => .cons (h a) (paired_map h l)
theorem tyx_of (ok : XOk G C X Wx k call) {u : T} {b : Bool} {ts : List Ty} (s : Sim G W S H) (rx : RepV G W x a) (h : shell S a = some u) (hne : ts ≠ []) (hb : anyTy G.tab u ts = some b) : TyX G.K H x (tyO G u) := by
  have insK : ∀ (c : Nat) (fs : List (Nat × T)), u = .ins c fs → ∃ cl, G.tab.cl c = some cl := fun c fs e => by
    subst e
    cases ts with
    | nil => exact absurd rfl hne
    | cons t ts =>
      have hb : (match tyT G.tab t (.ins c fs) with
        | some true => some true
        | some false => anyTy G.tab (.ins c fs) ts
        | none => none) = some b := hb
      cases q : G.tab.cl c with
      | some cl => exact ⟨cl, rfl⟩
      | none =>
        have z : tyT G.tab t (.ins c fs) = none := by
          cases t with
          | cls d =>
            show (match G.tab.cl d with
              | none => none
              | some _ => (G.tab.cl c).map fun k => k.sup.contains d) = none
            rw [q]
            cases G.tab.cl d <;> rfl
          | _ =>
            show (G.tab.cl c).map (fun _ => false) = none
            rw [q]
            rfl
        rw [z] at hb
        cases hb
  have insT : ∀ (c : Nat) (ad dx : Addr) (gs : List (Str × V)) (fs : List (Nat × T)), u = .ins c fs → H ad = some (.ins (G.cA c) dx gs) → TyX G.K H (.ref ad) (tyO G u) := fun c ad dx gs fs e hH => by
    obtain ⟨cl, q⟩ := insK c fs e
    have F := ok.cls c cl q
    subst e
    exact .base (.ins hH F.cls F.ha F.hn F.htk F.hm)
  cases a with
  | t t =>
    cases h
    cases u with
    | exn _ _ => cases rx
    | non => cases rx; exact .base .non
    | bl _ => cases rx; exact .base (.bl _)
    | int _ => cases rx; exact .base (.int _)
    | str _ => cases rx; exact .base (.str _)
    | tup xs =>
      cases rx with
      | tup hF r =>
        rcases hF with (hF | ⟨o, hF⟩) | ⟨o, its, n, h1, h2, _⟩
        · exact .base (.tup (s.fz _ _ hF))
        · exact .fTuple (s.fz _ _ hF)
        · exact .kTuple h1 h2
    | lst xs =>
      cases rx with
      | lst hF r => exact .base (.lst (s.fz _ _ hF))
    | scr ns =>
      cases rx with
      | scr hF =>
        rcases hF with (hF | ⟨o, hF⟩) | ⟨o, its, n, h1, h2, _⟩
        · exact .base (.lst (s.fz _ _ hF))
        · exact .base (.frz (s.fz _ _ hF))
        · exact .kList h1 h2
    | dct fs =>
      cases rx with
      | dct hF r => exact .base (.dK (s.fz _ _ hF))
    | ins c fs =>
      cases rx with
      | ins hF r => exact insT c _ _ _ fs rfl (s.fz _ _ hF)
    | fn g =>
      cases ts with
      | nil => exact absurd rfl hne
      | cons t ts =>
        have hb : (match tyT G.tab t (.fn g) with
          | some true => some true
          | some false => anyTy G.tab (.fn g) ts
          | none => none) = some b := hb
        have z : tyT G.tab t (.fn g) = none := by
          cases t with
          | cls d =>
            show (match G.tab.cl d with
              | none => none
              | some _ => none) = none
            cases G.tab.cl d <;> rfl
          | _ => rfl
        rw [z] at hb
        cases hb
    | exv c0 fs0 =>
      cases ts with
      | nil => exact absurd rfl hne
      | cons t ts =>
        have hb : (match tyT G.tab t (.exv c0 fs0) with
          | some true => some true
          | some false => anyTy G.tab (.exv c0 fs0) ts
          | none => none) = some b := hb
        have z : tyT G.tab t (.exv c0 fs0) = none := by
          cases t with
          | cls d =>
            show (match G.tab.cl d with
              | none => none
              | some _ => none) = none
            cases G.tab.cl d <;> rfl
          | _ => rfl
        rw [z] at hb
        cases hb
  | r n =>
    obtain ⟨hn, ex⟩ := rx
    subst ex
    have h : (match S[n]? with
      | some (.lst _) => some (.lst [])
      | some (.ins c _) => some (.ins c [])
      | some (.dct _) => some (.dct [])
      | _ => none) = some u := h
    cases q : S[n]? with
    | none => rw [q] at h; cases h
    | some c =>
      rw [q] at h
      cases c with
      | dead => cases h
      | lst ws =>
        cases h
        obtain ⟨_, _, o, ho, ok2⟩ := s.live n _ q (by intro z; cases z)
        cases ok2
        exact .base (.lst ho)
      | ins c fs =>
        cases h
        obtain ⟨_, _, o, ho, ok2⟩ := s.live n _ q (by intro z; cases z)
        cases ok2
        exact insT c _ _ _ [] rfl ho
      | dct fs =>
        cases h
        obtain ⟨_, _, o, ho, ok2⟩ := s.live n _ q (by intro z; cases z)
        cases ok2
        exact .base (.dK ho)
theorem isi_1 (ok : XOk G C X Wx k call) {t : Ty} (h : PostV G Wx σ W (isiV G.tab [t] a S) Q) (s : Sim G W S H) (rx : RepV G W x a) : rIsi G.K [x, tyW G t] H Q := by
  unfold isiV at h
  cases q : shell S a with
  | none => rw [q] at h; exact (show False from h).elim
  | some u =>
    rw [q] at h
    have h : PostV G Wx σ W (ofT ((anyTy G.tab u [t]).map .bl) S) Q := h
    cases q2 : anyTy G.tab u [t] with
    | none => rw [q2] at h; exact (show False from h).elim
    | some b =>
      rw [q2] at h
      have q3 : tyT G.tab t u = some b := by
        have q2 : (match tyT G.tab t u with
          | some true => some true
          | some false => some false
          | none => none) = some b := q2
        cases z : tyT G.tab t u with
        | none => rw [z] at q2; cases q2
        | some c => rw [z] at q2; cases c <;> exact q2
      exact ⟨x, _, _, _, b, rfl, ty_cls G t, tyx_of ok s rx q (by simp) q2, isi_one ok q3, post_t h s (.bl b)⟩
theorem isi_t (ok : XOk G C X Wx k call) {ts : List Ty} {p : Addr} (hne : ts ≠ []) (h : PostV G Wx σ W (isiV G.tab ts a S) Q) (s : Sim G W S H) (rx : RepV G W x a) (hp : H p = some (.tup (ts.map (tyW G)))) : rIsiT G.K [x, .ref p] H Q := by
  unfold isiV at h
  cases q : shell S a with
  | none => rw [q] at h; exact (show False from h).elim
  | some u =>
    rw [q] at h
    have h : PostV G Wx σ W (ofT ((anyTy G.tab u ts).map .bl) S) Q := h
    cases q2 : anyTy G.tab u ts with
    | none => rw [q2] at h; exact (show False from h).elim
    | some b =>
      rw [q2] at h
      exact ⟨x, p, _, _, ts.map (tyC G), b, rfl, hp, paired_map (ty_cls G) ts, tyx_of ok s rx q hne q2, isi_many ok q2, post_t h s (.bl b)⟩
theorem dEs_len {tab : Tab} {call : Call} : ∀ {es : IEs} {env : Env} {S S1 : Store} {vs : List Val}, dEs tab call es env S = .ok vs S1 → vs.length = es.len
  | .nil, _, _, _, _, h => by cases h; rfl
  | .cons e es, env, S, S1, vs, h => by
    have h : ((dE tab call e env S).bind fun v S => (dEs tab call es env S).bind fun vs S => .ok (v :: vs) S) = .ok vs S1 := h
    cases q : dE tab call e env S with
    | ok v S2 =>
      rw [q] at h
      have h : ((dEs tab call es env S2).bind fun vs S => .ok (v :: vs) S) = .ok vs S1 := h
      cases q2 : dEs tab call es env S2 with
      | ok ws S3 =>
        rw [q2] at h
        cases h
        exact congrArg Nat.succ (dEs_len q2)
      | ex x S3 => rw [q2] at h; cases h
      | bad => rw [q2] at h; cases h
    | ex x S2 => rw [q] at h; cases h
    | bad => rw [q] at h; cases h
theorem chkEs_len {C : Ck} : ∀ {es : IEs} {xs : List Expr}, chkEs C es xs = true → xs.length = es.len
  | .nil, [], _ => rfl
  | .cons e es, x :: xs, h => congrArg Nat.succ (chkEs_len (ba h).2)
  | .nil, _ :: _, h => by cases h
  | .cons _ _, [], h => by cases h
theorem post_E {r : R Val} (h : PostV G Wx σ W r Q) : PostV G (fun c o _ H => WE Wx σ c o H) [] W r Q := by
  cases r with
  | ok v S => exact h
  | ex x S => exact h
  | bad => exact h
theorem pe_def (ok : XOk G C X Wx k call) (hc : C.calm = true) {f : Nat} {e : Expr} {es : List Expr} {p pos : Pos} {ies : IEs} (hg : Gl X (G.nm.fnN f)) (hgl : C.glF f = true) (har : arity C.tab f (e :: es).length = true) (ha : PA X (e :: es) (tEs G Wx call ies)) (hs : noStar (e :: es) = true)
    (hl : chkEs C ies (e :: es) = true) (n2 : (G.nm.fnN f == ("__debug__" : Str)) = false) :
    PE X (.Call (.Name (G.nm.fnN f) p) (e :: es) [] pos) (tE G Wx call (.call f ies)) := by
  refine ⟨fun pins s σ H Q I ⟨W, env, S, sm, er, h⟩ => ?_⟩
  have h : PostV G Wx σ W ((dEs G.tab call ies env S).bind fun vs S => call f vs S) Q := h
  unfold arity at har
  rw [ok.tab] at har
  cases hd : G.tab.fn f with
  | none => rw [hd] at har; cases har
  | some d =>
    rw [hd] at har
    obtain ⟨har, a0⟩ := ba har
    obtain ⟨a1, a2⟩ := ba har
    obtain ⟨run, hcall, ⟨fd, ps, F, B⟩⟩ := ok.fns hc f d hd (nb a0)
    obtain ⟨ds, dvs, hb, hv, hr⟩ := B _ (of_decide_eq_true a1) (of_decide_eq_true a2)
    obtain ⟨g1, g2⟩ := ok.gl f hgl
    have F' : FnOk X.prog X.w X.K X.mg X.base (L2.CX X.prog X.w) k (G.fA f) fd ps (spR G d.np run) := by
      rw [ok.prog, ok.w, ok.K, ok.mg]
      exact F
    refine (pe_callSD F' ((ok.room hc).mono (Nat.le_succ k)) hg (by rw [ok.mg]; exact g1) (by rw [ok.K]; exact g2) (by rw [ok.K]; exact hb) hv (E := WE Wx) (fun σ => passAt ok.tk σ) ha n2 (star_cons X.env (nb (ba hs).1)) (star_any (ba hs).2)).run pins s σ H Q I ?_
    refine Den.step h sm er fun vs S1 W1 xs H1 e1 l1 s1 n1 r1 p1 => ?_
    rw [hcall] at p1
    have hlen : vs.length = (e :: es).length := (dEs_len e1).trans (chkEs_len hl).symm
    rw [hlen] at p1
    have rr : Paired (RepV G W1) (xs ++ dvs) (vs ++ dflV d (e :: es).length) := by
      have app : ∀ {as : List V} {bs : List Val}, Paired (RepV G W1) as bs → Paired (RepV G W1) (as ++ dvs) (bs ++ dflV d (e :: es).length) := fun {as bs} h => by
        induction h with
        | nil => exact hr W1
        | cons r _ ih => exact .cons r ih
      exact app r1
    refine ⟨W1, S1, _, s1, rr, ?_, post_E p1⟩
    unfold dflV
    rw [List.length_append, hlen, List.length_map, List.length_drop]
    have := of_decide_eq_true a1
    have := of_decide_eq_true a2
    omega
theorem call_run (ok : XOk G C X Wx k call) (hc : C.calm = true) {f : Nat} {d : Fn} {ws : List Val} {vs : List V} {pins : List (Addr × Obj)} {st : Shared} {us : List Value} (hd : G.tab.fn f = some d) (har : arity G.tab f ws.length = true) (h : PostV G Wx σ W (call f ws S) Q) (s : Sim G W S H) (r : Paired (RepV G W) vs ws) (I : Inv X pins σ H st) (rv : Vals vs us) :
    wpAny (PySem.model X.prog X.w) X.A (PySem.call (.ref (G.fA f)) us) (EP X pins σ Q) X.xe st := by
  unfold arity at har
  rw [hd] at har
  obtain ⟨har, a0⟩ := ba har
  obtain ⟨a1, a2⟩ := ba har
  have a1 := of_decide_eq_true a1
  have a2 := of_decide_eq_true a2
  obtain ⟨run, hcall, ⟨fd, ps, F, B⟩⟩ := ok.fns hc f d hd (nb a0)
  obtain ⟨ds, dvs, hb, hv, hr⟩ := B _ a1 a2
  have F' : FnOk X.prog X.w X.K X.mg X.base (L2.CX X.prog X.w) k (G.fA f) fd ps (spR G d.np run) := by
    rw [ok.prog, ok.w, ok.K, ok.mg]
    exact F
  refine run_fnSD (E := WE Wx) F' ((ok.room hc).mono (Nat.le_succ k)) (by rw [ok.K]; exact hb) hv (passAt ok.tk σ) I rv ?_
  refine ⟨W, S, ws ++ dflV d ws.length, s, Paired.app' (hr W) r, ?_, ?_⟩
  · unfold dflV
    rw [List.length_append, List.length_map, List.length_drop]
    omega
  · rw [← hcall]
    exact post_E h
theorem pe_def0 (ok : XOk G C X Wx k call) (hc : C.calm = true) {f : Nat} {p pos : Pos} {ies : IEs} (hg : Gl X (G.nm.fnN f)) (hgl : C.glF f = true) (har : arity C.tab f 0 = true) (hl : chkEs C ies [] = true) (n2 : (G.nm.fnN f == ("__debug__" : Str)) = false) :
    PE X (.Call (.Name (G.nm.fnN f) p) [] [] pos) (tE G Wx call (.call f ies)) := by
  refine ⟨fun pins s σ H Q I ⟨W, env, S, sm, er, h⟩ => ?_⟩
  cases ies with
  | cons _ _ => cases hl
  | nil =>
    have h : PostV G Wx σ W (call f [] S) Q := h
    obtain ⟨g1, g2⟩ := ok.gl f hgl
    unfold arity at har
    rw [ok.tab] at har
    cases hd : G.tab.fn f with
    | none => rw [hd] at har; cases har
    | some d =>
      have har : arity G.tab f ([] : List Val).length = true := by
        unfold arity
        rw [hd] at har ⊢
        exact har
      refine wpAny_Call_Name_kw (ld_glob I hg (by rw [ok.mg]; exact g1) ?_ n2)
      exact PySem.W.callWith_K0 I.kIn (by rw [ok.K]; exact g2) (call_run (ws := []) (vs := []) (us := []) ok hc hd har h sm .nil I .nil)
theorem run_makeSD {Cc f : Addr} {fd : FuncData} {ps : List Str} {sp : Sp} {dvs : List V} {ds : List Value} {E : XK} {kk : Nat} {pins : List (Addr × Obj)} {st : Shared} {us : List Value} {vs : List V} (M : Mk X.K Cc f) (F : FnOk X.prog X.w X.K X.mg X.base (L2.CX X.prog X.w) kk f fd ps sp) (hr : Room (kk + 1) X.A) (hb : Binds X.K fd ps ds) (hd : Vals dvs ds)
    (hx : PassesAt (L2.CX X.prog X.w) X σ E) (I : Inv X pins σ H st) (r : Vals vs us)
    (h : ∀ x dx, H x = none → H dx = none → dx ≠ x → sp (.ref x :: (vs ++ dvs)) (upd (upd H dx (.own x)) x (.ins Cc dx [])) (fun v H2 => v = .non ∧ Q (.ref x) H2) E) :
    wpAny (PySem.model X.prog X.w) X.A (PySem.call (.ref Cc) us) (EP X pins σ Q) X.xe st := by
  have hq := h (st.heap.objs.size + 1) st.heap.objs.size (I.hok.fresh (Nat.le_succ _)) (I.hok.fresh (Nat.le_refl _)) (Nat.ne_of_lt (Nat.lt_succ_self _))
  have I2 := Inv.made (C := Cc) I
  have r2 : Vals (V.ref (st.heap.objs.size + 1) :: (vs ++ dvs)) (Value.ref (st.heap.objs.size + 1) :: (us ++ ds)) := .cons rfl (r.append hd)
  have hl : (Value.ref (st.heap.objs.size + 1) :: us ++ ds).length = ps.length := by
    have e := r2.length
    rw [F.len _ _ _ _ hq] at e
    exact e.symm
  refine wpAny_call (make_map (f := f) I.kIn M.makes M.init (beq_iff_eq.mp M.fn) (codeAny_mono (F.run _ X.stack _ _ ⟨Value.ref (st.heap.objs.size + 1) :: us, []⟩ (Value.ref (st.heap.objs.size + 1) :: (us ++ ds)) _ _ E (hr.make Cc us [])
    (I2.env0.make Cc us []) (hb _ (Value.ref (st.heap.objs.size + 1) :: us) I2.kIn hl) r2 hq) fun r s' hq' => ?_))
  cases r with
  | error e => exact hx pins _ _ e s' I2 hq'
  | ok fl =>
    cases fl with
    | ret u =>
      obtain ⟨v, H', I3, rv, ev, q3⟩ := I2.after hq'
      subst ev
      exact ⟨rv, ⟨V.ref (st.heap.objs.size + 1), H', I3, rfl, q3⟩⟩
    | next => exact False.elim hq'
    | brk => exact False.elim hq'
    | cont => exact False.elim hq'
theorem new_run (ok : XOk G C X Wx k call) (hc0 : C.calm = true) {c : Nat} {cl : Cl} {f : Nat} {ws : List Val} {vs : List V} {pins : List (Addr × Obj)} {st : Shared} {us : List Value} (hc : G.tab.cl c = some cl) (hf : cl.init = some f) (har : arity G.tab f (ws.length + 1) = true)
    (h : PostV G Wx σ W (newV G.tab call c ws S) Q) (s : Sim G W S H) (r : Paired (RepV G W) vs ws) (I : Inv X pins σ H st) (rv : Vals vs us) :
    wpAny (PySem.model X.prog X.w) X.A (PySem.call (.ref (G.cA c)) us) (EP X pins σ Q) X.xe st := by
  have D := ok.cls c cl hc
  have M := D.mkf
  rw [hf] at M
  have M : Mk G.K (G.cA c) (G.fA f) := M
  unfold newV at h
  rw [hc] at h
  have h : PostV G Wx σ W (match cl.init with
    | none => if ws.isEmpty then finV cl.frozen S.length (S ++ [.ins c []]) else .bad
    | some f => (call f (.r S.length :: ws) (S ++ [.ins c []])).bind fun v S1 => (match v with
      | .t .non => finV cl.frozen S.length S1
      | _ => .bad)) Q := h
  rw [hf] at h
  have h : PostV G Wx σ W ((call f (.r S.length :: ws) (S ++ [.ins c []])).bind fun v S1 => (match v with
      | .t .non => finV cl.frozen S.length S1
      | _ => .bad)) Q := h
  unfold arity at har
  cases hd : G.tab.fn f with
  | none => rw [hd] at har; cases har
  | some d =>
    rw [hd] at har
    obtain ⟨har, a0⟩ := ba har
    obtain ⟨a1, a2⟩ := ba har
    have a1 := of_decide_eq_true a1
    have a2 := of_decide_eq_true a2
    obtain ⟨run, hcall, ⟨fd, ps, F, B⟩⟩ := ok.fns hc0 f d hd (nb a0)
    obtain ⟨ds, dvs, hb, hv, hr⟩ := B _ a1 a2
    have F' : FnOk X.prog X.w X.K X.mg X.base (L2.CX X.prog X.w) k (G.fA f) fd ps (spR G d.np run) := by
      rw [ok.prog, ok.w, ok.K, ok.mg]
      exact F
    refine run_makeSD (E := WE Wx σ) (by rw [ok.K]; exact M) F' (ok.room hc0) (by rw [ok.K]; exact hb) hv (passAt ok.tk σ) I rv fun x dx hx hdx hne => ?_
    have s0 : Sim G W S (upd H dx (.own x)) := s.upd_new hdx _
    have hx0 : (upd H dx (.own x)) x = none := by rw [upd_ne (Ne.symm hne)]; exact hx
    have s1 : Sim G (W.addC x) (S ++ [.ins c []]) (upd (upd H dx (.own x)) x (.ins (G.cA c) dx [])) := s0.addC hx0 (.ins .nil)
    have l1 : W.le (W.addC x) := Wd.le_addC W x
    have e1 : (W.addC x).at_ S.length = x := if_pos s.len
    refine ⟨W.addC x, _, .r S.length :: (ws ++ dflV d (ws.length + 1)), s1, .cons ⟨?_, by rw [e1]⟩ ?_, ?_, ?_⟩
    · show S.length < W.n + 1
      rw [s.len]
      exact Nat.lt_succ_self _
    · exact Paired.app' (hr _) (RepVs.mono l1 r)
    · unfold dflV
      rw [List.length_cons, List.length_append, List.length_map, List.length_drop]
      omega
    · have e2 : call f (.r S.length :: ws) (S ++ [.ins c []]) = run (.r S.length :: (ws ++ dflV d (ws.length + 1))) (S ++ [.ins c []]) := hcall _ _
      rw [e2] at h
      refine post_E (Post.step (rep' := RepV G) (h.mono l1) fun v S2 W2 y H2 _ l2 s2 r2 p2 => ?_)
      cases v with
      | r n => exact (show False from p2).elim
      | t t =>
        cases t with
        | non =>
          cases r2
          have hlt : S.length < W2.n := Nat.lt_of_lt_of_le (by show S.length < W.n + 1; rw [s.len]; exact Nat.lt_succ_self _) l2.n
          have p3 := fin_post p2 s2 hlt
          rw [l2.at_ S.length (by show S.length < W.n + 1; rw [s.len]; exact Nat.lt_succ_self _), e1] at p3
          exact ⟨rfl, p3⟩
        | _ => exact (show False from p2).elim
theorem run_make0 {Cc : Addr} {pins : List (Addr × Obj)} {st : Shared} (M : Mk0 X.K Cc) (I : Inv X pins σ H st) (h : ∀ x dx, H x = none → H dx = none → dx ≠ x → Q (.ref x) (upd (upd H dx (.own x)) x (.ins Cc dx []))) :
    wpAny (PySem.model X.prog X.w) X.A (PySem.call (.ref Cc) []) (EP X pins σ Q) X.xe st := by
  have hq := h (st.heap.objs.size + 1) st.heap.objs.size (I.hok.fresh (Nat.le_succ _)) (I.hok.fresh (Nat.le_refl _)) (Nat.ne_of_lt (Nat.lt_succ_self _))
  have I2 := Inv.made (C := Cc) I
  refine wpAny_call (make_map0 I.kIn M.makes M.init (fun self => PySem.W.Looks.of_pure (PySem.W.oi_bind self)) ?_)
  have hx : ((st.heap.push PySem.W.emptyDict).push (PySem.W.instObj Cc st.heap.objs.size)).get? (st.heap.objs.size + 1) = some (PySem.W.instObj Cc st.heap.objs.size) := by
    have := Heap.get?_push_size (st.heap.push PySem.W.emptyDict) (o := PySem.W.instObj Cc st.heap.objs.size) rfl
    rwa [Heap.size_push] at this
  have Y := PySem.W.makes_of (M := PySem.model X.prog X.w) I2.kIn M.makes
  have t1 : PySem.W.Looks (PySem.model X.prog X.w) ((st.heap.push PySem.W.emptyDict).push (PySem.W.instObj Cc st.heap.objs.size)) (typeOf (.ref (st.heap.objs.size + 1))) (.ref Cc) := (PySem.W.Looks.ld hx).andThen .now
  have t2 : PySem.W.Looks (PySem.model X.prog X.w) ((st.heap.push PySem.W.emptyDict).push (PySem.W.instObj Cc st.heap.objs.size)) (isInstance (.ref (st.heap.objs.size + 1)) (.type "object")) true := t1.andThen Y.top
  refine codeAny_call_builtin PySem.W.oi_plain PySem.W.entry_oi (@PySem.W.check_slot (PySem.model X.prog X.w) _ _ _ "object.__init__" "object" "__init__" (.ref (st.heap.objs.size + 1)) [] [] _ PySem.W.oi_kind PySem.W.oi_split t2 (PySem.W.oi_args (.ref (st.heap.objs.size + 1))) ?_)
  rw [PySem.W.oi_run]
  exact wpAny_pure (And.intro rfl ⟨V.ref (st.heap.objs.size + 1), _, I2, rfl, hq⟩)
theorem new_run0 (ok : XOk G C X Wx k call) {c : Nat} {cl : Cl} {pins : List (Addr × Obj)} {st : Shared} (hc : G.tab.cl c = some cl) (hf : cl.init = none)
    (h : PostV G Wx σ W (newV G.tab call c [] S) Q) (s : Sim G W S H) (I : Inv X pins σ H st) :
    wpAny (PySem.model X.prog X.w) X.A (PySem.call (.ref (G.cA c)) []) (EP X pins σ Q) X.xe st := by
  have D := ok.cls c cl hc
  have M := D.mkf
  rw [hf] at M
  have M : Mk0 G.K (G.cA c) := M
  unfold newV at h
  rw [hc] at h
  have h : PostV G Wx σ W (match cl.init with
    | none => finV cl.frozen S.length (S ++ [.ins c []])
    | some f => (call f [.r S.length] (S ++ [.ins c []])).bind fun v S1 => (match v with
      | .t .non => finV cl.frozen S.length S1
      | _ => .bad)) Q := h
  rw [hf] at h
  have h : PostV G Wx σ W (finV cl.frozen S.length (S ++ [.ins c []])) Q := h
  refine run_make0 (by rw [ok.K]; exact M) I fun x dx hx hdx hne => ?_
  have s0 : Sim G W S (upd H dx (.own x)) := s.upd_new hdx _
  have hx0 : (upd H dx (.own x)) x = none := by rw [upd_ne (Ne.symm hne)]; exact hx
  have s1 : Sim G (W.addC x) (S ++ [.ins c []]) (upd (upd H dx (.own x)) x (.ins (G.cA c) dx [])) := s0.addC hx0 (.ins .nil)
  have e1 : (W.addC x).at_ S.length = x := if_pos s.len
  have p3 := fin_post (h.mono (Wd.le_addC W x)) s1 (show S.length < W.n + 1 by rw [s.len]; exact Nat.lt_succ_self _)
  rw [e1] at p3
  exact p3
theorem pe_newR (ok : XOk G C X Wx k call) (hcm : C.calm = true) {c : Nat} {es : List Expr} {p pos : Pos} {ies : IEs} (hg : Gl X (G.nm.clN c)) (hnew : newB C.tab c es.length = true) (ha : PA X es (tEs G Wx call ies)) (hs : noStar es = true) (hl : chkEs C ies es = true)
    (n2 : (G.nm.clN c == ("__debug__" : Str)) = false) : PE X (.Call (.Name (G.nm.clN c) p) es [] pos) (tE G Wx call (.new c ies)) := by
  unfold newB at hnew
  rw [ok.tab] at hnew
  cases hc : G.tab.cl c with
  | none => rw [hc] at hnew; cases hnew
  | some cl =>
    rw [hc] at hnew
    have hnew : (match cl.init with
      | some f => arity G.tab f (es.length + 1)
      | none => decide (es.length = 0)) = true := hnew
    cases hf : cl.init with
    | none =>
      rw [hf] at hnew
      have hnew : es.length = 0 := of_decide_eq_true hnew
      have D := ok.cls c cl hc
      have M := D.mkf
      rw [hf] at M
      have M : Mk0 G.K (G.cA c) := M
      have hm : X.mg (G.nm.clN c) = some (.ref (G.cA c)) := by rw [ok.mg]; exact D.mg
      have kp : PySem.W.keepIn X.K (.ref (G.cA c)) = true := by rw [ok.K]; exact M.kp
      cases es with
      | cons _ _ => cases hnew
      | nil =>
        refine ⟨fun pins s σ H Q I ⟨W, env, S, sm, er, h⟩ => ?_⟩
        refine wpAny_Call_Name_kw (ld_glob I hg hm ?_ n2)
        have h : PostV G Wx σ W ((dEs G.tab call ies env S).bind fun vs S => newV G.tab call c vs S) Q := h
        cases ies with
        | cons _ _ => cases hl
        | nil => exact PySem.W.callWith_K0 I.kIn kp (new_run0 ok hc hf h sm I)
    | some f =>
      rw [hf] at hnew
      have D := ok.cls c cl hc
      have M := D.mkf
      rw [hf] at M
      have M : Mk G.K (G.cA c) (G.fA f) := M
      have hm : X.mg (G.nm.clN c) = some (.ref (G.cA c)) := by rw [ok.mg]; exact D.mg
      have kp : PySem.W.keepIn X.K (.ref (G.cA c)) = true := by rw [ok.K]; exact M.kp
      have fin : ∀ (pins : List (Addr × Obj)) (st : Shared) (σ : L2.St) (H : Hp) (Q : VK) (vs : List V) (us : List Value) (ws : List Val) (S : Store) (W : Wd), ws.length = es.length → PostV G Wx σ W (newV G.tab call c ws S) Q → Sim G W S H → Paired (RepV G W) vs ws → Inv X pins σ H st → Vals vs us →
          wpAny (PySem.model X.prog X.w) X.A (PySem.call (.ref (G.cA c)) us) (EP X pins σ Q) X.xe st := fun pins st σ H Q vs us ws S W hw h s r I rv => new_run ok hcm hc hf (by rw [hw]; exact hnew) h s r I rv
      cases es with
      | nil =>
        refine ⟨fun pins s σ H Q I ⟨W, env, S, sm, er, h⟩ => ?_⟩
        refine wpAny_Call_Name_kw (ld_glob I hg hm ?_ n2)
        have h : PostV G Wx σ W ((dEs G.tab call ies env S).bind fun vs S => newV G.tab call c vs S) Q := h
        cases ies with
        | cons _ _ => cases hl
        | nil => exact PySem.W.callWith_K0 I.kIn kp (fin pins s σ H Q [] [] [] S W rfl h sm .nil I .nil)
      | cons e es =>
        refine ⟨fun pins s σ H Q I ⟨W, env, S, sm, er, h⟩ => ?_⟩
        have h : PostV G Wx σ W ((dEs G.tab call ies env S).bind fun vs S => newV G.tab call c vs S) Q := h
        refine wpAny_Call_Name_kw (ld_glob I hg hm ?_ n2)
        refine PySem.W.callWith_K (h₀ := X.base) I.ok.mod.kin kp (thn (ha.run pos pins s σ H (fun vs H1 => ∃ (ws : List Val) (S1 : Store) (W1 : Wd), ws.length = (e :: es).length ∧ PostV G Wx σ W1 (newV G.tab call c ws S1) Q ∧ Sim G W1 S1 H1 ∧ Paired (RepV G W1) vs ws) I ?_) fun us s1 ⟨vs, H1, I1, r, ws, S1, W1, h1, h2, h3, h4⟩ => ⟨I1.kIn, ?_⟩) (star_cons X.env (nb (ba hs).1)) (star_any (ba hs).2)
        · refine Den.step h sm er fun vs S1 W1 xs H1 e1 l1 s1 n1 r1 p1 => ⟨vs, S1, W1, (dEs_len e1).trans (chkEs_len hl).symm, p1, s1, r1⟩
        · exact fin pins s1 σ H1 Q vs us ws S1 W1 h1 h2 h3 h4 I1 r
theorem meth_ht {o : Expr} {m : Str} {apos pos : Pos} {es : List Expr} {env : PySem.Env} (h : isSup o = false) (hs : noStar es = true) (hl : es.length < 30) (hline : (apos.endLine == pos.line) = true) : eval (.Call (.Attribute o m apos) es [] pos) env = (do
      let ov ← eval o env
      standAt apos.atName
      let (f, first) ← holding [ov] (getMethod ov m (do return (← importBound o env).getD true))
      callWith pos f first (backTo pos (starEach es env)) (backToKw pos (keywordEach [] env))) := by
  refine mcall_of (abase h) (fun ov => ?_)
  have few : methodCallForm (es.length + ([] : List Keyword).length) (backTo pos (starEach es env)) (backToKw pos (keywordEach [] env)) = true := by
    have z := few_ok (env := env) (cp := pos) hs hl
    have e : (backToKw pos (keywordEach [] env)).isEmpty = true := rfl
    unfold methodCallForm
    rw [e]
    exact z
  unfold methodCall
  rw [few]
  unfold methodCallPos calleeOf
  simp only [hline, Bool.not_true, Bool.false_or, if_true, pure_bind]
theorem meth_run (ok : XOk G C X Wx k call) {f m g : Nat} {S2 : Store} (h : methV G.tab f m a S = .ok g S2) (s : Sim G W S H) (rx : RepV G W x a) :
    S2 = S ∧ ∃ ad Cc dx gs, x = .ref ad ∧ H ad = some (.ins Cc dx gs) ∧ Cls X.K Cc ∧ Meth X.K Cc (G.nm.atN f) (G.fA g) ∧ gs.lookup (G.nm.atN f) = none ∧ (G.tab.fn g).isSome = true ∧ arity G.tab g m = true := by
  have go : ∀ (c : Nat) (fs : List (Nat × Val)), ((∃ ts, a = .t (.ins c ts) ∧ fs = ts.map fun (p : Nat × T) => (p.1, Val.t p.2)) ∨ ∃ n, a = .r n ∧ S[n]? = some (.ins c fs)) → fs.lookup f = none → ((G.tab.cl c).bind fun k => k.meths.lookup f) = some g →
      ∃ ad Cc dx gs, x = .ref ad ∧ H ad = some (.ins Cc dx gs) ∧ Cls X.K Cc ∧ Meth X.K Cc (G.nm.atN f) (G.fA g) ∧ gs.lookup (G.nm.atN f) = none ∧ (G.tab.fn g).isSome = true := fun c fs h1 h2 h3 => by
    obtain ⟨ad, dx, gs, e1, e2, e3⟩ := ins_at s rx h1
    obtain ⟨cl, e4, e5⟩ := Option.bind_eq_some_iff.mp h3
    have F := ok.cls c cl e4
    obtain ⟨n1, n2, n3⟩ := F.mt f g e5
    exact ⟨ad, _, dx, gs, e1, e2, by rw [ok.K]; exact F.cls, by rw [ok.K]; exact n2, (look_rep ok.okf n1 e3).2 h2, n3⟩
  have ari : ∀ {g' : Nat}, ariV G.tab m (some g') S = .ok g S2 → g' = g ∧ arity G.tab g m = true := fun {g'} z => by
    have z : (if arity G.tab g' m then R.ok g' S else .bad) = .ok g S2 := z
    split at z
    · rename_i b
      cases z
      exact ⟨rfl, b⟩
    · cases z
  have ari2 : ∀ {g' : Nat}, ariV G.tab m (some g') S = .ok g S2 → S2 = S ∧ True := fun {g'} z => by
    have z : (if arity G.tab g' m then R.ok g' S else .bad) = .ok g S2 := z
    split at z
    · cases z
      exact ⟨rfl, trivial⟩
    · cases z
  unfold methV at h
  split at h
  · rename_i c ts
    split at h
    · rename_i b
      cases q : (G.tab.cl c).bind fun k => k.meths.lookup f with
      | none => rw [q] at h; cases h
      | some g' =>
        rw [q] at h
        obtain ⟨e, ar⟩ := ari h
        cases e
        obtain ⟨ad, Cc, dx, gs, w1, w2, w3, w4, w5, w6⟩ := go c _ (.inl ⟨ts, rfl, rfl⟩) (by rw [look_map, Option.isNone_iff_eq_none.mp b]; rfl) q
        exact ⟨(ari2 h).1, ad, Cc, dx, gs, w1, w2, w3, w4, w5, w6, ar⟩
    · cases h
  · rename_i n
    split at h
    · rename_i c fs hc
      split at h
      · rename_i b
        cases q : (G.tab.cl c).bind fun k => k.meths.lookup f with
        | none => rw [q] at h; cases h
        | some g' =>
          rw [q] at h
          obtain ⟨e, ar⟩ := ari h
          cases e
          obtain ⟨ad, Cc, dx, gs, w1, w2, w3, w4, w5, w6⟩ := go c fs (.inr ⟨n, rfl, hc⟩) (Option.isNone_iff_eq_none.mp b) q
          exact ⟨(ari2 h).1, ad, Cc, dx, gs, w1, w2, w3, w4, w5, w6, ar⟩
      · cases h
    · cases h
  · cases h
theorem methV_ex {tab : Tab} {f m : Nat} {x : Exn} {S2 : Store} (q : methV tab f m a S = .ex x S2) : False := by
  have no : ∀ o, ariV tab m o S ≠ .ex x S2 := fun o z => by
    cases o with
    | none => cases z
    | some g =>
      have z : (if arity tab g m then R.ok g S else .bad) = .ex x S2 := z
      split at z <;> cases z
  unfold methV at q
  split at q
  · split at q
    · exact no _ q
    · cases q
  · split at q
    · split at q
      · exact no _ q
      · cases q
    · cases q
  · cases q
theorem pe_methR (ok : XOk G C X Wx k call) (hcm : C.calm = true) {f : Nat} {o : Expr} {io : IE} {es : List Expr} {ap pos : Pos} {ies : IEs} (ho : PE X o (tE G Wx call io)) (ha : PA X es (tEs G Wx call ies)) (hsup : isSup o = false) (hs : noStar es = true) (hl : chkEs C ies es = true) (hfew : es.length < 30) (hline : (ap.endLine == pos.line) = true) :
    PE X (.Call (.Attribute o (G.nm.atN f) ap) es [] pos) (tE G Wx call (.meth io f ies)) := by
  refine ⟨fun pins s σ H Q I ⟨W, env, S, sm, er, h⟩ => ?_⟩
  have h : PostV G Wx σ W ((dE G.tab call io env S).bind fun x S => (methV G.tab f (ies.len + 1) x S).bind fun g S => (dEs G.tab call ies env S).bind fun vs S => call g (x :: vs) S) Q := h
  refine PySem.W.methodCall_KW (thn (ho.run pins s σ H (fun x H1 => ∃ (v : Val) (S1 : Store) (W1 : Wd), Sim G W1 S1 H1 ∧ EnvRep G W1 σ env ∧ RepV G W1 x v ∧ PostV G Wx σ W1 ((methV G.tab f (ies.len + 1) v S1).bind fun g S => (dEs G.tab call ies env S).bind fun vs S => call g (v :: vs) S) Q) I ?_) fun u s1 ⟨x, H1, I1, rx, v, S1, W1, s2, n2, r2, p2⟩ => ?_) (meth_ht hsup hs hfew hline)
  · exact Den.step h sm er fun v S1 W1 x H1 e1 l1 s1 n1 r1 p1 => ⟨v, S1, W1, s1, n1, r1, p1⟩
  · cases q : methV G.tab f (ies.len + 1) v S1 with
    | bad => rw [q] at p2; exact (show False from p2).elim
    | ex x S => exact (methV_ex q).elim
    | ok g S2 =>
      obtain ⟨rfl, ad, Cc, dx, gs, rfl, e2, hc, hm, hno, hfn, har⟩ := meth_run ok q s2 r2
      rw [q] at p2
      have p2 : PostV G Wx σ W1 ((dEs G.tab call ies env S2).bind fun vs S => call g (v :: vs) S) Q := p2
      obtain rfl : u = Value.ref ad := rx
      refine getmeth_ok I1 e2 hc hm hno ?_
      cases hd : G.tab.fn g with
      | none => rw [hd] at hfn; cases hfn
      | some d =>
        cases es with
        | nil =>
          cases ies with
          | cons _ _ => cases hl
          | nil =>
            have p3 : PostV G Wx σ W1 (call g [v] S2) Q := p2
            exact PySem.W.callWith_K0 (first := [.ref ad]) I1.kIn hm.kp (call_run (ws := [v]) (vs := [.ref ad]) ok hcm hd har p3 s2 (.cons r2 .nil) I1 (.cons rfl .nil))
        | cons e es =>
          refine PySem.W.callWith_K (first := [.ref ad]) (h₀ := X.base) I.ok.mod.kin hm.kp (thn (ha.run pos pins s1 σ H1 (fun vs H3 => ∃ (ws : List Val) (S3 : Store) (W3 : Wd), ws.length = ies.len ∧ W1.le W3 ∧ PostV G Wx σ W3 (call g (v :: ws) S3) Q ∧ Sim G W3 S3 H3 ∧ Paired (RepV G W3) vs ws) I1 ?_) fun us s4 ⟨vs, H4, I4, r4, ws, S3, W3, hw, l3, p3, s3, rp⟩ => ⟨I4.kIn, ?_⟩) (star_cons X.env (nb (ba hs).1)) (star_any (ba hs).2)
          · exact Den.step p2 s2 n2 fun ws S3 W3 xs H3 e3 l3 s3 n3 r3 p3 => ⟨ws, S3, W3, dEs_len e3, l3, p3, s3, r3⟩
          · exact call_run (ws := v :: ws) (vs := .ref ad :: vs) ok hcm hd (by rw [List.length_cons, hw]; exact har) p3 s3 (.cons (r2.mono l3) rp) I4 (.cons rfl r4)
theorem cell_ty (hK : X.K = G.K) (h : cellB a S = true) (s : Sim G W S H) (rx : RepV G W x a) : tyV X.K "list" x H := by
  unfold cellB at h
  split at h
  · rename_i n
    obtain ⟨hn, ex⟩ := rx
    subst ex
    split at h
    · rename_i us hc
      obtain ⟨zs, ho, hp⟩ := cell_lst s hc
      exact .inl ⟨rfl, zs, SqL.of ho⟩
    · cases h
  · cases rx with
    | lst hF rl => exact .inl ⟨rfl, _, SqL.of (s.fz _ _ hF)⟩
  · cases h
end
end Rw
namespace Rw
open PySem PySem.Spec PyProof.Rows L2
theorem sameL_len {f : T → T → Bool} : ∀ {xs ys : List T}, sameL f xs ys = true → xs.length = ys.length
  | [], [], _ => rfl
  | x :: xs, y :: ys, h => by
    rw [List.length_cons, List.length_cons, sameL_len (Bool.and_eq_true_iff.mp h).2]
  | [], _ :: _, h => Bool.noConfusion h
  | _ :: _, [], h => Bool.noConfusion h
section
variable {G : Gd} {X : Cx} {pins : List (Addr × Obj)} {σ : L2.St} {H F : Hp} {s : Shared}
theorem same_items {A : Around} {f : T → T → Bool} (ih : ∀ t u x y v w, f t u = true → Rep G H x t → Rep G H y u → RelV x v → RelV y w → SeqAt.EqP X.prog X.w A s v w true) : ∀ {ts us : List T} {xs ys : List V} {vs ws : List Value}, sameL f ts us = true → RepL G H xs ts → RepL G H ys us → Vals xs vs → Vals ys ws →
    ∀ j (h1 : j < vs.length) (h2 : j < ws.length), SeqAt.EqP X.prog X.w A s vs[j] ws[j] true
  | [], [], _, _, _, _, _, .nil, .nil, .nil, .nil, j, h1, _ => absurd h1 (Nat.not_lt_zero j)
  | t :: ts, u :: us, _, _, _, _, h, .cons a1 b1, .cons a2 b2, .cons c1 d1, .cons c2 d2, j, h1, h2 => by
    obtain ⟨e1, e2⟩ := Bool.and_eq_true_iff.mp h
    cases j with
    | zero => exact ih _ _ _ _ _ _ e1 a1 a2 c1 c2
    | succ j => exact same_items ih e2 b1 b2 d1 d2 j (Nat.lt_of_succ_lt_succ h1) (Nat.lt_of_succ_lt_succ h2)
  | [], _ :: _, _, _, _, _, h, _, _, _, _, _, _, _ => Bool.noConfusion h
  | _ :: _, [], _, _, _, _, h, _, _, _, _, _, _, _ => Bool.noConfusion h
theorem same_hits {A : Around} {f : T → T → Bool} (ih : ∀ t u x y v w, f t u = true → Rep G H x t → Rep G H y u → RelV x v → RelV y w → SeqAt.EqP X.prog X.w A s v w true) {ls : List (Key × T)} {gl : List (Key × V)} {vb : List (Key × Value)} (rl : RepD G H gl ls) (rb : KV gl vb) :
    ∀ {ks : List (Key × T)} {gk : List (Key × V)} {va : List (Key × Value)}, RepD G H gk ks → KV gk va → (ks.all fun p => match lookK ls p.1 with
      | some u => f p.2 u
      | none => false) = true → PySem.W.KeqHitsP X.prog X.w A s vb va true
  | [], _, _, .nil, .nil, _ => .nil
  | (k, t) :: ks, _, _, .cons r rr, .cons (b := q) (l₂ := qs) c d, h => by
    rw [List.all_cons] at h
    obtain ⟨e1, e2⟩ := Bool.and_eq_true_iff.mp h
    cases e : lookK ls k with
    | none =>
      rw [e] at e1
      cases e1
    | some u =>
      rw [e] at e1
      obtain ⟨y, hy, ry⟩ := lookK_repD rl e
      have ro : RelO (some y) (valueAt vb k) := by rw [← hy]; exact rb.val k
      obtain ⟨w, hw, rw'⟩ := ro.some_of
      obtain ⟨key, v⟩ := q
      obtain ⟨c1, c2⟩ := c
      have c1 : k = key := c1
      subst c1
      show PySem.W.KeqHitsP X.prog X.w A s vb ((k, v) :: qs) (true && true)
      exact .hit hw (ih _ _ _ _ _ _ e1 r ry c2 rw') (same_hits ih rl rb rr d e2)
theorem repD_len : ∀ {ks : List (Key × T)} {gk : List (Key × V)}, RepD G H gk ks → gk.length = ks.length
  | _, _, .nil => rfl
  | _, _, .cons _ r => by rw [List.length_cons, List.length_cons, repD_len r]
theorem same_dicts {A : Around} {f : T → T → Bool} (I : Inv X pins σ H s) (hu : A.units < cLine) (ih : ∀ t u x y v w, f t u = true → Rep G H x t → Rep G H y u → RelV x v → RelV y w → SeqAt.EqP X.prog X.w A.in1 s v w true)
    {ks ls : List (Key × T)} {a b : Addr} {gk gl : List (Key × V)} (h : (ks.length == ls.length && ks.all fun p => match lookK ls p.1 with
      | some u => f p.2 u
      | none => false) = true) (ha : H a = some (.dK gk)) (hb : H b = some (.dK gl)) (rk : RepD G H gk ks) (rl : RepD G H gl ls) :
    ∃ va vb, (a == sysModules) = false ∧ (b == sysModules) = false ∧ s.heap.DictOf (mixKind X.prog X.w) a va ∧ s.heap.DictOf (mixKind X.prog X.w) b vb ∧ va.length = vb.length ∧ PySem.W.KeqHitsP X.prog X.w A.in1 s vb va true := by
  obtain ⟨e1, e2⟩ := Bool.and_eq_true_iff.mp h
  obtain ⟨_, ya, va, ra, da⟩ := (show ObjOk X.prog X.w H s.heap a (.dK gk) from I.hok a _ ha)
  obtain ⟨_, yb, vb, rb, db⟩ := (show ObjOk X.prog X.w H s.heap b (.dK gl) from I.hok b _ hb)
  refine ⟨va, vb, ya, yb, da, db, ?_, same_hits ih rl rb rk ra e2⟩
  rw [← ra.length, ← rb.length, repD_len rk, repD_len rl]
  exact eq_of_beq e1
theorem same_leaf (I : Inv X pins σ H s) (hK : X.K = G.K) {A : Around} {t u : T} {x y : V} {v w : Value} (hu : A.units + 60 < cLine) (h : eqT t u = some true) (rx : Rep G H x t) (ry : Rep G H y u) (vx : RelV x v) (vy : RelV y w) : SeqAt.EqP X.prog X.w A s v w true := by
  obtain ⟨d, f, h1, h2, c, e⟩ := eqT_some h
  obtain ⟨as, r1⟩ := Dp.reads I d x v (by rw [hK]; exact Rep.dp t x d rx h1) vx
  obtain ⟨bs, r2⟩ := Dp.reads I f y w (by rw [hK]; exact Rep.dp u y f ry h2) vy
  have z := SeqAt.eqAt_plain d f A s v w as bs r1 r2 (py_plain t d h1) (py_plain u f h2) (by omega)
  rw [← e] at z
  exact z.eqP
theorem same_run (I : Inv X pins σ H s) (hK : X.K = G.K) : ∀ (n : Nat) (A : Around), A.units + 60 + n < cLine → ∀ (t u : T) (x y : V) (v w : Value), sameD n t u = true → Rep G H x t → Rep G H y u → RelV x v → RelV y w → SeqAt.EqP X.prog X.w A s v w true
  | 0, _, _, _, _, _, _, _, _, h, _, _, _, _ => Bool.noConfusion h
  | n + 1, A, hu, t, u, x, y, v, w, h, rx, ry, vx, vy => by
    have ih := same_run I hK n A.in1 (by show A.units + 1 + 60 + n < cLine; omega)
    have leaf : eqT t u = some true → SeqAt.EqP X.prog X.w A s v w true := fun e => same_leaf I hK (by omega) e rx ry vx vy
    have viaLeaf : (eqT t u == some true) = true → SeqAt.EqP X.prog X.w A s v w true := fun e => leaf (eq_of_beq e)
    cases t with
    | lst ts =>
      cases u with
      | lst us =>
        have h : sameL (sameD n) ts us = true := h
        cases rx with
        | @lst a xs _ ha ra =>
          cases ry with
          | @lst b ys _ hb rb =>
            cases (show v = Value.ref a from vx)
            cases (show w = Value.ref b from vy)
            by_cases e : a = b
            · subst e
              exact (SeqAt.EqAt.same _).eqP
            · obtain ⟨us1, r1, p1, _⟩ := I.list (.inl (.inl ha))
              obtain ⟨us2, r2, p2, _⟩ := I.list (.inl (.inl hb))
              have l1 := sameL_len h
              refine SeqAt.eqP_refs e fun E Q q => SeqAt.rcP_lists (e := fun _ => true) p1.isList p2.isList ?_ (by omega) (fun j h1 h2 => ?_) E Q ?_
              · rw [List.size_toArray, List.size_toArray, ← r1.length, ← r2.length, ra.length, rb.length]
                exact l1
              · have k := same_items ih h ra rb r1 r2 j (by simpa using h1) (by simpa using h2)
                simpa using k
              · rw [show ((List.range us1.toArray.size).all fun _ => true) = true from List.all_eq_true.mpr fun _ _ => rfl]
                exact q
      | _ => exact viaLeaf h
    | dct ks =>
      cases u with
      | dct ls =>
        have h : (ks.length == ls.length && ks.all fun p => match lookK ls p.1 with
          | some u => sameD n p.2 u
          | none => false) = true := h
        cases rx with
        | @dct a gk _ ha ra =>
          cases ry with
          | @dct b gl _ hb rb =>
            cases (show v = Value.ref a from vx)
            cases (show w = Value.ref b from vy)
            by_cases e : a = b
            · subst e
              exact (SeqAt.EqAt.same _).eqP
            · obtain ⟨va, vb, ya, yb, da, db, hl, hits⟩ := same_dicts I (A := A) (by omega) ih h ha hb ra rb
              refine SeqAt.eqP_refs e fun E Q q => PySem.W.rcP_dicts (knd := mixKind X.prog X.w) (r := true) ya yb da db (by omega) (fun _ => hits) E Q ?_
              rw [show (va.length == vb.length && true) = true from by rw [hl]; simp]
              exact q
      | _ => exact viaLeaf h
    | _ => cases u <;> exact viaLeaf h
end
def rSame (G : Gd) (neg : Bool) : R2 := fun x y H Q => ∃ t u, Rep G H x t ∧ Rep G H y u ∧ ((!neg || (isDct t && isDct u)) && sameD 3 t u) = true ∧ Q (.bl (!neg)) H
section
variable {G : Gd} {X : Cx}
theorem dict_ne {prog : Program} {w : World} {K : Type} [DecidableEq K] {knd : KeyKind prog w K} {A : Around} {E : Value → Shared → Prop} {s : Shared} {a b : Addr} {ka kb : List (K × Value)} {r : Bool} {Q : Value → Shared → Prop} (ha : (a == sysModules) = false) (hb : (b == sysModules) = false)
    (da : s.heap.DictOf knd a ka) (db : s.heap.DictOf knd b kb) (hu : A.units < cLine) (hits : ka.length = kb.length → PySem.W.KeqHitsP prog w A.in1 s kb ka r) (h : Q (.bool (!(ka.length == kb.length && r))) s) :
    wpAny (model prog w) A (compareOp .NotEq (.ref a) (.ref b)) Q E s := by
  refine wpAny_richCompare_same_room (op := .NotEq) da.typeIs db.typeIs PySem.F.slot_dict_ne (wpAny_call_entry PySem.F.slot_dict_ne da.typeIs PySem.F.entry_dict_ne ?_ (PySem.F.args_dict_ne_2 _ _)) hu
  show wpAny _ _ (Builtin.Dict.dictSlotArgs "__ne__" ⟨[.ref a, .ref b], []⟩ >>= _) _ _ s
  refine wpAny_bind ?_
  unfold Builtin.Dict.dictSlotArgs
  refine wpAny_bind (wpAny_notOrdered_dict da.typeIs ?_)
  show wpAny _ _ (pure (Value.ref a, Value.ref b)) _ _ s
  refine wpAny_pure ?_
  refine wpAny_bind (wpAny_isInstance (T := "dict") db.typeIs PySem.F.sub_dict_dict ?_)
  simp only [Bool.not_true, Bool.false_eq_true, if_false]
  refine wpAny_bind (wpAny_pure (wpAny_bind (wpAny_pure ?_)))
  refine wpAny_bind (PySem.W.samePairsP ha hb da db hits ?_)
  refine wpAny_pure ⟨_, rfl, ?_, ?_⟩
  · exact fun x => nomatch x
  · simpa using h
theorem op_same (hK : X.K = G.K) (hu : X.A.units + 64 < cLine) (neg : Bool) : OpR X (compareOp (if neg then .NotEq else .Eq)) (rSame G neg) := by
  intro pins s σ H x y v w Q I vx vy h
  obtain ⟨t, u, rx, ry, hs, q⟩ := h
  obtain ⟨h1, hs⟩ := Bool.and_eq_true_iff.mp hs
  have ih := same_run (G := G) I hK 2 X.A.in1 (by show X.A.units + 1 + 60 + 2 < cLine; omega)
  cases neg with
  | true =>
    obtain ⟨i1, i2⟩ := Bool.and_eq_true_iff.mp (show (isDct t && isDct u) = true from h1)
    cases t with
    | dct ks =>
      cases u with
      | dct ls =>
        cases rx with
        | @dct a gk _ ha ra =>
          cases ry with
          | @dct b gl _ hb rb =>
            cases (show v = Value.ref a from vx)
            cases (show w = Value.ref b from vy)
            obtain ⟨va, vb, ya, yb, da, db, hl, hits⟩ := same_dicts I (A := X.A) (by omega) ih hs ha hb ra rb
            refine dict_ne (knd := mixKind X.prog X.w) (r := true) ya yb da db (by omega) (fun _ => hits) ?_
            rw [show (va.length == vb.length && true) = true from by rw [hl]; simp]
            exact ⟨.bl false, H, I, rfl, q⟩
      | _ => cases i2
    | _ => cases i1
  | false =>
    have leaf : eqT t u = some true → EP X pins σ Q (.bool true) s → wpAny (model X.prog X.w) X.A (compareOp .Eq v w) (EP X pins σ Q) X.xe s := fun e fin => by
      obtain ⟨d, f, h1, h2, c, e⟩ := eqT_some e
      obtain ⟨as, r1⟩ := Dp.reads I d x v (by rw [hK]; exact Rep.dp t x d rx h1) vx
      obtain ⟨bs, r2⟩ := Dp.reads I f y w (by rw [hK]; exact Rep.dp u y f ry h2) vy
      refine PySem.SeqAt.eq_plain r1 r2 (py_plain t d h1) (py_plain u f h2) (by omega) ?_
      rw [← e]
      exact fin
    have fin : EP X pins σ Q (.bool true) s := ⟨.bl true, H, I, rfl, q⟩
    have viaLeaf : (eqT t u == some true) = true → wpAny (model X.prog X.w) X.A (compareOp .Eq v w) (EP X pins σ Q) X.xe s := fun e => leaf (eq_of_beq e) fin
    show wpAny (model X.prog X.w) X.A (compareOp .Eq v w) (EP X pins σ Q) X.xe s
    cases t with
    | lst ts =>
      cases u with
      | lst us =>
        have h : sameL (sameD 2) ts us = true := hs
        cases rx with
        | @lst a xs _ ha ra =>
          cases ry with
          | @lst b ys _ hb rb =>
            cases (show v = Value.ref a from vx)
            cases (show w = Value.ref b from vy)
            obtain ⟨us1, r1, p1, _⟩ := I.list (.inl (.inl ha))
            obtain ⟨us2, r2, p2, _⟩ := I.list (.inl (.inl hb))
            have l1 := sameL_len h
            refine SeqAt.rcP_lists (e := fun _ => true) p1.isList p2.isList ?_ (by omega) (fun j h1 h2 => ?_) _ _ ?_
            · rw [List.size_toArray, List.size_toArray, ← r1.length, ← r2.length, ra.length, rb.length]
              exact l1
            · have k := same_items ih h ra rb r1 r2 j (by simpa using h1) (by simpa using h2)
              simpa using k
            · rw [show ((List.range us1.toArray.size).all fun _ => true) = true from List.all_eq_true.mpr fun _ _ => rfl]
              exact fin
      | _ => exact viaLeaf hs
    | dct ks =>
      cases u with
      | dct ls =>
        cases rx with
        | @dct a gk _ ha ra =>
          cases ry with
          | @dct b gl _ hb rb =>
            cases (show v = Value.ref a from vx)
            cases (show w = Value.ref b from vy)
            obtain ⟨va, vb, ya, yb, da, db, hl, hits⟩ := same_dicts I (A := X.A) (by omega) ih hs ha hb ra rb
            refine PySem.W.rcP_dicts (knd := mixKind X.prog X.w) (r := true) ya yb da db (by omega) (fun _ => hits) _ _ ?_
            rw [show (va.length == vb.length && true) = true from by rw [hl]; simp]
            exact fin
      | _ => exact viaLeaf hs
    | _ => cases u <;> exact viaLeaf hs
end
section
variable {G : Gd} {W : Wd} {S : Store} {H : Hp} {x : V} {a : Val}
theorem peekD_rep {t : T} (s : Sim G W S H) (r : RepV G W x a) (e : peekD S a = some t) : Rep G H x t := by
  cases a with
  | t u =>
    cases e
    exact Rep.mono s.fz t x r
  | r n =>
    obtain ⟨hn, ex⟩ := r
    subst ex
    have e1 : (match S[n]? with
      | some (.lst vs) => (allT vs).map .lst
      | some (.dct kvs) => (allD kvs).map .dct
      | _ => none) = some t := e
    cases q : S[n]? with
    | none => rw [q] at e1; cases e1
    | some c =>
      rw [q] at e1
      cases c with
      | lst ws =>
        obtain ⟨xs, e2, e3⟩ := Option.map_eq_some_iff.mp e1
        subst e3
        obtain ⟨_, _, o, ho, ok⟩ := s.live n _ q (by intro z; cases z)
        cases ok with
        | lst hp => exact .lst ho (RepL.mono s.fz xs _ (allT_rep hp e2))
      | dct ws =>
        obtain ⟨xs, e2, e3⟩ := Option.map_eq_some_iff.mp e1
        subst e3
        obtain ⟨_, _, o, ho, ok⟩ := s.live n _ q (by intro z; cases z)
        cases ok with
        | dct hp => exact .dct ho (RepD.mono s.fz xs _ (allD_rep hp e2))
      | dead => cases e1
      | ins _ _ => cases e1
end
section
variable {G : Gd} {W : Wd} {F : Hp}
theorem keysT_rep : ∀ {ks : List T} {qs : List Key} {gk : List V}, keysT ks = some qs → RepL G F gk ks → gk = qs.map kV
  | [], _, _, h, .nil => by
    cases h
    rfl
  | x :: xs, _, _, h, .cons r rr => by
    have h : ((keyT x).bind fun k => (keysT xs).map (k :: ·)) = some _ := h
    obtain ⟨k, h1, h2⟩ := Option.bind_eq_some_iff.mp h
    obtain ⟨ys, h3, rfl⟩ := Option.map_eq_some_iff.mp h2
    rw [keyT_rep h1 r, keysT_rep h3 rr]
    rfl
theorem keysT_len : ∀ {ks : List T} {qs : List Key}, keysT ks = some qs → qs.length = ks.length
  | [], _, h => by
    cases h
    rfl
  | x :: xs, _, h => by
    have h : ((keyT x).bind fun k => (keysT xs).map (k :: ·)) = some _ := h
    obtain ⟨k, h1, h2⟩ := Option.bind_eq_some_iff.mp h
    obtain ⟨ys, h3, rfl⟩ := Option.map_eq_some_iff.mp h2
    rw [List.length_cons, List.length_cons, keysT_len h3]
theorem zip_pair : ∀ {qs : List Key} {vs : List T} {gv : List V}, RepL G W.F gv vs → Paired (DR G W) (qs.zip gv) ((qs.zip vs).map fun p => (p.1, Val.t p.2))
  | [], _, _, _ => .nil
  | _ :: _, _, _, .nil => .nil
  | q :: qs, _, _, .cons r rr => .cons ⟨rfl, r⟩ (zip_pair rr)
end
end Rw
namespace Rw
open PySem PySem.Spec PyProof.Rows L2
section
variable {G : Gd} {C : Ck} {X : Cx} {Wx : WX} {k : Nat} {call : Call} {W : Wd} {S : Store} {H : Hp} {σ : L2.St} {env : Env}
theorem wipe_set {x : Option V} {i : Nat} : ∀ {us : List Nat} {σ : L2.St}, i ∈ us → L2.wipe (σ.set i x) us = L2.wipe σ us
  | [], _, h => by cases h
  | u :: us, σ, h => by
    show (L2.wipe (σ.set i x) us).set u none = (L2.wipe σ us).set u none
    by_cases z : i ∈ us
    · rw [wipe_set z]
    · have e : i = u := by
        rcases List.mem_cons.mp h with h | h
        · exact h
        · exact absurd h z
      subst e
      have go : ∀ (us : List Nat) (σ : L2.St), i ∉ us → L2.wipe (σ.set i x) us = (L2.wipe σ us).set i x := fun us => by
        induction us with
        | nil => exact fun σ _ => rfl
        | cons v vs ih =>
          intro σ hn
          show (L2.wipe (σ.set i x) vs).set v none = ((L2.wipe σ vs).set v none).set i x
          rw [ih σ fun h => hn (List.mem_cons_of_mem _ h), List.set_comm _ _ fun z => hn (by rw [z]; exact List.mem_cons_self)]
      rw [go us σ z, List.set_set]
theorem wipe_sub {us : List Nat} : ∀ {vs : List Nat} {σ : L2.St}, (∀ i ∈ vs, i ∈ us) → L2.wipe (L2.wipe σ vs) us = L2.wipe σ us
  | [], _, _ => rfl
  | v :: vs, σ, h => by
    show L2.wipe ((L2.wipe σ vs).set v none) us = _
    rw [wipe_set (h v List.mem_cons_self)]
    exact wipe_sub fun i hi => h i (List.mem_cons_of_mem _ hi)
theorem wipe_wipe (σ : L2.St) (vs : List Nat) : L2.wipe (L2.wipe σ vs) vs = L2.wipe σ vs := wipe_sub fun _ h => h
def tTg (G : Gd) (many : Bool) (tg : List Nat) : TG := fun v σ H Q => ∃ (W : Wd) (S : Store) (env env2 : Env) (a : Val), Sim G W S H ∧ EnvRep G W σ env ∧ RepV G W v a ∧ target many tg a env S = some env2 ∧ ∀ σ2, EnvRep G W σ2 env2 → L2.wipe σ2 tg = L2.wipe σ tg → Q σ2 H
def tTgs (G : Gd) (tg : List Nat) : TGs := fun vs σ H Q => ∃ (W : Wd) (S : Store) (env env2 : Env) (ws : List Val), Sim G W S H ∧ EnvRep G W σ env ∧ Paired (RepV G W) vs ws ∧ setMany env tg ws = some env2 ∧ ∀ σ2, EnvRep G W σ2 env2 → (∀ us : List Nat, (∀ i ∈ tg, i ∈ us) → L2.wipe σ2 us = L2.wipe σ us) → Q σ2 H
theorem PG.imp {e : Expr} {t t' : TG} (h : PG X e t) (f : ∀ v σ H Q, t' v σ H Q → t v σ H Q) : PG X e t' := ⟨fun pins s σ H v u Q I r q => h.run pins s σ H v u Q I r (f v σ H Q q)⟩
theorem PGs.imp {es : List Expr} {t t' : TGs} (h : PGs X es t) (f : ∀ v σ H Q, t' v σ H Q → t v σ H Q) : PGs X es t' := ⟨fun pins s σ H v u Q I r q => h.run pins s σ H v u Q I r (f v σ H Q q)⟩
theorem sTgs (ok : XOk G C X Wx k call) : ∀ {tg : List Nat} {es : List Expr}, chkTg C tg es = true → PGs X es (tTgs G tg) ∧ (assignEach es X.env).length = tg.length ∧ (assignEach es X.env).findIdx? (·.1) = none
  | [], [], _ => ⟨PGs.imp pgs_nil (fun vs σ H Q ⟨W, S, env, env2, xs, sm, er, r, e, q⟩ => by
      cases xs with
      | nil =>
        cases r
        cases e
        exact ⟨rfl, q σ er fun _ _ => rfl⟩
      | cons _ _ => cases e), rfl, rfl⟩
  | i :: is, e :: es, h => by
    cases e with
    | Name x p =>
      obtain ⟨h1, h⟩ := ba h
      obtain ⟨h2, h3⟩ := ba h
      have h1 : X.N[i]? = some x := by rw [ok.N]; exact of_decide_eq_true h1
      obtain ⟨c1, c2⟩ := ok.can i x h1 h2
      obtain ⟨g, l, f⟩ := sTgs ok h3
      refine ⟨PGs.imp (pgs_cons (pg_name ok.nd h1 c1 c2) g rfl) ?_, congrArg Nat.succ l, ?_⟩
      · rintro vs σ H Q ⟨W, S, env, env2, xs, sm, er, r, e, q⟩
        cases xs with
        | nil => cases e
        | cons x xs =>
          cases r with
          | cons r rr => exact ⟨_, _, rfl, W, S, _, env2, xs, sm, er.set (v := x) r i, rr, e, fun σ2 e2 w2 => q σ2 e2 fun us hu => (w2 us fun j hj => hu j (List.mem_cons_of_mem _ hj)).trans (wipe_set (hu i List.mem_cons_self))⟩
      · show ((false, assign (.Name x p) X.env) :: assignEach es X.env).findIdx? (·.1) = none
        rw [List.findIdx?_cons, f]
        rfl
    | _ => cases h
  | [], _ :: _, h => by cases h
  | _ :: _, [], h => by cases h
theorem setMany_len : ∀ {tg : List Nat} {xs : List Val} {env env2 : Env}, setMany env tg xs = some env2 → xs.length = tg.length
  | [], [], _, _, _ => rfl
  | _ :: _, _ :: _, _, _, h => congrArg Nat.succ (setMany_len h)
  | [], _ :: _, _, _, h => by cases h
  | _ :: _, [], _, _, h => by cases h
theorem sTg (ok : XOk G C X Wx k call) {many : Bool} {tg : List Nat} {e : Expr} (h : chkT C many tg e = true) : PG X e (tTg G many tg) := by
  cases many with
  | false =>
    cases tg with
    | nil => cases e <;> cases h
    | cons i tg =>
      cases tg with
      | cons _ _ => cases e <;> cases h
      | nil =>
        cases e with
        | Name x p =>
          have h1 : X.N[i]? = some x := by rw [ok.N]; exact of_decide_eq_true (ba h).1
          obtain ⟨c1, c2⟩ := ok.can i x h1 (ba h).2
          refine PG.imp (pg_name ok.nd h1 c1 c2) fun v σ H Q ⟨W, S, env, env2, a, sm, er, r, e, q⟩ => ?_
          cases e
          exact q _ (er.set r i) (wipe_set List.mem_cons_self)
        | _ => cases h
  | true =>
    cases e with
    | Tuple es kk p =>
      obtain ⟨g, l, f⟩ := sTgs ok (ba h).1
      refine ⟨fun pins s σ H v u Q I ru ⟨W, S, env, env2, a, sm, er, r, e, q⟩ => ?_⟩
      cases a with
      | r n =>
        have e : (match S[n]? with
          | some (.lst ws) => setMany env tg ws
          | _ => none) = some env2 := e
        cases hc : S[n]? with
        | none => rw [hc] at e; cases e
        | some c =>
          cases c with
          | lst ws =>
            rw [hc] at e
            have e : setMany env tg ws = some env2 := e
            obtain ⟨zs, ho, hp⟩ := cell_lst sm hc
            obtain ⟨hn, ex⟩ := r
            subst ex
            exact (pg_lst (ok.calm (ba h).2) g l f).run pins s σ H _ u Q I ru ⟨_, _, rfl, SqL.of ho, by rw [Paired.length hp]; exact setMany_len e, W, S, env, env2, ws, sm, er, hp, e, fun σ2 e2 w2 => q σ2 e2 (w2 tg fun _ h => h)⟩
          | dead => rw [hc] at e; cases e
          | ins _ _ => rw [hc] at e; cases e
          | dct _ => rw [hc] at e; cases e
      | t t =>
        cases t with
        | tup xs =>
          cases r with
          | tup hF rl =>
            have e : setMany env tg (xs.map .t) = some env2 := e
            exact (pg_tup (ok.calm (ba h).2) g l f).run pins s σ H _ u Q I ru ⟨_, _, rfl, by rw [ok.K]; exact sameT sm.fz hF, by rw [rl.length, ← setMany_len e, List.length_map], W, S, env, env2, _, sm, er, vals_repL (vs := []) rl, e, fun σ2 e2 w2 => q σ2 e2 (w2 tg fun _ h => h)⟩
        | lst xs =>
          cases r with
          | lst hF rl =>
            have e : setMany env tg (xs.map .t) = some env2 := e
            exact (pg_lst (ok.calm (ba h).2) g l f).run pins s σ H _ u Q I ru ⟨_, _, rfl, SqL.of (sm.fz _ _ hF), by rw [rl.length, ← setMany_len e, List.length_map], W, S, env, env2, _, sm, er, vals_repL (vs := []) rl, e, fun σ2 e2 w2 => q σ2 e2 (w2 tg fun _ h => h)⟩
        | _ => cases e
    | _ => cases tg <;> cases h
end
structure Wd.sub (W W' : Wd) : Prop where
  f : Same W.F W'.F
  n : W.n ≤ W'.n
  at_ : ∀ k, k < W.n → W'.at_ k = W.at_ k
theorem Wd.le.sub {W W' : Wd} (l : W.le W') : W.sub W' := ⟨l.f, l.n, l.at_⟩
theorem Wd.sub.trans {W W1 W2 : Wd} (a : W.sub W1) (b : W1.sub W2) : W.sub W2 := ⟨a.f.trans b.f, Nat.le_trans a.n b.n, fun k hk => (b.at_ k (Nat.lt_of_lt_of_le hk a.n)).trans (a.at_ k hk)⟩
theorem RepV.monoS {G : Gd} {W W' : Wd} (l : W.sub W') {v : V} : ∀ {a : Val}, RepV G W v a → RepV G W' v a
  | .t x, h => Rep.mono l.f x v h
  | .r n, h => ⟨Nat.lt_of_lt_of_le h.1 l.n, by rw [l.at_ n h.1]; exact h.2⟩
structure Wlk (G : Gd) (W : Wd) (J : It) (its : List Val × Wk) : Prop where
  go : ∀ (W' : Wd) (S' : Store) (H' : Hp) (i : Nat), i < its.1.length → W.sub W' → Sim G W' S' H' → okW its.2 S' → J.go i H'
  stop : ∀ (W' : Wd) (S' : Store) (H' : Hp), W.sub W' → Sim G W' S' H' → okW its.2 S' → J.stop its.1.length H'
  yld : ∀ (W' : Wd) (S' : Store) (H' : Hp) (i : Nat) (x : V) (H2 : Hp), i < its.1.length → W.sub W' → Sim G W' S' H' → okW its.2 S' → J.yld i H' x H2 → ∃ (W2 : Wd) (v : Val), W'.le W2 ∧ Sim G W2 S' H2 ∧ its.1[i]? = some v ∧ RepV G W2 x v
section
variable {G : Gd} {C : Ck} {X : Cx} {Wx : WX} {k : Nat} {call : Call} {W : Wd} {S : Store} {H : Hp} {σ : L2.St} {env : Env}
theorem wlk_str (x : Str) : Wlk G W (Its x) (x.cps.toList.map fun c => Val.t (.str ⟨#[c]⟩), none) where
  go := fun W' S' H' i hi l s _ => by
    have hi : i < (x.cps.toList.map fun c => Val.t (.str ⟨#[c]⟩)).length := hi
    rw [List.length_map] at hi
    show i < x.cps.size
    simpa using hi
  stop := fun W' S' H' l s _ => by
    show x.cps.size ≤ (x.cps.toList.map fun c => Val.t (.str ⟨#[c]⟩)).length
    rw [List.length_map]
    simp
  yld := fun W' S' H' i v H2 hi l s _ y => by
    obtain ⟨e, c, hc, ev⟩ := y
    subst e ev
    refine ⟨W', .t (.str ⟨#[c]⟩), Wd.le.refl W', s, ?_, .str _⟩
    show (x.cps.toList.map fun c => Val.t (.str ⟨#[c]⟩))[i]? = _
    rw [List.getElem?_map, Array.getElem?_toList, hc]
    rfl
theorem wlk_list {a : Addr} {vs : List V} {its : List Val} (hs : ∀ (W' : Wd) (S' : Store) (H' : Hp), W.sub W' → Sim G W' S' H' → SqL G.K H' a vs) (r : Paired (RepV G W) vs its) : Wlk G W (Itl G.K a) (its, none) where
  go := fun W' S' H' i hi l s _ => walk_list.goes i H' (by rw [Paired.length r]; exact hi) (hs W' S' H' l s)
  stop := fun W' S' H' l s _ => by rw [← Paired.length r]; exact walk_list.stops H' (hs W' S' H' l s)
  yld := fun W' S' H' i x H2 hi l s _ y => by
    obtain ⟨e, hx⟩ := walk_list.yields i H' x H2 (by rw [Paired.length r]; exact hi) (hs W' S' H' l s) y
    have hi : i < its.length := hi
    obtain ⟨x', h1, h2⟩ := Paired.get (i := i) (y := its[i]) r (by simp [hi])
    rw [hx] at h1
    cases h1
    subst e
    exact ⟨W', its[i], .refl W', s, by simp [hi], h2.monoS l⟩
theorem wlk_cell {n : Nat} {ws : List Val} (hn : n < W.n) : Wlk G W (Itl G.K (W.at_ n)) (ws, some (n, ws)) := by
  have key : ∀ (W' : Wd) (S' : Store) (H' : Hp), W.sub W' → Sim G W' S' H' → okW (some (n, ws)) S' → ∃ vs, SqL G.K H' (W.at_ n) vs ∧ Paired (RepV G W') vs ws := fun W' S' H' l s w => by
    obtain ⟨_, _, o, ho, ok⟩ := s.live n _ w (by intro z; cases z)
    cases ok with
    | lst hp => exact ⟨_, SqL.of (by rw [← l.at_ n hn]; exact ho), hp⟩
  constructor
  · intro W' S' H' i hi l s w
    obtain ⟨vs, h1, h2⟩ := key W' S' H' l s w
    exact walk_list.goes i H' (by rw [Paired.length h2]; exact hi) h1
  · intro W' S' H' l s w
    obtain ⟨vs, h1, h2⟩ := key W' S' H' l s w
    show (Itl G.K (W.at_ n)).stop ws.length H'
    rw [← Paired.length h2]
    exact walk_list.stops H' h1
  · intro W' S' H' i x H2 hi l s w y
    obtain ⟨vs, h1, h2⟩ := key W' S' H' l s w
    have hi : i < ws.length := hi
    obtain ⟨e, hx⟩ := walk_list.yields i H' x H2 (by rw [Paired.length h2]; exact hi) h1 y
    obtain ⟨x', h3, h4⟩ := Paired.get (i := i) (y := ws[i]) h2 (by simp [hi])
    rw [hx] at h3
    cases h3
    subst e
    exact ⟨W', ws[i], .refl W', s, by simp [hi], h4⟩
theorem wlk_tup {a : Addr} {vs : List V} {its : List Val} (hs : ∀ (W' : Wd) (S' : Store) (H' : Hp), W.sub W' → Sim G W' S' H' → SqT G.K H' a vs) (r : Paired (RepV G W) vs its) : Wlk G W (Itt G.K a) (its, none) where
  go := fun W' S' H' i hi l s _ => walk_tup.goes i H' (by rw [Paired.length r]; exact hi) (hs W' S' H' l s)
  stop := fun W' S' H' l s _ => by rw [← Paired.length r]; exact walk_tup.stops H' (hs W' S' H' l s)
  yld := fun W' S' H' i x H2 hi l s _ y => by
    obtain ⟨e, hx⟩ := walk_tup.yields i H' x H2 (by rw [Paired.length r]; exact hi) (hs W' S' H' l s) y
    have hi : i < its.length := hi
    obtain ⟨x', h1, h2⟩ := Paired.get (i := i) (y := its[i]) r (by simp [hi])
    rw [hx] at h1
    cases h1
    subst e
    exact ⟨W', its[i], .refl W', s, by simp [hi], h2.monoS l⟩
theorem rngOk_ok {i : Int} (h : rngOk i = true) : -(2 ^ 62) ≤ i ∧ i < 2 ^ 62 := by
  unfold rngOk at h
  have := of_decide_eq_true h
  omega
theorem rng_get {lo hi : Int} {i : Nat} (h : i < (hi - lo).toNat) : (rng lo hi)[i]? = some (.t (.int (lo + (i : Int)))) := by
  unfold rng
  rw [List.getElem?_map, List.getElem?_range h]
  rfl
theorem rng_len (lo hi : Int) : (rng lo hi).length = (hi - lo).toNat := by
  unfold rng
  rw [List.length_map, List.length_range]
theorem wlk_zip {x : Str} {b : Addr} {vs : List V} {ys : List T} (hs : ∀ (W' : Wd) (S' : Store) (H' : Hp), W.sub W' → Sim G W' S' H' → SqT G.K H' b vs) (r : Paired (RepV G W) vs (ys.map .t)) :
    Wlk G W (ItzS G.K x b) ((x.cps.toList.zip ys).map fun p => Val.t (.tup [.str ⟨#[p.1]⟩, p.2]), none) := by
  have lv : vs.length = ys.length := by rw [Paired.length r, List.length_map]
  have lx : x.cps.toList.length = x.cps.size := Array.length_toList
  have lz : ((x.cps.toList.zip ys).map fun p => Val.t (.tup [.str ⟨#[p.1]⟩, p.2])).length = min x.cps.size ys.length := by rw [List.length_map, List.length_zip, lx]
  have at_ : ∀ i, i < min x.cps.size ys.length → ∃ c t y, x.cps[i]? = some c ∧ ys[i]? = some t ∧ vs[i]? = some y ∧ RepV G W y (.t t) ∧ ((x.cps.toList.zip ys).map fun p => Val.t (.tup [.str ⟨#[p.1]⟩, p.2]))[i]? = some (.t (.tup [.str ⟨#[c]⟩, t])) := fun i hi => by
    have h1 : i < x.cps.size := by omega
    have h2 : i < ys.length := by omega
    have e1 : x.cps[i]? = some x.cps[i] := Array.getElem?_eq_getElem h1
    have e1' : x.cps.toList[i]? = some x.cps[i] := by rw [Array.getElem?_toList]; exact e1
    have e2 : ys[i]? = some ys[i] := List.getElem?_eq_getElem h2
    obtain ⟨y, h3, h4⟩ := Paired.get (i := i) (y := Val.t ys[i]) r (by rw [List.getElem?_map, e2]; rfl)
    refine ⟨_, _, y, e1, e2, h3, h4, ?_⟩
    have ez : (x.cps.toList.zip ys)[i]? = some (x.cps[i], ys[i]) := by
      rw [List.getElem?_zip_eq_some]
      exact ⟨e1', e2⟩
    rw [List.getElem?_map, ez]
    rfl
  constructor
  · intro W' S' H' i hi l s _
    rw [lz] at hi
    obtain ⟨c, t, y, h1, h2, h3, h4, h5⟩ := at_ i hi
    exact ⟨vs, y, c, hs W' S' H' l s, h1, h3⟩
  · intro W' S' H' l s _
    rw [lz]
    exact ⟨vs, hs W' S' H' l s, by omega, by omega, by omega⟩
  · intro W' S' H' i v H2 hi l s _ y
    rw [lz] at hi
    obtain ⟨c, t, z, h1, h2, h3, h4, h5⟩ := at_ i hi
    obtain ⟨p, z', c', rfl, hp, rfl, g1, g2⟩ := y
    rw [h1] at g1
    cases g1
    have g := g2 vs (hs W' S' H' l s)
    rw [h3] at g
    cases g
    refine ⟨W'.addF p (.tup [.str ⟨#[c]⟩, z]), _, Wd.le_addF s hp _, s.addF hp _, h5, ?_⟩
    have h4' : Rep G (W'.addF p (.tup [.str ⟨#[c]⟩, z])).F z t := (h4.monoS l).mono (Wd.le_addF s hp _)
    exact .tup (.inl (.inl upd_same)) (.cons (.str _) (.cons h4' .nil))
theorem wlk_zipL {x : Str} {b : Addr} {vs : List V} {ys : List T} (hs : ∀ (W' : Wd) (S' : Store) (H' : Hp), W.sub W' → Sim G W' S' H' → SqL G.K H' b vs) (r : Paired (RepV G W) vs (ys.map .t)) :
    Wlk G W (ItzL G.K x b) ((x.cps.toList.zip ys).map fun p => Val.t (.tup [.str ⟨#[p.1]⟩, p.2]), none) := by
  have lv : vs.length = ys.length := by rw [Paired.length r, List.length_map]
  have lx : x.cps.toList.length = x.cps.size := Array.length_toList
  have lz : ((x.cps.toList.zip ys).map fun p => Val.t (.tup [.str ⟨#[p.1]⟩, p.2])).length = min x.cps.size ys.length := by rw [List.length_map, List.length_zip, lx]
  have at_ : ∀ i, i < min x.cps.size ys.length → ∃ c t y, x.cps[i]? = some c ∧ ys[i]? = some t ∧ vs[i]? = some y ∧ RepV G W y (.t t) ∧ ((x.cps.toList.zip ys).map fun p => Val.t (.tup [.str ⟨#[p.1]⟩, p.2]))[i]? = some (.t (.tup [.str ⟨#[c]⟩, t])) := fun i hi => by
    have h1 : i < x.cps.size := by omega
    have h2 : i < ys.length := by omega
    have e1 : x.cps[i]? = some x.cps[i] := Array.getElem?_eq_getElem h1
    have e1' : x.cps.toList[i]? = some x.cps[i] := by rw [Array.getElem?_toList]; exact e1
    have e2 : ys[i]? = some ys[i] := List.getElem?_eq_getElem h2
    obtain ⟨y, h3, h4⟩ := Paired.get (i := i) (y := Val.t ys[i]) r (by rw [List.getElem?_map, e2]; rfl)
    refine ⟨_, _, y, e1, e2, h3, h4, ?_⟩
    have ez : (x.cps.toList.zip ys)[i]? = some (x.cps[i], ys[i]) := by
      rw [List.getElem?_zip_eq_some]
      exact ⟨e1', e2⟩
    rw [List.getElem?_map, ez]
    rfl
  constructor
  · intro W' S' H' i hi l s _
    rw [lz] at hi
    obtain ⟨c, t, y, h1, h2, h3, h4, h5⟩ := at_ i hi
    exact ⟨vs, y, c, hs W' S' H' l s, h1, h3⟩
  · intro W' S' H' l s _
    rw [lz]
    exact ⟨vs, hs W' S' H' l s, by omega, by omega, by omega⟩
  · intro W' S' H' i v H2 hi l s _ y
    rw [lz] at hi
    obtain ⟨c, t, z, h1, h2, h3, h4, h5⟩ := at_ i hi
    obtain ⟨p, z', c', rfl, hp, rfl, g1, g2⟩ := y
    rw [h1] at g1
    cases g1
    have g := g2 vs (hs W' S' H' l s)
    rw [h3] at g
    cases g
    refine ⟨W'.addF p (.tup [.str ⟨#[c]⟩, z]), _, Wd.le_addF s hp _, s.addF hp _, h5, ?_⟩
    have h4' : Rep G (W'.addF p (.tup [.str ⟨#[c]⟩, z])).F z t := (h4.monoS l).mono (Wd.le_addF s hp _)
    exact .tup (.inl (.inl upd_same)) (.cons (.str _) (.cons h4' .nil))
theorem wlk_enum {a : Addr} {vs : List V} {ys : List T} (hs : ∀ (W' : Wd) (S' : Store) (H' : Hp), W.sub W' → Sim G W' S' H' → SqL G.K H' a vs) (r : Paired (RepV G W) vs (ys.map .t)) :
    Wlk G W (Ite G.K a) (ys.zipIdx.map fun p => Val.t (.tup [.int (p.2 : Nat), p.1]), none) := by
  have lv : vs.length = ys.length := by rw [Paired.length r, List.length_map]
  have lz : (ys.zipIdx.map fun p => Val.t (.tup [.int (p.2 : Nat), p.1])).length = ys.length := by rw [List.length_map, List.length_zipIdx]
  have at_ : ∀ i, i < ys.length → ∃ t y, ys[i]? = some t ∧ vs[i]? = some y ∧ RepV G W y (.t t) ∧ (ys.zipIdx.map fun p => Val.t (.tup [.int (p.2 : Nat), p.1]))[i]? = some (.t (.tup [.int (i : Nat), t])) := fun i h2 => by
    have e2 : ys[i]? = some ys[i] := List.getElem?_eq_getElem h2
    obtain ⟨y, h3, h4⟩ := Paired.get (i := i) (y := Val.t ys[i]) r (by rw [List.getElem?_map, e2]; rfl)
    refine ⟨_, y, e2, h3, h4, ?_⟩
    rw [List.getElem?_map, List.getElem?_zipIdx, e2]
    show some (Val.t (.tup [.int ((0 + i : Nat) : Int), _])) = _
    rw [Nat.zero_add]
  constructor
  · intro W' S' H' i hi l s _
    rw [lz] at hi
    obtain ⟨t, y, h2, h3, h4, h5⟩ := at_ i hi
    exact ⟨vs, y, hs W' S' H' l s, h3⟩
  · intro W' S' H' l s _
    rw [lz]
    exact ⟨vs, hs W' S' H' l s, by omega⟩
  · intro W' S' H' i v H2 hi l s _ y
    rw [lz] at hi
    obtain ⟨t, z, h2, h3, h4, h5⟩ := at_ i hi
    obtain ⟨p, z', rfl, hp, rfl, g2⟩ := y
    have g := g2 vs (hs W' S' H' l s)
    rw [h3] at g
    cases g
    refine ⟨W'.addF p (.tup [.int (i : Nat), z]), _, Wd.le_addF s hp _, s.addF hp _, h5, ?_⟩
    have h4' : Rep G (W'.addF p (.tup [.int (i : Nat), z])).F z t := (h4.monoS l).mono (Wd.le_addF s hp _)
    exact .tup (.inl (.inl upd_same)) (.cons (.int _) (.cons h4' .nil))
theorem wlk_rng {lo hi : Int} : Wlk G W (Itr lo (hi - lo).toNat) (rng lo hi, none) where
  go := fun W' S' H' i hi2 l s _ => walk_range.goes i H' (by rw [rng_len] at hi2; exact hi2) trivial
  stop := fun W' S' H' l s _ => by rw [rng_len]; exact walk_range.stops H' trivial
  yld := fun W' S' H' i x H2 hi2 l s _ y => by
    rw [rng_len] at hi2
    obtain ⟨e, hx⟩ := walk_range.yields i H' x H2 hi2 trivial y
    subst e hx
    exact ⟨W', _, .refl W', s, rng_get hi2, (show Rep G W'.F _ (.int _) from .int _)⟩
theorem alloc_seize {m : Bool} {ws : List Val} {vs : List V} {D : Addr} {Q : VK} (h : PostV G Wx σ W (alloc m ws S) Q) (s : Sim G W S H) (o : Out W S D) (hD : H D = some (.lst vs)) (r : Paired (RepV G W) vs ws) : Q (.ref D) H := by
  unfold alloc at h
  split at h
  · cases m with
    | true =>
      have h : PostV G Wx σ W (.ok (.r S.length) (S ++ [.lst ws])) Q := h
      refine h (W.addC D) (.ref D) H (Wd.le_addC W D) (s.seizeC o hD (.lst r)) ⟨?_, ?_⟩
      · show S.length < W.n + 1
        rw [s.len]
        exact Nat.lt_succ_self _
      · show V.ref D = V.ref (if S.length = W.n then D else _)
        rw [if_pos s.len]
    | false =>
      have h : PostV G Wx σ W (match allT ws with
        | some xs => .ok (.t (.lst xs)) S
        | none => .bad) Q := h
      cases e : allT ws with
      | none => rw [e] at h; exact (show False from h).elim
      | some xs =>
        rw [e] at h
        exact h (W.addF D (.lst vs)) (.ref D) H (le_seizeF o.f o.b _) (s.seizeF o hD) (.lst upd_same (RepL.mono (same_upd o.f) xs vs (allT_rep r e)))
  · exact (show False from h).elim
abbrev noW : WX := fun _ _ _ _ => False
noncomputable abbrev compF (tab : Tab) (call : Call) (env : Env) (many : Bool) (tg : List Nat) (ifs : ICs) (elt : IE) : Val → Store → R (Option Val) := fun v S => match target many tg v (wipeE env tg) S with
  | some env2 => (dAnd tab call ifs env2 S).bind fun k S => if k then (dE tab call elt env2 S).bind fun y S => .ok (some y) S else .ok none S
  | none => .bad
def Turn (G : Gd) (Wx : WX) (call : Call) (σ : L2.St) (env : Env) (W0 : Wd) (m many : Bool) (tg : List Nat) (ifs : ICs) (elt : IE) (its : List Val × Wk) (D : Addr) (Q : VK) (i : Nat) : Hp → Prop := fun H =>
  ∃ (W : Wd) (S : Store) (acc : List Val) (vs : List V), W0.le W ∧ Sim G W S H ∧ Out W S D ∧ H D = some (.lst vs) ∧ Paired (RepV G W) vs acc ∧ EnvRep G W σ env ∧
    PostV G Wx σ W ((compL its.2 (compF G.tab call env many tg ifs elt) (its.1.drop i) acc S).bind fun ys S => alloc m ys S) Q
theorem turn_end {W0 : Wd} {m many : Bool} {tg : List Nat} {ifs : ICs} {elt : IE} {its : List Val × Wk} {D : Addr} {Q : VK} (h : Turn G Wx call σ env W0 m many tg ifs elt its D Q its.1.length H) : Q (.ref D) H := by
  obtain ⟨W, S, acc, vs, l, s, o, hD, r, er, h⟩ := h
  rw [List.drop_length] at h
  rcases Classical.em (okW its.2 S) with hw | hw
  · rw [compL_nil hw] at h
    exact alloc_seize h s o hD r
  · rw [compL_bad hw] at h
    exact (show False from h).elim
theorem turn_ok {W0 : Wd} {m many : Bool} {tg : List Nat} {ifs : ICs} {elt : IE} {its : List Val × Wk} {D : Addr} {Q : VK} {i : Nat} (h : Turn G Wx call σ env W0 m many tg ifs elt its D Q i H) : ∃ W' S', W0.sub W' ∧ Sim G W' S' H ∧ okW its.2 S' := by
  obtain ⟨W, S, acc, vs, l, s, o, hD, r, er, h⟩ := h
  refine ⟨W, S, l.sub, s, Classical.byContradiction fun hw => ?_⟩
  rw [compL_bad hw] at h
  exact (show False from h).elim
theorem turn_step {W0 W9 : Wd} {m many : Bool} {tg : List Nat} {ifs : ICs} {elt : IE} {its : List Val × Wk} {D : Addr} {Q : VK} {J : It} {i : Nat} {x : V} {H2 : Hp} (wl : Wlk G W0 J its) (hi : i < its.1.length) (h : Turn G Wx call σ env W0 m many tg ifs elt its D Q i H) (y : J.yld i H x H2) :
    tTg G many tg x (L2.wipe σ tg) H2 fun σ2 H2 => L2.wipe σ2 tg = L2.wipe σ tg ∧ Den G (fun _ (b k : Bool) => b = k) noW (dAnd G.tab call ifs) σ2 H2 fun b H3 =>
      if b = true then Den G (RepV G) noW (dE G.tab call elt) σ2 H3 fun y H4 => ∃ acc, H4 D = some (.lst acc) ∧ acc.length < sizeLine ∧ Turn G Wx call σ env W0 m many tg ifs elt its D Q (i + 1) (upd H4 D (.lst (acc ++ [y]))) else Turn G Wx call σ env W0 m many tg ifs elt its D Q (i + 1) H3 := by
  obtain ⟨W, S, acc, vs, l, s, o, hD, r, er, h⟩ := h
  have hw : okW its.2 S := Classical.byContradiction fun hw => by
    rw [compL_bad hw] at h
    exact (show False from h).elim
  obtain ⟨W2, v, l2, s2, hv, rv⟩ := wl.yld (W.pin D (.lst vs)) S H i x H2 hi ⟨l.f, l.n, l.at_⟩ (s.pin o hD) hw y
  have ev : its.1[i] = v := (List.getElem?_eq_some_iff.mp hv).2
  rw [List.drop_eq_getElem_cons hi, ev] at h
  rw [compL_cons hw] at h
  unfold compF at h
  cases e : target many tg v (wipeE env tg) S with
  | none => rw [e] at h; exact (show False from h).elim
  | some env2 =>
    rw [e] at h
    have wip : ∀ σ : L2.St, L2.wipe (L2.wipe σ tg) tg = L2.wipe σ tg := fun σ => wipe_wipe σ tg
    have er2 : EnvRep G W2 (L2.wipe σ tg) (wipeE env tg) := (EnvRep.mono l2 (er.pinned)).wipe tg
    refine ⟨W2, S, _, env2, v, s2, er2, rv, e, fun σ2 er3 w2 => ⟨w2.trans (wip σ), W2, env2, S, s2, er3, ?_⟩⟩
    have h : PostV G Wx σ W ((((dAnd G.tab call ifs env2 S).bind fun k S => if k then (dE G.tab call elt env2 S).bind fun y S => .ok (some y) S else .ok none S).nob fun o S1 => match o with
      | some y => if acc.length < szLine then compL its.2 (compF G.tab call env many tg ifs elt) (its.1.drop (i + 1)) (acc ++ [y]) S1 else .bad
      | none => compL its.2 (compF G.tab call env many tg ifs elt) (its.1.drop (i + 1)) acc S1).bind fun ys S => alloc m ys S) Q := h
    cases e2 : dAnd G.tab call ifs env2 S with
    | bad => rw [e2] at h; exact h
    | ex _ _ => rw [e2] at h; exact h.elim
    | ok b S2 =>
      rw [e2] at h
      intro W3 b' H3 l3 s3 eb
      have eb : b' = b := eb
      subst eb
      cases b' with
      | false =>
        have h : PostV G Wx σ W ((compL its.2 (compF G.tab call env many tg ifs elt) (its.1.drop (i + 1)) acc S2).bind fun ys S => alloc m ys S) Q := h
        have l23 := l2.trans l3
        obtain ⟨u1, u2, u3⟩ := unpin_sim o.f o.b l23 s3
        have ul := unpin_le o.f l23
        exact iteF ⟨_, S2, acc, vs, l.trans ul, u1, u2, u3, RepVs.mono ul r, er.mono ul, h.mono ul⟩
      | true =>
        refine iteT ⟨W3, env2, S2, s3, er3.mono l3, ?_⟩
        have h : PostV G Wx σ W ((((dE G.tab call elt env2 S2).bind fun y S => .ok (some y) S).nob fun o S1 => match o with
          | some y => if acc.length < szLine then compL its.2 (compF G.tab call env many tg ifs elt) (its.1.drop (i + 1)) (acc ++ [y]) S1 else .bad
          | none => compL its.2 (compF G.tab call env many tg ifs elt) (its.1.drop (i + 1)) acc S1).bind fun ys S => alloc m ys S) Q := h
        cases e3 : dE G.tab call elt env2 S2 with
        | bad => rw [e3] at h; exact h
        | ex _ _ => rw [e3] at h; exact h.elim
        | ok y3 S3 =>
          rw [e3] at h
          have h : PostV G Wx σ W ((if acc.length < szLine then compL its.2 (compF G.tab call env many tg ifs elt) (its.1.drop (i + 1)) (acc ++ [y3]) S3 else .bad).bind fun ys S => alloc m ys S) Q := h
          split at h
          · rename_i c
            intro W4 y' H4 l4 s4 r4
            have l24 := (l2.trans l3).trans l4
            obtain ⟨u1, u2, u3⟩ := unpin_sim o.f o.b l24 s4
            have ul := unpin_le o.f l24
            exact ⟨vs, u3, by rw [Paired.length r]; exact c, _, S3, acc ++ [y3], vs ++ [y'], l.trans ul, u1.upd_out u2 _, u2, upd_same, Paired.app' (.cons r4.unpinned .nil) (RepVs.mono ul r), er.mono ul, h.mono ul⟩
          · exact h.elim
abbrev iSrc (G : Gd) (Wx : WX) (call : Call) (kk : ItK) (src : IEs) : TI := Den G (fun W J its => Wlk G W J its) Wx (fun env S => (dEs G.tab call src env S).bind fun vs S => items kk vs S)
theorem lc_post {m many : Bool} {kk : ItK} {src : IEs} {tg : List Nat} {ifs : ICs} {elt : IE} {Q : VK} (h : Den G (RepV G) Wx (dE G.tab call (.comp m kk src many tg ifs elt)) σ H Q) :
    tLc (iSrc G Wx call kk src) (tTg G many tg) (Den G (fun _ (b k : Bool) => b = k) noW (dAnd G.tab call ifs)) (Den G (RepV G) noW (dE G.tab call elt)) tg σ H Q := by
  obtain ⟨W, env, S, sm, er, q⟩ := h
  have q : PostV G Wx σ W ((dEs G.tab call src env S).bind fun vs S => (items kk vs S).bind fun its S => (compL its.2 (compF G.tab call env many tg ifs elt) its.1 [] S).bind fun ys S => alloc m ys S) Q := q
  have as : ∀ {α β γ : Type} (m : R α) (f : α → Store → R β) (g : β → Store → R γ), (m.bind fun a S => (f a S).bind g) = (m.bind f).bind g := fun m f g => by cases m <;> rfl
  rw [as (dEs G.tab call src env S) (fun vs S => items kk vs S)] at q
  refine Den.step (f := fun env S => (dEs G.tab call src env S).bind fun vs S => items kk vs S) q sm er fun its S1 W1 J H1 e1 l1 s1 n1 wl p1 D hD => ?_
  refine lc_it (G := fun H' => ∃ W' S', W1.sub W' ∧ Sim G W' S' H' ∧ okW its.2 S') (Y := fun i H' x H2 => J.yld i H' x H2) ⟨fun i H' hi ⟨W', S', l, s, w⟩ => wl.go W' S' H' i hi l s w, fun H' ⟨W', S', l, s, w⟩ => wl.stop W' S' H' l s w, fun i H' x H2 hi _ y => y⟩
    (fun i => Turn G Wx call σ env W1 m many tg ifs elt its D Q i) ?_ (fun i H' hi t => turn_ok t) (fun i x H' H2 hi t y => turn_step (W9 := W1) wl hi t y) fun H' t => turn_end t
  exact ⟨W1, S1, [], [], .refl W1, s1.upd_new hD _, s1.out hD, upd_same, .nil, n1, p1⟩
end
section
variable {G : Gd} {X : Cx} {Wx : WX} {call : Call} {W : Wd} {S : Store} {H : Hp} {σ : L2.St} {env : Env}
theorem nodupK_ok : ∀ {ks : List Key}, nodupK ks = true → ks.Nodup
  | [], _ => List.nodup_nil
  | k :: ks, h => by
    obtain ⟨h1, h2⟩ := ba (show (!ks.any (fun j => keyEq j k) && nodupK ks) = true from h)
    refine List.nodup_cons.mpr ⟨fun hm => ?_, nodupK_ok h2⟩
    have e : ks.any (fun j => keyEq j k) = true := List.any_eq_true.mpr ⟨k, hm, by rw [keyEq_eq]; exact decide_eq_true rfl⟩
    rw [e] at h1
    cases h1
theorem valV_none : ∀ {kvs : List (Key × V)} {k : Key}, (∀ p ∈ kvs, p.1 ≠ k) → valV kvs k = none
  | [], _, _ => rfl
  | p :: r, k, h => by
    rw [valV_neg (h p List.mem_cons_self)]
    exact valV_none fun q hq => h q (List.mem_cons_of_mem _ hq)
theorem mergeK_new : ∀ (kvs acc : List (Key × V)), (kvs.map (·.1)).Nodup → (∀ p ∈ kvs, ∀ q ∈ acc, q.1 ≠ p.1) → mergeK acc kvs = acc ++ kvs
  | [], acc, _, _ => by
    rw [List.append_nil]
    rfl
  | p :: r, acc, hn, hd => by
    rw [List.map_cons] at hn
    obtain ⟨n1, n2⟩ := List.nodup_cons.mp hn
    show mergeK (putK acc p.1 p.2) r = _
    rw [putK_new p.2 (valV_none (hd p List.mem_cons_self)), mergeK_new r (acc ++ [(p.1, p.2)]) n2 fun q hq u hu => ?_, List.append_assoc]
    · rfl
    · rcases List.mem_append.mp hu with h | h
      · exact hd q (List.mem_cons_of_mem _ hq) u h
      · rw [List.mem_singleton] at h
        subst h
        exact fun z => n1 (List.mem_map.mpr ⟨q, hq, z.symm⟩)
theorem mergeK_nil {kvs : List (Key × V)} (h : (kvs.map (·.1)).Nodup) : mergeK [] kvs = kvs := by
  rw [mergeK_new kvs [] h fun _ _ _ hq => absurd hq List.not_mem_nil]
  rfl
theorem zip_rel : ∀ {ks : List Key} {xs : List V} {vs : List Val}, Paired (RepV G W) xs vs → Paired (DR G W) (ks.zip xs) (ks.zip vs)
  | [], _, _, _ => .nil
  | _ :: _, _, _, .nil => .nil
  | _ :: _, _, _, .cons r t => .cons ⟨rfl, r⟩ (zip_rel t)
theorem zip_repD {F : Hp} : ∀ {ks : List Key} {xs : List V} {ts : List T}, RepL G F xs ts → RepD G F (ks.zip xs) (ks.zip ts)
  | [], _, _, _ => .nil
  | _ :: _, _, _, .nil => .nil
  | _ :: _, _, _, .cons r t => .cons r (zip_repD t)
theorem zip_keys : ∀ {ks : List Key} {xs : List V}, ks.length = xs.length → (ks.zip xs).map (·.1) = ks
  | [], [], _ => rfl
  | k :: ks, x :: xs, h => by
    rw [List.zip_cons_cons, List.map_cons, zip_keys (Nat.succ.inj h)]
  | [], _ :: _, h => by cases h
  | _ :: _, [], h => by cases h
noncomputable def trsOf (G : Gd) (Wx : WX) (call : Call) : List Key → IEs → List (TE × TE)
  | k :: ks, .cons e es => (tC (kV k), Den G (RepV G) Wx (dE G.tab call e)) :: trsOf G Wx call ks es
  | _, _ => []
theorem pairs_post : ∀ (ks : List Key) (es : IEs) {W : Wd} {S : Store} {H : Hp} {vs : List Val} {S' : Store} {K : List (V × V) → Hp → Prop}, ks.length = es.len → Sim G W S H → EnvRep G W σ env → dEs G.tab call es env S = .ok vs S' →
    (∀ (W' : Wd) (H' : Hp) (xs : List V), W.le W' → Sim G W' S' H' → Paired (RepV G W') xs vs → xs.length = ks.length → K ((ks.zip xs).map fun p => (kV p.1, p.2)) H') → tPairs (trsOf G Wx call ks es) σ H K
  | [], .nil, W, S, H, vs, S', K, _, sm, er, h, q => by
    cases h
    exact q W H [] (.refl W) sm .nil rfl
  | k :: ks, .cons e es, W, S, H, vs, S', K, hl, sm, er, h, q => by
    have h : (dE G.tab call e env S).bind (fun v S => (dEs G.tab call es env S).bind fun vs S => .ok (v :: vs) S) = .ok vs S' := h
    show Den G (RepV G) Wx (dE G.tab call e) σ H fun y H2 => tPairs (trsOf G Wx call ks es) σ H2 fun ps H3 => K ((kV k, y) :: ps) H3
    refine ⟨W, env, S, sm, er, ?_⟩
    cases e1 : dE G.tab call e env S with
    | bad => rw [e1] at h; cases h
    | ex _ _ => rw [e1] at h; cases h
    | ok v S1 =>
      rw [e1] at h
      have h : (dEs G.tab call es env S1).bind (fun vs S => .ok (v :: vs) S) = .ok vs S' := h
      cases e2 : dEs G.tab call es env S1 with
      | bad => rw [e2] at h; cases h
      | ex _ _ => rw [e2] at h; cases h
      | ok vs2 S2 =>
        rw [e2] at h
        cases h
        intro W1 y H1 l1 s1 r1
        refine pairs_post ks es (Nat.succ.inj hl) s1 (er.mono l1) e2 fun W2 H2 xs l2 s2 r2 hx => ?_
        exact q W2 H2 (y :: xs) (l1.trans l2) s2 (.cons (r1.mono l2) r2) (by rw [List.length_cons, List.length_cons, hx])
  | [], .cons _ _, _, _, _, _, _, _, hl, _, _, _, _ => by cases hl
  | _ :: _, .nil, _, _, _, _, _, _, hl, _, _, _, _ => by cases hl
theorem dct_seize {m : Bool} {ks : List Key} {ws : List Val} {xs : List V} {D : Addr} {Q : VK} (h : PostV G Wx σ W (dctV m ks ws S) Q) (s : Sim G W S H) (o : Out W S D) (hD : H D = some (.dK (ks.zip xs))) (r : Paired (RepV G W) xs ws) : Q (.ref D) H := by
  unfold dctV at h
  cases m with
  | true =>
    have h : PostV G Wx σ W (.ok (.r S.length) (S ++ [.dct (ks.zip ws)])) Q := h
    refine h (W.addC D) (.ref D) H (Wd.le_addC W D) (s.seizeC o hD (.dct (zip_rel r))) ⟨?_, ?_⟩
    · show S.length < W.n + 1
      rw [s.len]
      exact Nat.lt_succ_self _
    · show V.ref D = V.ref (if S.length = W.n then D else _)
      rw [if_pos s.len]
  | false =>
    have h : PostV G Wx σ W (match allT ws with
      | some xs => .ok (.t (.dct (ks.zip xs))) S
      | none => .bad) Q := h
    cases e : allT ws with
    | none => rw [e] at h; exact (show False from h).elim
    | some ts =>
      rw [e] at h
      exact h (W.addF D (.dK (ks.zip xs))) (.ref D) H (le_seizeF o.f o.b _) (s.seizeF o hD) (.dct upd_same (RepD.mono (same_upd o.f) _ _ (zip_repD (allT_rep r e))))
theorem disp_post {m : Bool} {ks : List Key} {es : IEs} {Q : VK} (hl : ks.length = es.len) (hn : nodupK ks = true) (h15 : ks.length ≤ 15) (h : Den G (RepV G) Wx (dE G.tab call (.dctD m ks es)) σ H Q) : tDisp (trsOf G Wx call ks es) σ H Q := by
  obtain ⟨W, env, S, sm, er, q⟩ := h
  have q : PostV G Wx σ W ((dEs G.tab call es env S).nob fun vs S => dctV m ks vs S) Q := q
  intro p hp
  cases e : dEs G.tab call es env S with
  | bad => rw [e] at q; exact (show False from q).elim
  | ex _ _ => rw [e] at q; exact (show False from q).elim
  | ok vs S1 =>
    rw [e] at q
    have q : PostV G Wx σ W (dctV m ks vs S1) Q := q
    have o := sm.out hp
    have s0 := (sm.upd_new hp (.dK [])).pin (o := .dK []) o upd_same
    refine pairs_post ks es hl s0 er.pinned e fun W' H' xs l s1 r hx => ?_
    obtain ⟨u1, u2, u3⟩ := unpin_sim o.f o.b l s1
    have ul := unpin_le o.f l
    have hk : mergeK [] (ks.zip xs) = ks.zip xs := mergeK_nil (by rw [zip_keys hx.symm]; exact nodupK_ok hn)
    refine ⟨u3, ks.zip xs, rfl, by rw [List.length_zip, hx, Nat.min_self]; exact h15, ?_⟩
    rw [hk]
    have r2 : Paired (RepV G (W'.unpin W.B)) xs vs := Paired.mono (fun _ _ r => r.unpinned) r
    exact dct_seize (q.mono ul) (u1.upd_out u2 _) u2 upd_same r2
theorem repD_rel : ∀ {gs : List (Key × V)} {fs : List (Key × T)}, RepD G W.F gs fs → Paired (DR G W) gs (fs.map fun p => (p.1, Val.t p.2))
  | _, _, .nil => .nil
  | _, _, .cons r t => .cons ⟨rfl, r⟩ (repD_rel t)
def rUpd : V → List V → Hp → VK → Prop := fun x ys H Q => ∃ a b kvs more, x = .ref a ∧ ys = [.ref b] ∧ a ≠ b ∧ H a = some (.dK kvs) ∧ H b = some (.dK more) ∧ kvs.length + more.length ≤ sizeLine ∧ Q .non (upd H a (.dK (mergeK kvs more)))
theorem mt_update {X : Cx} : MtR X "dict.update" rUpd := by
  intro pins s σ H x xs v us Q I rx rs h
  obtain ⟨a, b, kvs, more, rfl, rfl, hne, ha, hb, hz, q⟩ := h
  cases rx
  obtain ⟨u, rfl, ru⟩ := Vals.one rs
  cases ru
  obtain ⟨z1, d1, vs1, rel1, dd1⟩ := dk_of I.hok ha
  obtain ⟨z2, d2, vs2, rel2, dd2⟩ := dk_of I.hok hb
  refine PySem.call_meetsIn PySem.F.slot_dict_update dd1.typeIs PySem.F.entry_dict_update (PySem.F.args_dict_update_2 _ _) (PySem.meets_dict_update (mixKind X.prog X.w) a b hne d2) ⟨vs1, vs2, dd1, dd2, by rw [← rel1.length, ← rel2.length]; exact hz, fun h' dd' _ hs => ?_⟩
  have he : ∃ q, h'.get? a = some q := let ⟨q, _, _, hq, _⟩ := dd'; ⟨q, hq⟩
  have hl : (mergeK kvs more).length ≤ sizeLine := Nat.le_trans (length_mergeK more kvs) hz
  exact ⟨.non, _, d_write (t' := s.toks) I (by rw [ha]; exact True.intro) hs he (dk_new hl d1 (rel2.merge rel1) dd'), rfl, q⟩
theorem upd_any {n : Nat} {p : Addr} {b : Val} {z : V} {Q : VK} (h : PostV G Wx σ W (updV (.r n) b S) Q) (s : Sim G W S H) (rx : n < W.n ∧ V.ref p = .ref (W.at_ n)) (ry : RepV G W z b) : rUpd (.ref p) [z] H Q := by
  obtain ⟨hn, ex⟩ := rx
  cases ex
  have h : PostV G Wx σ W (match S[n]? with
    | some (.dct kvs) => if sameR (.r n) b then .bad else (match dctOf S b with
      | some more => if kvs.length + more.length < 1000 then .ok (.t .non) (S.set n (.dct (mergeKV kvs more))) else .bad
      | none => .bad)
    | _ => .bad) Q := h
  split at h
  · rename_i kvs hc
    obtain ⟨gs, ho, hp⟩ := cell_dct s hc
    split at h
    · exact (show False from h).elim
    · rename_i hsame
      split at h
      · rename_i more hm
        split at h
        · rename_i hl
          have fin : ∀ {ad : Addr} {ms : List (Key × V)}, z = .ref ad → W.at_ n ≠ ad → H ad = some (.dK ms) → Paired (DR G W) ms more → rUpd (.ref (W.at_ n)) [z] H Q := fun {ad ms} ez hne hb hp2 => by
            subst ez
            refine ⟨_, ad, gs, ms, rfl, rfl, hne, ho, hb, ?_, h W .non _ (.refl W) (s.setC hc (by intro z; cases z) (.dct (mergeKV_rel hp2 hp))) (show Rep G W.F .non .non from .non)⟩
            rw [Paired.length hp, Paired.length hp2]
            exact Nat.le_of_lt (Nat.lt_trans hl line1000)
          cases b with
          | r m =>
            obtain ⟨hm1, ez⟩ := ry
            have hm : (match S[m]? with
              | some (.dct kvs) => some kvs
              | _ => none) = some more := hm
            split at hm
            · rename_i kv2 hc2
              cases hm
              obtain ⟨ms, ho2, hp2⟩ := cell_dct s hc2
              refine fin ez (fun e => ?_) ho2 hp2
              have := s.inj n m _ _ hc hc2 (by intro z; cases z) (by intro z; cases z) e
              subst this
              exact hsame (show (n == n) = true from beq_self_eq_true n)
            · cases hm
          | t t =>
            cases t with
            | dct fs =>
              cases hm
              cases ry with
              | dct hF r =>
                refine fin rfl (fun e => ?_) (s.fz _ _ hF) (repD_rel r)
                obtain ⟨f0, _⟩ := s.live n _ hc (by intro z; cases z)
                rw [e, hF] at f0
                cases f0
            | _ => cases hm
        · exact (show False from h).elim
      · exact (show False from h).elim
  · exact (show False from h).elim
end
end Rw
namespace Rw
open PySem PySem.Spec PyProof.Rows L2
theorem pe_oinit {X : Cx} {x : Str} {C0 : Addr} {mc : Value} {ta : TA} {e : Expr} {es : List Expr} {p1 p2 pos : Pos} {pl : Sem Bool} (hg : Gl X x) (hm : X.mg x = some (.ref C0)) (r : ClX.CRead X.K C0 mc) (vV : PySem.W.findCls X.K (.ref C0) mc "__init__" = some (.val (.builtin "ValueError.__init__"))) (ha : PA X (e :: es) ta)
    (hdb : (x == ("__debug__" : Str)) = false)
    (hc : eval (.Call (.Attribute (.Name x p1) "__init__" p2) (e :: es) [] pos) X.env = (do
      let ov ← eval (.Name x p1) X.env
      standAt p2.atName
      let (f, first) ← holding [ov] (getMethod ov "__init__" pl)
      callWith pos f first (backTo pos (starEach (e :: es) X.env)) (backToKw pos (keywordEach [] X.env))) := by rfl)
    (he : starEach (e :: es) X.env = (false, eval e X.env) :: starEach es X.env := by rfl) (hpl : (backTo pos (starEach es X.env)).any (·.1) = false := by rfl) :
    PE X (.Call (.Attribute (.Name x p1) "__init__" p2) (e :: es) [] pos) (tVeI X.K ta) := by
  refine ⟨fun pins s σ H Q I h => ?_⟩
  refine PySem.W.methodCall_KW (ld_glob I hg hm ?_ hdb) hc
  refine PySem.W.method_cls I.kIn r.ga (PySem.W.cls_value I.kIn r.rd vV (by decide +kernel) ?_)
  show wpAny _ _ (callWith pos (Value.builtin "ValueError.__init__") [] (backTo pos (starEach (e :: es) X.env)) []) _ _ _
  refine PyProof.Rows.callWith_method1 (thn (ha.run pos pins _ σ H _ (I.tok _) h) fun us s1 ⟨vs, H1, I1, r1, a, C, ws, ev, hl, T, ea, q⟩ => ?_) he hpl
  subst ev
  cases r1 with
  | @cons _ u0 _ ur ra rw' =>
    obtain rfl : u0 = Value.ref a := ra
    have hlen : ur.length ≤ sizeLine := by
      rw [← Paired.length rw', sizeLine_eq]
      omega
    exact oinit_ok T I1 ea hlen fun s' J => ⟨.non, H1, J, rfl, q⟩
def oexB (K : PySem.W.Frag) (C : Addr) : Bool := match K.lookup C with
  | some ⟨.type "type", _, .cls cd, sl⟩ => (match cd.mro, sl.toList with
    | .ref C' :: bm, [_, _, _, _, some (.builtin n), _] => C' == C && n == "ValueError.__new__" && !cd.hasDel && cd.hasDict && PySem.HandSPX.refsVE bm
    | _, _ => false)
  | _ => false
theorem oexB_ok {K : PySem.W.Frag} {C : Addr} (q : oexB K C = true) : ∃ nm q N bs bm sn sub ab col dd k0 k1 k2 k3 k5, K.lookup C = some (excClassObj nm q C N bs bm true sn sub ab col dd k0 k1 k2 k3 k5 "ValueError.__new__") ∧ PySem.HandSPX.refsVE bm = true := by
  unfold oexB at q
  split at q
  · rename_i dd cd sl ho
    split at q
    · rename_i C' bm k0 k1 k2 k3 n k5 hm hs
      simp only [Bool.and_eq_true, beq_iff_eq, Bool.not_eq_true'] at q
      obtain ⟨⟨⟨⟨rfl, rfl⟩, hdel⟩, hdi⟩, ht⟩ := q
      obtain ⟨nm, bs, mro, ns, qn, hd, sn, sub, ab, col, del⟩ := cd
      dsimp only at hm hdel hdi
      subst hm hdel hdi
      have hsl : sl = #[k0, k1, k2, k3, some (.builtin "ValueError.__new__"), k5] := by
        obtain ⟨l⟩ := sl
        simp only at hs
        rw [hs]
      subst hsl
      exact ⟨_, _, _, _, _, _, _, _, _, _, _, _, _, _, _, ho, ht⟩
    · cases q
  · cases q
def spI (C : Addr) (f : Str) : Sp := fun vs H Q E => ∃ (a : Addr) (i : Int), vs = [.ref a, .int i] ∧ i.natAbs < 100000000000000000000 ∧ H a = some (exo a C none) ∧ ∀ d, H d = none → d ≠ a → Q .non (upd (upd H d (exd d [(f, .int i)])) a (exo a C (some d)))
theorem init_ok {CX : CXT} {P : Program} {w : World} {K : PySem.W.Frag} {mg : Str → Option Value} {base : Heap} {N ps : List Str} {k : Nat} {x qual : Str} {params : Arguments} {body : List Stmt} {scope : Scope} {fd : FuncData} {fI C C0 : Addr} {mc : Value} {b s a f : Str}
    (F : FunD K x qual params body scope [] [] fI fd) (S : FnScope N ps scope) (hb : initP body = some (b, s, a, f)) (h0 : N[0]? = some s) (h1 : N[1]? = some a) (hps : ps.length = 2) (v0 : visB scope s = true) (v1 : visB scope a = true) (o0 : okN s = true) (o1 : okN a = true) (ob : okN b = true) (gb : glB scope b = true) (gs : glB scope "str" = true)
    (mb : mg b = some (.ref C0)) (ms : mg "str" = none) (r : ClX.CRead K C0 mc) (vV : PySem.W.findCls K (.ref C0) mc "__init__" = some (.val (.builtin "ValueError.__init__"))) (T : OexC K C) (hno : PySem.W.findIn K (.ref C) f = some none) : FnOk P w K mg base CX (k + 1) fI fd ps (spI C f) := by
  obtain ⟨p1, p2, p3, pre, j, p4, p5, p6, p7, p8, p9, q1, q2, q3, q4, q5, ⟨hpre, hline⟩, rfl⟩ := initP_ok hb
  refine F.ok (CX := CX) (N := N) (k := k) S (fun vs H Q E ⟨a, i, e, _⟩ => by rw [e, hps]; rfl) fun cdv A outer sh H vs Q E hr hsp => ?_
  obtain ⟨ad, i, rfl, hi, hH, hq⟩ := hsp
  have V0 : ∀ p, PE (cxOf CX P w K mg base N qual scope fI cdv A outer sh H E) (.Name s p) (tVar 0) := fun p => pe_var h0 (visB_ok v0) (okN_1 o0) (okN_2 o0)
  have V1 : ∀ p, PE (cxOf CX P w K mg base N qual scope fI cdv A outer sh H E) (.Name a p) (tVar 1) := fun p => pe_var h1 (visB_ok v1) (okN_1 o1) (okN_2 o1)
  have St := pe_callTy (X := cxOf CX P w K mg base N qual scope fI cdv A outer sh H E) (e := .Name a p6) (es := []) (p := p5) (pos := p7) (x := "str") call_str_int (glB_ok gs) ms (by decide +kernel) (pa_cons (V1 p6) pa_nil)
  have E2 := pe_op (pos := p8) op_add_str (pe_str (x := pre) (j := j) (pos := p4)) St
  refine ⟨_, pss_cons (ps_expr (pe_oinit (glB_ok gb) mb r vV (pa_cons (V0 p3) (pa_cons E2 pa_nil)) (okN_1 ob) (meth_ht rfl rfl (by show 2 < 30; decide) hline))) (pss_cons (ps_ost (V0 q2) (V1 q4)) pss_nil), ?_⟩
  have hl : (Str.ofString (toString i)).length ≤ 21 := by
    rw [PySem.ofString_length]
    exact int_text_length_le10 (k := 20) (by decide) hi
  have hlog : i.natAbs.log2 < 1920 := by
    by_cases z : i.natAbs = 0
    · rw [z]
      decide
    · rw [Nat.log2_lt z]
      have h1 : (100000000000000000000 : Nat) ≤ 2 ^ 67 := by decide
      have h2 : (2 : Nat) ^ 67 ≤ 2 ^ 1920 := Nat.pow_le_pow_right (by decide) (by decide)
      exact Nat.lt_of_lt_of_le hi (Nat.le_trans h1 h2)
  refine ⟨.ref ad, rfl, .int i, rfl, i, rfl, hlog, pre, _, rfl, rfl, ?_, ad, C, _, rfl, by show 1 ≤ 1000; decide, T, hH, .int i, rfl, .ref ad, rfl, ad, C, rfl, T, hno, .inl ⟨hH, fun dx n ne => hq dx n ne⟩⟩
  show pre.length + (Str.ofString (toString i)).length ≤ sizeLine
  rw [sizeLine_eq]
  omega
end Rw
namespace Rw
open PySem PySem.Spec PyProof.Rows L2
def XvAt (H : Hp) (a D : Addr) (fs : List (Str × V)) : Prop := (fs = [] ∧ H a = some (ExO (.ref D) a)) ∨ ∃ d, H a = some (exo a D (some d)) ∧ H d = some (exd d fs)
section
variable {X : Cx} {pins : List (Addr × Obj)} {σ : L2.St} {H : Hp} {s : Shared} {a D : Addr} {fs : List (Str × V)}
theorem inst_v (I : Inv X pins σ H s) (h : XvAt H a D fs) : ∃ oe o, PySem.W.InstAt s.heap a oe D o := by
  rcases h with ⟨_, h⟩ | ⟨d, h, hd⟩
  · obtain ⟨⟨oe, vs, hg, hz, hv, _⟩, _⟩ := I.hok a _ h
    obtain ⟨oc, od', oda, osl⟩ := oe
    obtain ⟨h1, h2⟩ := hz
    dsimp only at h1 h2 hv
    subst h1 h2 hv
    exact ⟨_, none, hg, rfl, rfl, trivial⟩
  · obtain ⟨t1, hg⟩ := exo_at I.hok h
    obtain ⟨mA, hns, hr⟩ := exd_at I.hok hd
    obtain ⟨o, es, ep, ho, _⟩ := hns
    exact ⟨_, some o, hg, rfl, rfl, ho⟩
end
def rIsX (K : PySem.W.Frag) : List V → Hp → VK → Prop := fun xs H Q => ∃ (a D : Addr) (fs : List (Str × V)) (c : V) (cv : Value) (b : Bool), xs = [.ref a, c] ∧ XvAt H a D fs ∧ ExcC K D ∧ (∀ u, RelV c u → u = cv) ∧ PySem.W.kitOne K (.ref D) cv = some b ∧ Q (.bl b) H
theorem is_x {X : Cx} : CallR X (.builtin "isinstance") (rIsX X.K) := by
  intro pins s σ H xs us Q I r h
  obtain ⟨a, D, fs, c, cv, b, rfl, hx, C, hcv, e, q⟩ := h
  obtain ⟨u1, u2, rfl, r1, r2⟩ := vals2 r
  cases (show u1 = Value.ref a from r1)
  cases hcv _ r2
  obtain ⟨oe, o, J⟩ := inst_v I hx
  exact PySem.W.kia_one (PySem.W.kitx_exc (by obtain ⟨cd, hc, _⟩ := PySem.W.any_some C.hd; rw [hc]; rfl) C.hg C.hk C.hs C.ha C.hn C.ht C.hm) I.kIn J e (fun z => nomatch z) fun tk => ⟨.bl b, H, I.kept (t' := tk) fun _ _ z => z, rfl, q⟩
theorem pe_xv {X : Cx} {e : Expr} {te : TE} {pos : Pos} {n : Str} (he : PE X e te) (hb : attributeBase e n X.env (eval e X.env) = eval e X.env) :
    PE X (.Attribute e n pos) (fun σ H Q => te σ H fun x H1 => ∃ (a C d : Addr) (fs : List (Str × V)) (v : V), x = .ref a ∧ XfC X.K C ∧ PySem.W.findIn X.K (.ref C) n = some none ∧ H1 a = some (exo a C (some d)) ∧ H1 d = some (exd d fs) ∧ fs.lookup n = some v ∧ Q v H1) := by
  refine ⟨fun pins s σ H Q I h => ?_⟩
  refine attr_of hb (thn (he.run pins s σ H _ I h) fun u s1 hh => ?_)
  obtain ⟨x, H1, I1, rx, a, C, d, fs, v, ex, T, hno, ha, hd, l, q⟩ := hh
  subst ex
  obtain rfl : u = Value.ref a := rx
  obtain ⟨t1, hg⟩ := exo_at I1.hok ha
  obtain ⟨mA, hns, hr⟩ := exd_at I1.hok hd
  obtain ⟨od, ho, hl⟩ := lookIn_ns hns
  obtain ⟨u, hu, ru⟩ := RelO.some_of (v := v) (o := mA n) (by rw [← l]; exact hr n)
  have J : PySem.W.InstAt s1.heap a { cls := .ref C, dict := some d, data := .fields #[.ref t1, .none, .none, .none, .bool false, .none] } C (some od) := ⟨hg, rfl, rfl, ho⟩
  exact HandSPX.exc_get I1.kIn J T.ga T.gg T.exC (PySem.W.findObj_own T.hdC hno rfl (by rw [hl, hu])) (handed_of ru) ⟨v, H1, I1.tok _, ru, q⟩
theorem pe_oex {X : Cx} {CX : CXT} {x : Str} {C fI : Addr} {k : Nat} {fd : FuncData} {ps : List Str} {sp : Sp} {ds : List Value} {dvs : List V} {e : Expr} {es : List Expr} {ta : TA} {p pos : Pos} (T : OexC X.K C) (iC : PySem.W.findIn X.K (.ref C) "__init__" = some (some (.ref fI))) (tI : PySem.W.typeIn X.K (.ref fI) = some (.type "function"))
    (F1 : FnOk X.prog X.w X.K X.mg X.base CX k fI fd ps sp) (hr : Room (k + 1) X.A) (hb : Binds X.K fd ps ds) (hd : Vals dvs ds) (hx : Passes CX X (fun _ _ _ => False)) (hg : Gl X x) (hm : X.mg x = some (.ref C)) (ha : PA X (e :: es) ta)
    (hdb : (x == ("__debug__" : Str)) = false) (he : starEach (e :: es) X.env = (false, eval e X.env) :: starEach es X.env) (hpl : (backTo pos (starEach es X.env)).any (·.1) = false) :
    PE X (.Call (.Name x p) (e :: es) [] pos) (fun σ H Q => ta σ H fun vs H1 => vs.length ≤ 1000 ∧ ∀ a, H1 a = none → sp (.ref a :: (vs ++ dvs)) (upd H1 a (exo a C none)) (fun v H2 => v = .non ∧ Q (.ref a) H2) (fun _ _ _ => False)) := by
  refine ⟨fun pins s σ H Q I h => ?_⟩
  obtain ⟨nm, q, N, bs, bm, sn, sub, ab, col, dd, k0, k1, k2, k3, k5, hC, hbm⟩ := T.cls
  refine wpAny_Call_Name_kw (ld_glob I hg hm ?_ hdb)
  refine PySem.W.callWith_K (h₀ := X.base) I.ok.mod.kin T.kC (thn (ha.run pos pins s σ H _ I h) fun us s1 ⟨vs, H1, I1, r1, hz, q1⟩ => ⟨I1.kIn, ?_⟩) he hpl
  show wpAny _ _ (call (.ref C) us) _ _ _
  obtain ⟨hp, g, dr, tk, os⟩ := s1
  have hsz : hp.objs.size ≤ hp.objs.size + 1 := Nat.le_succ _
  have hn : H1 (hp.objs.size + 1) = none := I1.hok.fresh hsz
  have hq := q1 (hp.objs.size + 1) hn
  have kk : ∀ b o, hp.get? b = some o → ((hp.push (PySem.W.kdv_tup us)).push (PySem.HandSPX.excO C hp.objs.size)).get? b = some o := fun b o e => Heap.get?_push_of_some _ (Heap.get?_push_of_some _ e)
  have hget : ((hp.push (PySem.W.kdv_tup us)).push (PySem.HandSPX.excO C hp.objs.size)).get? (hp.objs.size + 1) = some (PySem.HandSPX.excO C hp.objs.size) := by heap_get
  have I2 : Inv X pins σ (upd H1 (hp.objs.size + 1) (exo (hp.objs.size + 1) C none)) ⟨(hp.push (PySem.W.kdv_tup us)).push (PySem.HandSPX.excO C hp.objs.size), g, dr, tk, os⟩ :=
    I1.laid (t' := tk) (a := hp.objs.size + 1) (o := exo (hp.objs.size + 1) C none) (h' := (hp.push (PySem.W.kdv_tup us)).push (PySem.HandSPX.excO C hp.objs.size)) kk hsz (exo_ok hget)
  have r2 : Vals (V.ref (hp.objs.size + 1) :: (vs ++ dvs)) (Value.ref (hp.objs.size + 1) :: (us ++ ds)) := .cons rfl (r1.append hd)
  have hl : (Value.ref (hp.objs.size + 1) :: us ++ ds).length = ps.length := by
    have e := r2.length
    rw [F1.len _ _ _ _ hq] at e
    exact e.symm
  have hus : us.length ≤ sizeLine := by
    rw [← Paired.length r1, sizeLine_eq]
    omega
  refine wpAny_call (PySem.HandSPX.call_own F.excBase_ValueError (fun Y => PySem.HandSPX.refsVE_contains Y bm hbm) (I1.kIn _ _ hC) (PySem.W.looks_findIn I1.kIn iC) (fun self => PySem.W.bind_fn I1.kIn self tI) hus
    (codeAny_mono (F1.run _ X.stack _ _ ⟨Value.ref (hp.objs.size + 1) :: us, []⟩ (Value.ref (hp.objs.size + 1) :: (us ++ ds)) _ _ (fun _ _ _ => False) (hr.make C us []) (I2.env0.make C us []) (hb _ (Value.ref (hp.objs.size + 1) :: us) I2.kIn hl) r2 hq) fun r s' hq' => ?_))
  cases r with
  | error er => exact hx pins σ _ _ er s' I2 hq'
  | ok fl =>
    cases fl with
    | ret u =>
      obtain ⟨v, H2, os2, bare2, un2, hok2, rv, ev, q2⟩ := hq'
      subst ev
      obtain ⟨h2, g2, d2, t2, os'⟩ := s'
      have J : Inv X pins σ H2 ⟨h2, g2, d2, t2, os'⟩ := I2.call' (ch := []) os2 un2 hok2 bare2 (fun b z => absurd z (by simp))
      exact ⟨rv, .ref (hp.objs.size + 1), H2, J, rfl, q2⟩
    | next => exact False.elim hq'
    | brk => exact False.elim hq'
    | cont => exact False.elim hq'
theorem pe_excA {X : Cx} {C : Addr} {bmB : List Value} {B newId initId : String} {x : Str} {e : Expr} {es : List Expr} {ta : TA} {p pos : Pos} (F : ExcBaseFacts B newId initId bmB) (q : PySem.W.excIn X.K C bmB newId = true) (gC : X.mg x = some (.ref C)) (kC : PySem.W.keepIn X.K (.ref C) = true) (hg : Gl X x)
    (ha : PA X (e :: es) ta) (hdb : (x == ("__debug__" : Str)) = false) (he : starEach (e :: es) X.env = (false, eval e X.env) :: starEach es X.env) (hpl : (backTo pos (starEach es X.env)).any (·.1) = false) :
    PE X (.Call (.Name x p) (e :: es) [] pos) (fun σ H Q => ta σ H fun vs H1 => vs.length ≤ 1000 ∧ ∀ a, H1 a = none → Q (.ref a) (upd H1 a (ExO (.ref C) a))) := by
  refine ⟨fun pins s σ H Q I h => ?_⟩
  refine wpAny_Call_Name_kw (ld_glob I hg gC ?_ hdb)
  refine PySem.W.callWith_K (h₀ := X.base) I.ok.mod.kin kC (thn (ha.run pos pins s σ H _ I h) fun us s1 ⟨vs, H1, I1, r1, hz, q1⟩ => ⟨I1.kIn, ?_⟩) he hpl
  show wpAny _ _ (call (.ref C) us) _ _ _
  obtain ⟨bm, N, nm, qn, bs, hdct, sn, sub, ab, col, dd, k0, k1, k2, k3, k5, mN, hC, hN, hni, T⟩ := exc_obj I1.kIn q
  refine wpAny_call_exc_subT F T hC hN hni (fun h' a hm => ?_) (by rw [← Paired.length r1, sizeLine_eq]; omega)
  have hn : H1 a = none := I1.hok.gone hm.new
  obtain ⟨t, ht, _, _⟩ := hm.there
  exact ⟨.ref a, upd H1 a (ExO (.ref C) a), I1.laidN hm.keeps hm.new hn (exO_ok ht ⟨rfl, rfl⟩ rfl rfl rfl (show 4 < 6 by decide)), rfl, q1 a hn⟩
end Rw
namespace Rw
open PySem PySem.Spec PyProof.Rows L2
section
variable {C : Ck} {e : Expr}
theorem iv_var {i : Nat} (h : chkE C (.var i) e = true) : ∃ x p, e = .Name x p ∧ C.N[i]? = some x ∧ visB C.sc x = true ∧ okN x = true ∧ C.hs ≠ some i := by
  cases e with
  | Name x p => exact ⟨x, p, rfl, of_decide_eq_true (ba h).1, (ba (ba h).2).1, (ba (ba (ba h).2).2).1, of_decide_eq_true (ba (ba (ba h).2).2).2⟩
  | _ => cases h
theorem iv_exIs {i : Nat} {many : Bool} {ts : List (Option Nat)} (h : chkE C (.exIs i many ts) e = true) : ∃ x zs, exP e = some (x, many, zs) ∧ C.hs = some i ∧ C.N[i]? = some x ∧ visB C.sc x = true ∧ okN x = true ∧ glB C.sc ("isinstance" : Str) = true ∧ exsB C ts zs = true ∧ noStar zs = true ∧ ts.length ≤ 1000 := by
  have h : (match exP e with
    | some (x, m, zs) => decide (C.hs = some i) && (decide (C.N[i]? = some x) && (visB C.sc x && (okN x && (glB C.sc ("isinstance" : Str) && (m == many && (exsB C ts zs && (noStar zs && decide (ts.length ≤ 1000))))))))
    | none => false) = true := h
  cases q : exP e with
  | none => rw [q] at h; cases h
  | some y =>
    obtain ⟨x, m, zs⟩ := y
    rw [q] at h
    obtain ⟨h1, h⟩ := ba h
    obtain ⟨h2, h⟩ := ba h
    obtain ⟨h3, h⟩ := ba h
    obtain ⟨h4, h⟩ := ba h
    obtain ⟨h5, h⟩ := ba h
    obtain ⟨h6, h⟩ := ba h
    obtain ⟨h7, h⟩ := ba h
    obtain ⟨h8, h9⟩ := ba h
    have e1 := eq_of_beq h6
    subst e1
    exact ⟨x, zs, rfl, of_decide_eq_true h1, of_decide_eq_true h2, h3, h4, h5, h7, h8, of_decide_eq_true h9⟩
theorem iv_dctD {m : Bool} {ks : List Key} {es : IEs} (h : chkE C (.dctD m ks es) e = true) : ∃ keys values p, e = .Dict keys values p ∧ keysB ks keys = true ∧ chkEs C es values = true ∧ keys.length = values.length ∧ nodupK ks = true ∧ ks.length ≤ 15 := by
  cases e with
  | Dict keys values p =>
    obtain ⟨h1, h⟩ := ba (show (keysB ks keys && (chkEs C es values && (decide (keys.length = values.length) && (nodupK ks && decide (ks.length ≤ 15))))) = true from h)
    obtain ⟨h2, h⟩ := ba h
    obtain ⟨h3, h⟩ := ba h
    obtain ⟨h4, h5⟩ := ba h
    exact ⟨keys, values, p, rfl, h1, h2, of_decide_eq_true h3, h4, of_decide_eq_true h5⟩
  | _ => cases h
theorem iv_upd {o a : IE} (h : chkE C (.upd o a) e = true) : ∃ x ap y cp, e = .Call (.Attribute x "update" ap) [y] [] cp ∧ chkE C o x = true ∧ isSup x = false ∧ chkE C a y = true ∧ isStar y = false ∧ (ap.endLine == cp.line) = true := by
  cases e with
  | Call f ys ks cp =>
    cases f with
    | Attribute x nm ap =>
      cases ys with
      | nil => cases h
      | cons y ys =>
        cases ys with
        | cons _ _ => cases ks <;> cases h
        | nil =>
          cases ks with
          | cons _ _ => cases h
          | nil =>
            obtain ⟨h1, h⟩ := ba (show (chkE C o x && (!isSup x && (decide (nm = ("update" : Str)) && (chkE C a y && (!isStar y && (ap.endLine == cp.line)))))) = true from h)
            obtain ⟨h2, h⟩ := ba h
            obtain ⟨h3, h⟩ := ba h
            obtain ⟨h4, h⟩ := ba h
            obtain ⟨h5, h6⟩ := ba h
            have e3 : nm = ("update" : Str) := of_decide_eq_true h3
            subst e3
            exact ⟨x, ap, y, cp, rfl, h1, nb h2, h4, nb h5, h6⟩
    | _ => cases h
  | _ => cases h
theorem keysB_len : ∀ {ks : List Key} {es : List (Option Expr)}, keysB ks es = true → es.length = ks.length ∧ es.all (·.isSome) = true
  | [], [], _ => ⟨rfl, rfl⟩
  | .inl i :: ks, some e :: es, h => by
    cases e with
    | Constant c a b =>
      cases c with
      | int j =>
        obtain ⟨h1, h2⟩ := keysB_len (ba (show (decide (i = j) && keysB ks es) = true from h)).2
        exact ⟨congrArg Nat.succ h1, by rw [List.all_cons, h2]; rfl⟩
      | _ => cases h
    | _ => cases h
  | .inr x :: ks, some e :: es, h => by
    cases e with
    | Constant c a b =>
      cases c with
      | str y =>
        obtain ⟨h1, h2⟩ := keysB_len (ba (show (decide (x = y) && keysB ks es) = true from h)).2
        exact ⟨congrArg Nat.succ h1, by rw [List.all_cons, h2]; rfl⟩
      | _ => cases h
    | _ => cases h
  | .inl _ :: _, none :: _, h => by cases h
  | .inr _ :: _, none :: _, h => by cases h
  | [], _ :: _, h => by cases h
  | .inl _ :: _, [], h => by cases h
  | .inr _ :: _, [], h => by cases h
theorem keysB_cons {X : Cx} : ∀ {k : Key} {ks : List Key} {o : Option Expr} {es : List (Option Expr)}, keysB (k :: ks) (o :: es) = true → ∃ c, o = some c ∧ PE X c (tC (kV k)) ∧ keysB ks es = true
  | .inl i, ks, some e, es, h => by
    cases e with
    | Constant c a b =>
      cases c with
      | int j =>
        obtain ⟨h1, h2⟩ := ba (show (decide (i = j) && keysB ks es) = true from h)
        have e1 : i = j := of_decide_eq_true h1
        subst e1
        exact ⟨_, rfl, pe_int, h2⟩
      | _ => cases h
    | _ => cases h
  | .inr i, ks, some e, es, h => by
    cases e with
    | Constant c a b =>
      cases c with
      | str j =>
        obtain ⟨h1, h2⟩ := ba (show (decide (i = j) && keysB ks es) = true from h)
        have e1 : i = j := of_decide_eq_true h1
        subst e1
        exact ⟨_, rfl, pe_str, h2⟩
      | _ => cases h
    | _ => cases h
  | .inl _, _, none, _, h => by cases h
  | .inr _, _, none, _, h => by cases h
theorem chkEs_ln : ∀ {es : IEs} {xs : List Expr}, chkEs C es xs = true → es.len = xs.length
  | .nil, [], _ => rfl
  | .cons e es, x :: xs, h => congrArg Nat.succ (chkEs_ln (ba (show (chkE C e x && chkEs C es xs) = true from h)).2)
  | .nil, _ :: _, h => by cases h
  | .cons _ _, [], h => by cases h
theorem iv_con {t : T} (h : chkE C (.con t) e = true) : ∃ c j p, e = .Constant c j p ∧ conB t c = true := by
  cases e with
  | Constant c j p => exact ⟨c, j, p, rfl, h⟩
  | _ => cases h
theorem iv_bin {op : Operator} {a b : IE} (h : chkE C (.bin op a b) e = true) : ∃ l r p, e = .BinOp l op r p ∧ chkE C a l = true ∧ chkE C b r = true := by
  cases e with
  | BinOp l o r p =>
    have e1 : op = o := of_decide_eq_true (ba h).1
    subst e1
    exact ⟨l, r, p, rfl, (ba (ba h).2).1, (ba (ba h).2).2⟩
  | _ => cases h
theorem iv_binM {op : Operator} {a b : IE} (h : chkE C (.binM op a b) e = true) : ∃ l r p, e = .BinOp l op r p ∧ chkE C a l = true ∧ chkE C b r = true := by
  cases e with
  | BinOp l o r p =>
    have e1 : op = o := of_decide_eq_true (ba h).1
    subst e1
    exact ⟨l, r, p, rfl, (ba (ba h).2).1, (ba (ba h).2).2⟩
  | _ => cases h
theorem iv_neg {a : IE} (h : chkE C (.neg a) e = true) : ∃ x p, e = .UnaryOp .USub x p ∧ chkE C a x = true := by
  cases e with
  | UnaryOp o x p =>
    cases o with
    | USub => exact ⟨x, p, rfl, h⟩
    | _ => cases h
  | _ => cases h
theorem iv_not {a : IE} (h : chkE C (.not a) e = true) : ∃ x p, e = .UnaryOp .Not x p ∧ chkE C a x = true := by
  cases e with
  | UnaryOp o x p =>
    cases o with
    | Not => exact ⟨x, p, rfl, h⟩
    | _ => cases h
  | _ => cases h
theorem iv_cmp {op : CmpOp} {a b : IE} (h : chkE C (.cmp op a b) e = true) : ∃ l r p, e = .Compare l [op] [r] p ∧ chkE C a l = true ∧ chkE C b r = true ∧ isSet r = false := by
  cases e with
  | Compare l os rs p =>
    cases os with
    | nil => cases h
    | cons o os =>
      cases os with
      | cons _ _ => cases h
      | nil =>
        cases rs with
        | nil => cases h
        | cons r rs =>
          cases rs with
          | cons _ _ => cases h
          | nil =>
            have e1 : op = o := of_decide_eq_true (ba h).1
            subst e1
            exact ⟨l, r, p, rfl, (ba (ba h).2).1, (ba (ba (ba h).2).2).1, nb (ba (ba (ba h).2).2).2⟩
  | _ => cases h
theorem iv_eqD {neg : Bool} {a b : IE} (h : chkE C (.eqD neg a b) e = true) : ∃ l r p, e = .Compare l [if neg then .NotEq else .Eq] [r] p ∧ chkE C a l = true ∧ chkE C b r = true ∧ isSet r = false := by
  cases e with
  | Compare l os rs p =>
    cases os with
    | nil => cases h
    | cons o os =>
      cases os with
      | cons _ _ => cases h
      | nil =>
        cases rs with
        | nil => cases h
        | cons r rs =>
          cases rs with
          | cons _ _ => cases h
          | nil =>
            have e1 : o = (if neg then CmpOp.NotEq else .Eq) := of_decide_eq_true (ba h).1
            subst e1
            exact ⟨l, r, p, rfl, (ba (ba h).2).1, (ba (ba (ba h).2).2).1, nb (ba (ba (ba h).2).2).2⟩
  | _ => cases h
theorem iv_cmp2 {o p : CmpOp} {a b c : IE} (h : chkE C (.cmp2 o p a b c) e = true) : ∃ l m r q, e = .Compare l [o, p] [m, r] q ∧ chkE C a l = true ∧ chkE C b m = true ∧ chkE C c r = true ∧ isSet m = false ∧ isSet r = false := by
  cases e with
  | Compare l os rs q =>
    cases os with
    | nil => cases h
    | cons o1 os =>
      cases os with
      | nil => cases h
      | cons o2 os =>
        cases os with
        | cons _ _ => cases h
        | nil =>
          cases rs with
          | nil => cases h
          | cons m rs =>
            cases rs with
            | nil => cases h
            | cons r rs =>
              cases rs with
              | cons _ _ => cases h
              | nil =>
                obtain ⟨h1, h⟩ := ba h
                obtain ⟨h2, h⟩ := ba h
                obtain ⟨h3, h⟩ := ba h
                obtain ⟨h4, h⟩ := ba h
                obtain ⟨h5, h⟩ := ba h
                obtain ⟨h6, h7⟩ := ba h
                have e1 : o = o1 := of_decide_eq_true h1
                have e2 : p = o2 := of_decide_eq_true h2
                subst e1 e2
                exact ⟨l, m, r, q, rfl, h3, h4, h5, nb h6, nb h7⟩
  | _ => cases h
theorem iv_ands {es : IEs} (h : chkE C (.ands es) e = true) : ∃ vs p, e = .BoolOp .And vs p ∧ chkEs C es vs = true := by
  cases e with
  | BoolOp o vs p =>
    cases o with
    | And => exact ⟨vs, p, rfl, h⟩
    | Or => cases h
  | _ => cases h
theorem iv_ors {es : IEs} (h : chkE C (.ors es) e = true) : ∃ vs p, e = .BoolOp .Or vs p ∧ chkEs C es vs = true := by
  cases e with
  | BoolOp o vs p =>
    cases o with
    | Or => exact ⟨vs, p, rfl, h⟩
    | And => cases h
  | _ => cases h
theorem iv_ife {t : IC} {a b : IE} (h : chkE C (.ife t a b) e = true) : ∃ c x y p, e = .IfExp c x y p ∧ chkC C t c = true ∧ chkE C a x = true ∧ chkE C b y = true := by
  cases e with
  | IfExp c x y p => exact ⟨c, x, y, p, rfl, (ba h).1, (ba (ba h).2).1, (ba (ba h).2).2⟩
  | _ => cases h
theorem iv_tup {es : IEs} (h : chkE C (.tup es) e = true) : ∃ xs k p, e = .Tuple xs k p ∧ chkEs C es xs = true ∧ noStar xs = true := by
  cases e with
  | Tuple xs k p => exact ⟨xs, k, p, rfl, (ba h).1, (ba h).2⟩
  | _ => cases h
theorem iv_lst {m : Bool} {es : IEs} (h : chkE C (.lst m es) e = true) : ∃ xs p, e = .List xs p ∧ chkEs C es xs = true ∧ noStar xs = true := by
  cases e with
  | List xs p => exact ⟨xs, p, rfl, (ba h).1, (ba h).2⟩
  | _ => cases h
theorem iv_sub {a i : IE} (h : chkE C (.sub a i) e = true) : ∃ x y p, e = .Subscript x y p ∧ chkE C a x = true ∧ chkE C i y = true ∧ isSlc y = false := by
  cases e with
  | Subscript x y p => exact ⟨x, y, p, rfl, (ba h).1, (ba (ba h).2).1, nb (ba (ba h).2).2⟩
  | _ => cases h
theorem iv_call {f : Nat} {es : IEs} (h : chkE C (.call f es) e = true) : ∃ p ys q, e = .Call (.Name (C.nm.fnN f) p) ys [] q ∧ glB C.sc (C.nm.fnN f) = true ∧ okN (C.nm.fnN f) = true ∧ chkEs C es ys = true ∧ noStar ys = true ∧ arity C.tab f ys.length = true ∧ C.glF f = true ∧ C.calm = true := by
  cases e with
  | Call g ys kw q =>
    cases g with
    | Name x p =>
      cases kw with
      | cons _ _ => cases h
      | nil =>
        obtain ⟨h1, h⟩ := ba h
        obtain ⟨h2, h⟩ := ba h
        obtain ⟨h3, h⟩ := ba h
        obtain ⟨h4, h⟩ := ba h
        obtain ⟨h5, h⟩ := ba h
        obtain ⟨h6, h7⟩ := ba h
        have e1 := of_decide_eq_true h3
        subst e1
        exact ⟨p, ys, q, rfl, h1, h2, h4, h5, h6, (ba h7).1, (ba h7).2⟩
    | _ => cases h
  | _ => cases h
theorem iv_callV {a : IE} {gs : List Nat} {es : IEs} (h : chkE C (.callV a gs es) e = true) : ∃ x p y ys q, e = .Call (.Name x p) (y :: ys) [] q ∧ chkE C a (.Name x p) = true ∧ chkEs C es (y :: ys) = true ∧ noStar (y :: ys) = true ∧ gs.all C.glF = true ∧ C.calm = true := by
  cases e with
  | Call g ys kw q =>
    cases g with
    | Name x p =>
      cases kw with
      | cons _ _ => cases ys <;> cases h
      | nil =>
        cases ys with
        | nil => cases h
        | cons y ys =>
          obtain ⟨h1, h⟩ := ba h
          obtain ⟨h2, h⟩ := ba h
          obtain ⟨h3, h⟩ := ba h
          obtain ⟨h4, h5⟩ := ba h
          exact ⟨x, p, y, ys, q, rfl, h1, h2, h3, h4, h5⟩
    | _ => cases ys <;> cases kw <;> cases h
  | _ => cases h
theorem iv_new {c : Nat} {es : IEs} (h : chkE C (.new c es) e = true) : ∃ p ys q, e = .Call (.Name (C.nm.clN c) p) ys [] q ∧ glB C.sc (C.nm.clN c) = true ∧ okN (C.nm.clN c) = true ∧ chkEs C es ys = true ∧ noStar ys = true ∧ newB C.tab c ys.length = true ∧ C.calm = true := by
  cases e with
  | Call g ys kw q =>
    cases g with
    | Name x p =>
      cases kw with
      | cons _ _ => cases h
      | nil =>
        obtain ⟨h1, h⟩ := ba h
        obtain ⟨h2, h⟩ := ba h
        obtain ⟨h3, h⟩ := ba h
        obtain ⟨h4, h⟩ := ba h
        obtain ⟨h5, h6⟩ := ba h
        have e1 := of_decide_eq_true h3
        subst e1
        exact ⟨p, ys, q, rfl, h1, h2, h4, h5, (ba h6).1, (ba h6).2⟩
    | _ => cases h
  | _ => cases h
theorem iv_glob {g : Nat} (h : chkE C (.glob g) e = true) : ∃ p, e = .Name (C.nm.coN g) p ∧ glB C.sc (C.nm.coN g) = true ∧ okN (C.nm.coN g) = true := by
  cases e with
  | Name x p =>
    obtain ⟨h1, h⟩ := ba h
    obtain ⟨h2, h⟩ := ba h
    obtain ⟨h3, h4⟩ := ba h
    have e1 := of_decide_eq_true h3
    subst e1
    exact ⟨p, rfl, h1, h2⟩
  | _ => cases h
theorem iv_fld {o : IE} {f : Nat} (h : chkE C (.fld o f) e = true) : ∃ x p, e = .Attribute x (C.nm.atN f) p ∧ chkE C o x = true ∧ isSup x = false := by
  cases e with
  | Attribute x n p =>
    obtain ⟨h1, h⟩ := ba h
    obtain ⟨h2, h3⟩ := ba h
    have e1 := of_decide_eq_true h2
    subst e1
    exact ⟨x, p, rfl, h1, nb h3⟩
  | _ => cases h
theorem iv_meth {o : IE} {f : Nat} {es : IEs} (h : chkE C (.meth o f es) e = true) : ∃ x ap ys q, e = .Call (.Attribute x (C.nm.atN f) ap) ys [] q ∧ chkE C o x = true ∧ isSup x = false ∧ chkEs C es ys = true ∧ noStar ys = true ∧ ys.length < 20 ∧ (ap.endLine == q.line) = true ∧ C.calm = true := by
  cases e with
  | Call g ys kw q =>
    cases g with
    | Attribute x n ap =>
      cases kw with
      | cons _ _ => cases h
      | nil =>
        obtain ⟨h1, h⟩ := ba h
        obtain ⟨h2, h⟩ := ba h
        obtain ⟨h3, h⟩ := ba h
        obtain ⟨h4, h⟩ := ba h
        obtain ⟨h5, h⟩ := ba h
        obtain ⟨h6, h7⟩ := ba h
        have e1 := of_decide_eq_true h3
        subst e1
        exact ⟨x, ap, ys, q, rfl, h1, nb h2, h4, h5, of_decide_eq_true h6, (ba h7).1, (ba h7).2⟩
    | _ => cases h
  | _ => cases h
theorem iv_bm {b : BM} {m : Bool} {o : IE} {es : IEs} (h : chkE C (.bm b m o es) e = true) : ∃ x ap ys q, e = .Call (.Attribute x (bmN b) ap) ys [] q ∧ chkE C o x = true ∧ isSup x = false ∧ chkEs C es ys = true ∧ noStar ys = true ∧ bmA b ys.length = true ∧ (ap.endLine == q.line) = true := by
  cases e with
  | Call g ys kw q =>
    cases g with
    | Attribute x n ap =>
      cases kw with
      | cons _ _ => cases h
      | nil =>
        obtain ⟨h1, h⟩ := ba h
        obtain ⟨h2, h⟩ := ba h
        obtain ⟨h3, h⟩ := ba h
        obtain ⟨h4, h⟩ := ba h
        obtain ⟨h5, h⟩ := ba h
        obtain ⟨h6, h7⟩ := ba h
        have e1 := of_decide_eq_true h3
        subst e1
        exact ⟨x, ap, ys, q, rfl, h1, nb h2, h4, h5, h6, h7⟩
    | _ => cases h
  | _ => cases h
section
variable {G : Gd} {X : Cx} {Wx : WX} {W : Wd} {S : Store} {H : Hp} {σ : L2.St} {Q : VK}
theorem strs_rep : ∀ {xs : List T} {ys : List Str} {vs : List V}, strsT xs = some ys → RepL G W.F vs xs → vs = ys.map V.str
  | [], _, _, e, r => by
    cases e
    cases r
    rfl
  | x :: xs, ys, vs, e, r => by
    cases x with
    | str z =>
      obtain ⟨zs, e1, e2⟩ := Option.map_eq_some_iff.mp (show (strsT xs).map (z :: ·) = some ys from e)
      subst e2
      cases r with
      | cons h r =>
        cases h
        rw [strs_rep e1 r]
        rfl
    | _ => cases e
theorem vals_strs {G : Gd} {W : Wd} : ∀ ys : List Str, Paired (RepV G W) (ys.map V.str) (ys.map fun z => Val.t (.str z))
  | [] => .nil
  | y :: ys => .cons (.str y) (vals_strs ys)
theorem join_post (hK : X.K = G.K) {t : Str} {ws : List Val} {vs : List V} (h : PostV G Wx σ W (joinV (.t (.str t)) ws S) Q) (s : Sim G W S H) (r : Paired (RepV G W) vs ws) :
    ∃ a p, ∃ ys : List Str, V.str t = .str a ∧ vs = [.ref p] ∧ (SqL X.K H p (ys.map V.str) ∨ SqT X.K H p (ys.map V.str)) ∧ (ys.map (·.length)).sum + ys.length * a.length ≤ 16777216 ∧ Q (.str (Txt.join a ys)) H := by
  have no : ∀ {P : Prop}, PostV G Wx σ W .bad Q → P := fun z => (show False from z).elim
  cases ws with
  | nil => exact no h
  | cons w ws =>
    cases ws with
    | cons _ _ => exact no h
    | nil =>
      obtain ⟨v, rfl, rv⟩ := one_arg r
      have fin : ∀ {xs : List T} {p : Addr} {us : List V}, PostV G Wx σ W (match strsT xs with
          | some ys => if (ys.map (·.length)).sum + ys.length * t.length ≤ 16777216 then .ok (.t (.str (Txt.join t ys))) S else .bad
          | none => .bad) Q → (SqL X.K H p us ∨ SqT X.K H p us) → RepL G W.F us xs → ∃ a q, ∃ ys : List Str, V.str t = .str a ∧ [V.ref p] = [.ref q] ∧ (SqL X.K H q (ys.map V.str) ∨ SqT X.K H q (ys.map V.str)) ∧ (ys.map (·.length)).sum + ys.length * a.length ≤ 16777216 ∧ Q (.str (Txt.join a ys)) H := fun {xs p us} h hp rl => by
        cases e : strsT xs with
        | none => rw [e] at h; exact no h
        | some ys =>
          rw [e] at h
          have eu := strs_rep e rl
          subst eu
          have h : PostV G Wx σ W (if (ys.map (·.length)).sum + ys.length * t.length ≤ 16777216 then .ok (.t (.str (Txt.join t ys))) S else .bad) Q := h
          by_cases c : (ys.map (·.length)).sum + ys.length * t.length ≤ 16777216
          · rw [if_pos c] at h
            exact ⟨t, p, ys, rfl, rfl, hp, c, post_t h s (.str _)⟩
          · rw [if_neg c] at h
            exact no h
      cases w with
      | r n =>
        obtain ⟨hn, ex⟩ := rv
        subst ex
        cases q : S[n]? with
        | none =>
          have h2 : PostV G Wx σ W (match lstT S (.r n) with
            | some xs => (match strsT xs with
              | some ys => if (ys.map (·.length)).sum + ys.length * t.length ≤ 16777216 then .ok (.t (.str (Txt.join t ys))) S else .bad
              | none => .bad)
            | none => .bad) Q := h
          rw [show lstT S (.r n) = (match S[n]? with
            | some (.lst vs) => allT vs
            | _ => none) from rfl, q] at h2
          exact no h2
        | some c =>
          have h2 : PostV G Wx σ W (match lstT S (.r n) with
            | some xs => (match strsT xs with
              | some ys => if (ys.map (·.length)).sum + ys.length * t.length ≤ 16777216 then .ok (.t (.str (Txt.join t ys))) S else .bad
              | none => .bad)
            | none => .bad) Q := h
          rw [show lstT S (.r n) = (match S[n]? with
            | some (.lst vs) => allT vs
            | _ => none) from rfl, q] at h2
          cases c with
          | lst us =>
            have h2 : PostV G Wx σ W (match allT us with
              | some xs => (match strsT xs with
                | some ys => if (ys.map (·.length)).sum + ys.length * t.length ≤ 16777216 then .ok (.t (.str (Txt.join t ys))) S else .bad
                | none => .bad)
              | none => .bad) Q := h2
            cases ea : allT us with
            | none => rw [ea] at h2; exact no h2
            | some xs =>
              rw [ea] at h2
              obtain ⟨zs, ho, hp⟩ := cell_lst s q
              exact fin h2 (.inl (SqL.of ho)) (allT_rep hp ea)
          | _ => exact no h2
      | t tt =>
        cases tt with
        | tup xs =>
          cases rv with
          | tup hF rl => exact fin h (.inr (by rw [hK]; exact sameT s.fz hF)) rl
        | lst xs =>
          cases rv with
          | lst hF rl => exact fin h (.inl (SqL.of (s.fz _ _ hF))) rl
        | _ => exact no h
theorem flV_rep {t : Option T} {F : Hp} {v : V} (h : flV (t.getD .non) = some v) : Rep G F v (t.getD .non) := by
  cases e : t.getD .non with
  | non => rw [e] at h; cases h; exact .non
  | bl b => rw [e] at h; cases h; exact .bl b
  | int i => rw [e] at h; cases h; exact .int i
  | str x => rw [e] at h; cases h; exact .str x
  | _ => rw [e] at h; cases h
theorem star_one {e : Expr} {cpos : Pos} (env : PySem.Env) (h : isStar e = false) : backTo cpos (starEach [e] env) = [(false, eval e env)] := by
  rw [star_cons env h]
  rfl
def tDGetK (kvs : List (Str × T)) (ty : TE) : TE := fun σ H Q => ty σ H fun y H2 => ∃ z, y = .str z ∧ ∀ v, flV ((kvs.lookup z).getD .non) = some v → Q v H2
theorem pe_dgetK {d : Addr} {es : Array DictEntry} {n : Nat} {kvs : List (Str × T)} {o e : Expr} {apos cpos : Pos} {ty : TE} (hu : X.A.units + 64 < cLine) (D : KDict X.K X.w d es n)
    (hl : ∀ z, ∃ r, PySem.W.nsIn X.K d z = some r ∧ (match kvs.lookup z with
      | none => r = none
      | some t => ∃ u v, r = some u ∧ RelV v u ∧ flV t = some v)) (ho : PE X o (tC (.ref d))) (he : PE X e ty) (m : M1 X o "get" apos e cpos) : PE X (.Call (.Attribute o "get" apos) [e] [] cpos) (tDGetK kvs ty) := by
  refine ⟨fun pins s σ H Q I h => ?_⟩
  refine wpAny_Call_method m.base m.few m.line PySem.F.plainAttrs_dict PySem.F.slot_dict_get PySem.F.type_dict_get (thn (ho.run pins s σ H (fun x H1 => x = V.ref d ∧ H = H1) I ⟨rfl, rfl⟩) fun u s1 ⟨x, H1, I1, rx, ex, eH⟩ => ?_)
  subst ex
  rw [← eH] at I1
  obtain rfl : u = Value.ref d := rx
  refine ⟨kd_type D I1, fun b q => ?_, ?_⟩
  · cases q
    exact ⟨_, I1.kIn _ _ D.at_, rfl⟩
  rw [m.trees]
  refine Calls.callWith_builtin rfl (Calls.evalArgs_plain (Calls.spliced_cons (thn (he.run pins s1 σ H _ I1 h) fun iv s2 ⟨y, H2, I2, ry, z, ey, q2⟩ => Calls.spliced_nil ?_)))
  subst ey
  obtain ⟨t, rfl⟩ := ry
  obtain ⟨r, e1, e2⟩ := hl z
  have M := PySem.W.mapOf_K (prog := X.prog) I2.kIn D.at_ D.lit
  refine call_meetsIn PySem.F.slot_dict_get (kd_type D I2) PySem.F.entry_dict_get (PySem.F.args_dict_get_2 _ _) (meets_dict_get (PySem.strKind X.prog X.w) d (PySem.strKind_is X.prog X.w z t) D.low) ⟨_, M, ?_⟩
  rw [PySem.W.find_K D.at_ e1]
  cases hk : kvs.lookup z with
  | none =>
    rw [hk] at e2 q2
    subst e2
    exact ⟨.non, H2, I2.tok _, rfl, q2 .non rfl⟩
  | some tt =>
    rw [hk] at e2 q2
    obtain ⟨u, v, rfl, rv, ev⟩ := e2
    exact ⟨v, H2, I2.tok _, rv, q2 v ev⟩
theorem star_two {e f : Expr} {cpos : Pos} (env : PySem.Env) (h : isStar e = false) (h2 : isStar f = false) : backTo cpos (starEach [e, f] env) = [(false, eval e env), (false, eval f env)] := by
  rw [star_cons env h, star_cons env h2]
  rfl
theorem flV_repI {t : Option T} {F : Hp} {v : V} {i : Int} (h : flV (t.getD (.int i)) = some v) : Rep G F v (t.getD (.int i)) := by
  cases e : t.getD (.int i) with
  | non => rw [e] at h; cases h; exact .non
  | bl b => rw [e] at h; cases h; exact .bl b
  | int i => rw [e] at h; cases h; exact .int i
  | str x => rw [e] at h; cases h; exact .str x
  | _ => rw [e] at h; cases h
def tDGetK2 (kvs : List (Str × T)) (i : Int) (ty tx : TE) : TE := fun σ H Q => ty σ H fun y H2 => tx σ H2 fun w H3 => ∃ z, y = .str z ∧ w = .int i ∧ ∀ v, flV ((kvs.lookup z).getD (.int i)) = some v → Q v H3
theorem pe_dgetK2 {d : Addr} {es : Array DictEntry} {n : Nat} {kvs : List (Str × T)} {o e f : Expr} {apos cpos : Pos} {i : Int} {ty tx : TE} (hu : X.A.units + 64 < cLine) (D : KDict X.K X.w d es n)
    (hl : ∀ z, ∃ r, PySem.W.nsIn X.K d z = some r ∧ (match kvs.lookup z with
      | none => r = none
      | some t => ∃ u v, r = some u ∧ RelV v u ∧ flV t = some v)) (ho : PE X o (tC (.ref d))) (he : PE X e ty) (hf : PE X f tx) (m : M2 X o "get" apos e f cpos) : PE X (.Call (.Attribute o "get" apos) [e, f] [] cpos) (tDGetK2 kvs i ty tx) := by
  refine ⟨fun pins s σ H Q I h => ?_⟩
  refine wpAny_Call_method m.base m.few m.line PySem.F.plainAttrs_dict PySem.F.slot_dict_get PySem.F.type_dict_get (thn (ho.run pins s σ H (fun x H1 => x = V.ref d ∧ H = H1) I ⟨rfl, rfl⟩) fun u s1 ⟨x, H1, I1, rx, ex, eH⟩ => ?_)
  subst ex
  rw [← eH] at I1
  obtain rfl : u = Value.ref d := rx
  refine ⟨kd_type D I1, fun b q => ?_, ?_⟩
  · cases q
    exact ⟨_, I1.kIn _ _ D.at_, rfl⟩
  rw [m.trees]
  refine Calls.callWith_builtin rfl (Calls.evalArgs_plain (Calls.spliced_cons (thn (he.run pins s1 σ H _ I1 h) fun iv s2 ⟨y, H2, I2, ry, q2⟩ =>
    Calls.spliced_cons (thn (hf.run pins s2 σ H2 _ I2 q2) fun fv s3 ⟨w, H3, I3, rw', z, ey, ew, q3⟩ => Calls.spliced_nil ?_))))
  subst ey
  subst ew
  obtain ⟨t, rfl⟩ := ry
  obtain ⟨tk, rfl⟩ := rw'
  obtain ⟨r, e1, e2⟩ := hl z
  have M := PySem.W.mapOf_K (prog := X.prog) I3.kIn D.at_ D.lit
  refine call_meetsIn PySem.F.slot_dict_get (kd_type D I3) PySem.F.entry_dict_get (PySem.F.args_dict_get_3 _ _ _) (meets_dict_get_default (PySem.strKind X.prog X.w) d (PySem.strKind_is X.prog X.w z t) D.low (Value.int i tk)) ⟨_, M, ?_⟩
  rw [PySem.W.find_K D.at_ e1]
  cases hk : kvs.lookup z with
  | none =>
    rw [hk] at e2 q3
    subst e2
    exact ⟨.int i, H3, I3.tok _, ⟨tk, rfl⟩, q3 (.int i) rfl⟩
  | some tt =>
    rw [hk] at e2 q3
    obtain ⟨u, v, rfl, rv, ev⟩ := e2
    exact ⟨v, H3, I3.tok _, rv, q3 v ev⟩
end
section
variable {W : Wd} {S : Store} {H : Hp} {σ : L2.St} {Q : VK} {Wx : WX} {t : Str} {ws : List Val} {xs : List V}
theorem tm_arg {q : TM} (r : Paired (RepV G W) xs ws) (p : PostV G Wx σ W (tmV q (.t (.str t)) ws S) Q) : ∃ u v, xs = [v] ∧ Rep G W.F v u ∧ PostV G Wx σ W (ofT (tmT q t u) S) Q := by
  unfold tmV at p
  split at p
  · rename_i heq
    cases heq
    obtain ⟨w, rfl, rw'⟩ := one_arg r
    exact ⟨_, w, rfl, rw', p⟩
  · exact (show False from p).elim
theorem tm_strip (r : Paired (RepV G W) xs ws) (s : Sim G W S H) (p : PostV G Wx σ W (tmV .strip (.t (.str t)) ws S) Q) : ∃ a b, V.str t = .str a ∧ xs = [.str b] ∧ a.length ≤ sizeLine ∧ Q (.str (Txt.stripChars a b)) H := by
  obtain ⟨u, v, rfl, rv, p⟩ := tm_arg r p
  cases u with
  | str y =>
    cases rv
    have p : PostV G Wx σ W (ofT (if t.length ≤ szLine then some (.str (Txt.stripChars t y)) else none) S) Q := p
    split at p
    · rename_i c
      exact ⟨t, y, rfl, rfl, c, post_t p s (.str _)⟩
    · exact (show False from p).elim
  | _ => exact (show False from p).elim
theorem tm_starts (r : Paired (RepV G W) xs ws) (s : Sim G W S H) (p : PostV G Wx σ W (tmV .starts (.t (.str t)) ws S) Q) : ∃ a b, V.str t = .str a ∧ xs = [.str b] ∧ Q (.bl (Txt.startswith a b)) H := by
  obtain ⟨u, v, rfl, rv, p⟩ := tm_arg r p
  cases u with
  | str y => cases rv; exact ⟨t, y, rfl, rfl, post_t (show PostV G Wx σ W (.ok (.t (.bl (Txt.startswith t y))) S) Q from p) s (.bl _)⟩
  | _ => exact (show False from p).elim
theorem tm_ends (r : Paired (RepV G W) xs ws) (s : Sim G W S H) (p : PostV G Wx σ W (tmV .ends (.t (.str t)) ws S) Q) : ∃ a b, V.str t = .str a ∧ xs = [.str b] ∧ Q (.bl (Txt.endswith a b)) H := by
  obtain ⟨u, v, rfl, rv, p⟩ := tm_arg r p
  cases u with
  | str y => cases rv; exact ⟨t, y, rfl, rfl, post_t (show PostV G Wx σ W (.ok (.t (.bl (Txt.endswith t y))) S) Q from p) s (.bl _)⟩
  | _ => exact (show False from p).elim
theorem tm_find (r : Paired (RepV G W) xs ws) (s : Sim G W S H) (p : PostV G Wx σ W (tmV .find (.t (.str t)) ws S) Q) : ∃ a b, V.str t = .str a ∧ xs = [.str b] ∧ Q (.int (Txt.find a b)) H := by
  obtain ⟨u, v, rfl, rv, p⟩ := tm_arg r p
  cases u with
  | str y => cases rv; exact ⟨t, y, rfl, rfl, post_t (show PostV G Wx σ W (.ok (.t (.int (Txt.find t y))) S) Q from p) s (.int _)⟩
  | _ => exact (show False from p).elim
theorem tm_idx (r : Paired (RepV G W) xs ws) (s : Sim G W S H) (p : PostV G Wx σ W (tmV .idx (.t (.str t)) ws S) Q) : ∃ a b i rest, V.str t = .str a ∧ xs = [.str b] ∧ PySem.Builtin.Str.occurrences a b 0 a.length 1 = i :: rest ∧ Q (.int (i : Nat)) H := by
  obtain ⟨u, v, rfl, rv, p⟩ := tm_arg r p
  cases u with
  | str y =>
    cases rv
    have p : PostV G Wx σ W (ofT (if 0 ≤ Txt.find t y then some (.int (Txt.find t y)) else none) S) Q := p
    split at p
    · rename_i c
      cases e : PySem.Builtin.Str.occurrences t y 0 t.length 1 with
      | nil =>
        unfold Txt.find at c
        rw [e] at c
        exact absurd c (by decide)
      | cons i rest =>
        have ef : Txt.find t y = (i : Nat) := by
          unfold Txt.find
          rw [e]
        rw [ef] at p
        exact ⟨t, y, i, rest, rfl, rfl, e, post_t p s (.int _)⟩
    · exact (show False from p).elim
  | _ => exact (show False from p).elim
theorem tm_zfill (r : Paired (RepV G W) xs ws) (s : Sim G W S H) (p : PostV G Wx σ W (tmV .zfill (.t (.str t)) ws S) Q) : ∃ (a : Str) (i : Int), V.str t = .str a ∧ xs = [.int i] ∧ PadOk i = true ∧ Q (.str (Txt.zfill a i)) H := by
  obtain ⟨u, v, rfl, rv, p⟩ := tm_arg r p
  cases u with
  | int i =>
    cases rv
    have p : PostV G Wx σ W (ofT (if PadOk i = true then some (.str (Txt.zfill t i)) else none) S) Q := p
    split at p
    · rename_i c
      exact ⟨t, i, rfl, rfl, c, post_t p s (.str _)⟩
    · exact (show False from p).elim
  | _ => exact (show False from p).elim
theorem tm_part (r : Paired (RepV G W) xs ws) (s : Sim G W S H) (p : PostV G Wx σ W (tmV .part (.t (.str t)) ws S) Q) : ∃ a b, V.str t = .str a ∧ xs = [.str b] ∧ (b.length == 0) = false ∧ a.length ≤ sizeLine ∧
    ∀ p, H p = none → Q (.ref p) (upd H p (.tup [.str (Txt.partition a b).1, .str (Txt.partition a b).2.1, .str (Txt.partition a b).2.2])) := by
  obtain ⟨u, v, rfl, rv, p⟩ := tm_arg r p
  cases u with
  | str y =>
    cases rv
    have p : PostV G Wx σ W (ofT (if (y.length == 0) = false ∧ t.length ≤ szLine then some (.tup [.str (Txt.partition t y).1, .str (Txt.partition t y).2.1, .str (Txt.partition t y).2.2]) else none) S) Q := p
    split at p
    · rename_i c
      exact ⟨t, y, rfl, rfl, c.1, c.2, new_tup p s (.cons (.str _) (.cons (.str _) (.cons (.str _) .nil)))⟩
    · exact (show False from p).elim
  | _ => exact (show False from p).elim
end
theorem cintB_ok {k : Int} {f : Expr} (h : cintB k f = true) : ∃ j p, f = .Constant (.int k) j p := by
  unfold cintB at h
  split at h
  · rename_i c j p
    cases c with
    | int d =>
      have e1 : k = d := eq_of_beq h
      subst e1
      exact ⟨j, p, rfl⟩
    | _ => cases h
  · cases h
theorem iv_m2 {m : Str} {P : Expr → Expr → Expr → Bool} (h : (match m2P m e with
    | some (x, y, z) => P x y z
    | none => false) = true) : ∃ x y z ap cp, e = .Call (.Attribute x m ap) [y, z] [] cp ∧ (ap.endLine == cp.line) = true ∧ P x y z = true := by
  cases q : m2P m e with
  | none => rw [q] at h; cases h
  | some p =>
    obtain ⟨x, y, z⟩ := p
    rw [q] at h
    obtain ⟨ap, cp, h1, h2⟩ := m2P_ok q
    exact ⟨x, y, z, ap, cp, h1, h2, h⟩
theorem iv_m1 {m : Str} {P : Expr → Expr → Bool} (h : (match m1P m e with
    | some (x, y) => P x y
    | none => false) = true) : ∃ x y ap cp, e = .Call (.Attribute x m ap) [y] [] cp ∧ (ap.endLine == cp.line) = true ∧ P x y = true := by
  cases q : m1P m e with
  | none => rw [q] at h; cases h
  | some p =>
    obtain ⟨x, y⟩ := p
    rw [q] at h
    obtain ⟨ap, cp, h1, h2⟩ := m1P_ok q
    exact ⟨x, y, ap, cp, h1, h2, h⟩
theorem iv_cix {g : Nat} {a : IE} (h : chkE C (.cix g a) e = true) : ∃ p ap y q, e = .Call (.Attribute (.Name (C.nm.coN g) p) "index" ap) [y] [] q ∧ glB C.sc (C.nm.coN g) = true ∧ okN (C.nm.coN g) = true ∧ chkE C a y = true ∧ isStar y = false ∧ (ap.endLine == q.line) = true ∧ isStrs (C.tab.con g) = true := by
  unfold chkE at h
  cases q : cixP e with
  | none => rw [q] at h; cases h
  | some z =>
    obtain ⟨x, y⟩ := z
    rw [q] at h
    obtain ⟨p, ap, cp, e1, e2⟩ := cixP_ok q
    obtain ⟨h1, h⟩ := ba h
    obtain ⟨h2, h⟩ := ba h
    obtain ⟨h3, h⟩ := ba h
    obtain ⟨h5, h⟩ := ba h
    obtain ⟨h6, h7⟩ := ba h
    have e3 := of_decide_eq_true h3
    subst e3
    exact ⟨p, ap, y, cp, e1, h1, h2, h5, nb h6, e2, h7⟩
theorem iv_lenSet {a : IE} (h : chkE C (.lenSet a) e = true) : ∃ p p2 y q q2, e = .Call (.Name "len" p) [.Call (.Name "set" p2) [y] [] q] [] q2 ∧ glB C.sc ("len" : Str) = true ∧ glB C.sc ("set" : Str) = true ∧ chkE C a y = true ∧ isStar y = false ∧ C.calm = true := by
  unfold chkE at h
  cases q : lsP e with
  | none => rw [q] at h; cases h
  | some y =>
    rw [q] at h
    obtain ⟨p, p2, q, q2, e1⟩ := lsP_ok q
    obtain ⟨h3, h⟩ := ba h
    obtain ⟨h4, h⟩ := ba h
    obtain ⟨h5, h⟩ := ba h
    obtain ⟨h6, h7⟩ := ba h
    exact ⟨p, p2, y, q, q2, e1, h3, h4, h5, nb h6, h7⟩
def chkO (C : Ck) (ie : IE) (o : Option Expr) : Bool := match o with
  | none => isNo ie
  | some x => !isNo ie && chkE C ie x
theorem iv_slc {m : Bool} {a lo hi : IE} (h : chkE C (.slc m a lo hi) e = true) : ∃ x l u p q, e = .Subscript x (.Slice l u none p) q ∧ chkE C a x = true ∧ chkO C lo l = true ∧ chkO C hi u = true := by
  cases e with
  | Subscript x sl q =>
    cases sl with
    | Slice l u st p =>
      cases st with
      | some _ => cases h
      | none =>
        obtain ⟨h1, h⟩ := ba h
        obtain ⟨h2, h3⟩ := ba h
        exact ⟨x, l, u, p, q, rfl, h1, h2, h3⟩
    | _ => cases h
  | _ => cases h
theorem iv_rev {m : Bool} {a : IE} (h : chkE C (.rev m a) e = true) : ∃ x k p1 p2 p3 q, e = .Subscript x (.Slice none none (some (.UnaryOp .USub (.Constant (.int 1) k p1) p2)) p3) q ∧ chkE C a x = true := by
  cases e with
  | Subscript x sl q =>
    cases sl with
    | Slice l u st p3 =>
      cases l with
      | some _ => cases h
      | none =>
        cases u with
        | some _ => cases h
        | none =>
          cases st with
          | none => cases h
          | some st =>
            cases st with
            | UnaryOp op c p2 =>
              cases op with
              | USub =>
                cases c with
                | Constant c k p1 =>
                  cases c with
                  | int i =>
                    obtain ⟨h1, h2⟩ := ba h
                    have e1 : i = 1 := of_decide_eq_true h1
                    subst e1
                    exact ⟨x, k, p1, p2, p3, q, rfl, h2⟩
                  | _ => cases h
                | _ => cases h
              | _ => cases h
            | _ => cases h
    | _ => cases h
  | _ => cases h
theorem iv_comp {m many : Bool} {k : ItK} {src : IEs} {tg : List Nat} {ifs : ICs} {elt : IE} (h : chkE C (.comp m k src many tg ifs elt) e = true) : ∃ x t it xs scope p, e = .ListComp x [⟨t, it, xs, 0⟩] scope p ∧ chkIt C t k src it = true ∧ L2.blkC C.N C.sc scope (ownOf C.N tg) = true ∧ chkT (C.blk scope) many tg t = true ∧ chkIfs (C.blk scope) ifs xs = true ∧ chkE (C.blk scope) elt x = true ∧ C.calm = true := by
  cases e with
  | ListComp x gs scope p =>
    cases gs with
    | nil => cases h
    | cons g gs =>
      obtain ⟨t, it, xs, n⟩ := g
      cases gs with
      | cons _ _ => cases h
      | nil =>
        obtain ⟨h1, h⟩ := ba h
        obtain ⟨h2, h⟩ := ba h
        obtain ⟨h3, h⟩ := ba h
        obtain ⟨h4, h⟩ := ba h
        obtain ⟨h5, h⟩ := ba h
        obtain ⟨h6, h7⟩ := ba h
        have e1 : n = 0 := of_decide_eq_true h1
        subst e1
        exact ⟨x, t, it, xs, scope, p, rfl, h2, h3, h4, h5, h6, h7⟩
  | _ => cases h
theorem iv_blt {b : Blt} {m : Bool} {es : IEs} (h : chkE C (.blt b m es) e = true) : ∃ p y ys q, e = .Call (.Name (bltN b) p) (y :: ys) [] q ∧ glB C.sc (bltN b) = true ∧ okN (bltN b) = true ∧ chkEs C es (y :: ys) = true ∧ noStar (y :: ys) = true ∧ (needCalm b = true → C.calm = true) := by
  cases e with
  | Call g as kw q =>
    cases g with
    | Name x p =>
      cases as with
      | nil => cases kw <;> cases h
      | cons y ys =>
        cases kw with
        | cons _ _ => cases h
        | nil =>
          obtain ⟨h1, h⟩ := ba h
          obtain ⟨h2, h⟩ := ba h
          obtain ⟨h3, h⟩ := ba h
          obtain ⟨h4, h⟩ := ba h
          obtain ⟨h5, h6⟩ := ba h
          have e1 := of_decide_eq_true h3
          subst e1
          exact ⟨p, y, ys, q, rfl, h1, h2, h4, h5, fun z => by rw [z] at h6; exact h6⟩
    | _ => cases h
  | _ => cases h
theorem iv_isi {a : IE} {many : Bool} {ts : List Ty} (h : chkE C (.isi a many ts) e = true) : (∃ t p y z q r, many = false ∧ ts = [t] ∧ e = .Call (.Name "isinstance" p) [y, .Name (tyN C.nm t) z] [] q ∧ r = tyN C.nm t ∧ glB C.sc ("isinstance" : Str) = true ∧ okN ("isinstance" : Str) = true ∧ chkE C a y = true ∧ isStar y = false ∧ glB C.sc r = true ∧ okN r = true ∧ isCl C.tab t = true) ∨
    (∃ p y zs k z q, many = true ∧ e = .Call (.Name "isinstance" p) [y, .Tuple zs k z] [] q ∧ glB C.sc ("isinstance" : Str) = true ∧ okN ("isinstance" : Str) = true ∧ chkE C a y = true ∧ isStar y = false ∧ tysB C ts zs = true ∧ noStar zs = true ∧ ts ≠ [] ∧ ts.length ≤ 1000) := by
  cases e with
  | Call g as kw q =>
    cases g with
    | Name x p =>
      cases as with
      | nil => cases many <;> (cases ts with | nil => cases h | cons _ ts => cases ts <;> cases h)
      | cons y ys =>
        cases ys with
        | nil => cases many <;> (cases ts with | nil => cases h | cons _ ts => cases ts <;> cases h)
        | cons ty ys =>
          cases ys with
          | cons _ _ => cases many <;> (cases ts with | nil => cases ty <;> cases h | cons _ ts => cases ts <;> cases ty <;> cases h)
          | nil =>
            cases kw with
            | cons _ _ => cases many <;> (cases ts with | nil => cases ty <;> cases h | cons _ ts => cases ts <;> cases ty <;> cases h)
            | nil =>
              cases many with
              | false =>
                cases ts with
                | nil => cases ty <;> cases h
                | cons t ts =>
                  cases ts with
                  | cons _ _ => cases ty <;> cases h
                  | nil =>
                    cases ty with
                    | Name z zp =>
                      obtain ⟨h1, h⟩ := ba h
                      obtain ⟨h2, h⟩ := ba h
                      obtain ⟨h3, h⟩ := ba h
                      obtain ⟨h4, h⟩ := ba h
                      obtain ⟨h5, h⟩ := ba h
                      obtain ⟨h6, h⟩ := ba h
                      obtain ⟨h7, h⟩ := ba h
                      obtain ⟨h8, h9⟩ := ba h
                      have e1 := of_decide_eq_true h3
                      have e2 := of_decide_eq_true h8
                      subst e1 e2
                      exact .inl ⟨t, p, y, zp, q, _, rfl, rfl, rfl, rfl, h1, h2, h4, nb h5, h6, h7, h9⟩
                    | _ => cases h
              | true =>
                cases ty with
                | Tuple zs k z =>
                  obtain ⟨h1, h⟩ := ba h
                  obtain ⟨h2, h⟩ := ba h
                  obtain ⟨h3, h⟩ := ba h
                  obtain ⟨h4, h⟩ := ba h
                  obtain ⟨h5, h⟩ := ba h
                  obtain ⟨h6, h⟩ := ba h
                  obtain ⟨h7, h⟩ := ba h
                  obtain ⟨h8, h9⟩ := ba h
                  have e1 := of_decide_eq_true h3
                  subst e1
                  exact .inr ⟨p, y, zs, k, z, q, rfl, rfl, h1, h2, h4, nb h5, h6, h7, (fun z => by subst z; cases h8), of_decide_eq_true h9⟩
                | _ => cases ts with | nil => cases h | cons _ ts => cases ts <;> cases h
    | _ => cases many <;> (cases ts with | nil => cases h | cons _ ts => cases ts <;> cases h)
  | _ => cases many <;> (cases ts with | nil => cases h | cons _ ts => cases ts <;> cases h)
end
section
variable {G : Gd} {C : Ck} {X : Cx} {Wx : WX} {k : Nat} {call : Call}
theorem nodupI_ok : ∀ {ns : List Int}, nodupI ns = true → ns.Nodup
  | [], _ => List.nodup_nil
  | i :: is, h => by
    obtain ⟨h1, h2⟩ := ba h
    refine List.nodup_cons.mpr ⟨fun hm => ?_, nodupI_ok h2⟩
    have z := nb h1
    rw [List.contains_iff_mem.mpr hm] at z
    cases z
theorem strsT_rep {F : Hp} : ∀ {ts : List T} {ys : List Str} {vs : List V}, strsT ts = some ys → RepL G F vs ts → vs = ys.map V.str
  | [], _, _, h, r => by cases h; cases r; rfl
  | .str x :: ts, _, _, h, r => by
    obtain ⟨zs, e1, e2⟩ := Option.map_eq_some_iff.mp (show (strsT ts).map (x :: ·) = some _ from h)
    subst e2
    cases r with
    | cons r rr =>
      cases r
      rw [strsT_rep e1 rr]
      rfl
  | .non :: _, _, _, h, _ => by cases h
  | .bl _ :: _, _, _, h, _ => by cases h
  | .int _ :: _, _, _, h, _ => by cases h
  | .tup _ :: _, _, _, h, _ => by cases h
  | .lst _ :: _, _, _, h, _ => by cases h
  | .ins _ _ :: _, _, _, h, _ => by cases h
  | .dct _ :: _, _, _, h, _ => by cases h
  | .fn _ :: _, _, _, h, _ => by cases h
  | .scr _ :: _, _, _, h, _ => by cases h
theorem pa_tys (ok : XOk G C X Wx k call) : ∀ {ts : List Ty} {zs : List Expr}, tysB C ts zs = true → noStar zs = true → PA X zs (fun σ H Q => Q (ts.map (tyW G)) H)
  | [], [], _, _ => pa_nil
  | t :: ts, z :: zs, h, hs => by
    cases z with
    | Name x p =>
      obtain ⟨h1, h⟩ := ba h
      obtain ⟨h2, h⟩ := ba h
      obtain ⟨h3, h⟩ := ba h
      obtain ⟨h4, h5⟩ := ba h
      have e1 := of_decide_eq_true h3
      rw [ok.nm] at e1
      subst e1
      rw [ok.tab] at h4
      exact PA.imp (pa_cons (pe_ty ok (ok.kindOf h1) h4 (okN_3 h2) (okN_1 h2)) (pa_tys ok h5 (ba hs).2) (star_cons X.env (nb (ba hs).1))) fun σ H Q q => q
    | _ => cases h
  | [], _ :: _, h, _ => by cases h
  | _ :: _, [], h, _ => by cases h
theorem bind_assoc {α β γ : Type} (m : R α) (f : α → Store → R β) (g : β → Store → R γ) : (m.bind f).bind g = m.bind fun a S => (f a S).bind g := by
  cases m <;> rfl
theorem cmpW_bind {γ δ : Type} {rep : Wd → δ → γ → Prop} {W : Wd} {σ : L2.St} {S : Store} {op : CmpOp} {v w : Val} {f : Val → Store → R γ} {Q : δ → Hp → Prop} (h : Post G rep Wx σ W ((cmpW op v w S).bind f) Q) :
    ∃ b, cmpW op v w S = .ok (.t (.bl b)) S ∧ Post G rep Wx σ W (f (.t (.bl b)) S) Q := by
  unfold cmpW at h ⊢
  split at h
  · rename_i x y e1 e2
    cases q : cmpT op x y with
    | none => rw [q] at h; exact (show False from h).elim
    | some b =>
      rw [q] at h
      exact ⟨b, rfl, h⟩
  · rename_i x e1 e2
    cases q : dInC op x w S with
    | none => rw [q] at h; exact (show False from h).elim
    | some b =>
      rw [q] at h
      exact ⟨b, rfl, h⟩
  · exact (show False from h).elim
theorem cmpV_bind {γ δ : Type} {rep : Wd → δ → γ → Prop} {W : Wd} {σ : L2.St} {S : Store} {op : CmpOp} {v w : Val} {f : Val → Store → R γ} {Q : δ → Hp → Prop} (h : Post G rep Wx σ W ((cmpV op v w S).bind f) Q) :
    ∃ b, cmpV op v w S = .ok (.t (.bl b)) S ∧ Post G rep Wx σ W (f (.t (.bl b)) S) Q := by
  unfold cmpV at h ⊢
  split at h
  · exact ⟨false, rfl, h⟩
  · exact ⟨true, rfl, h⟩
  · exact cmpW_bind h
theorem lm_false {o p : CmpOp} {m r : Expr} (h : isSet r = false) : lastMarks [o, p] [m, r] = false := isSet_ok (op := p) h
theorem iv_rng1 {C : Ck} {t : Expr} {a : IE} {e : Expr} (h : chkIt C t .range (.cons a .nil) e = true) : ∃ p y q, e = .Call (.Name "range" p) [y] [] q ∧ glB C.sc ("range" : Str) = true ∧ chkE C a y = true ∧ isStar y = false := by
  cases e with
  | Call f es kw q =>
    cases f with
    | Name x p =>
      cases es with
      | nil => cases kw <;> cases h
      | cons y ys =>
        cases ys with
        | cons _ _ => cases kw <;> cases h
        | nil =>
          cases kw with
          | cons _ _ => cases h
          | nil =>
            obtain ⟨h1, h⟩ := ba h
            obtain ⟨h2, h⟩ := ba h
            obtain ⟨h3, h4⟩ := ba h
            have e1 := of_decide_eq_true h1
            subst e1
            exact ⟨p, y, q, rfl, h2, h3, nb h4⟩
    | _ => cases h
  | _ => cases h
theorem iv_rng2 {C : Ck} {t : Expr} {a b : IE} {e : Expr} (h : chkIt C t .range (.cons a (.cons b .nil)) e = true) : ∃ p y z q, e = .Call (.Name "range" p) [y, z] [] q ∧ glB C.sc ("range" : Str) = true ∧ chkE C a y = true ∧ chkE C b z = true ∧ isStar y = false ∧ isStar z = false := by
  cases e with
  | Call f es kw q =>
    cases f with
    | Name x p =>
      cases es with
      | nil => cases kw <;> cases h
      | cons y ys =>
        cases ys with
        | nil => cases kw <;> cases h
        | cons z ys =>
          cases ys with
          | cons _ _ => cases kw <;> cases h
          | nil =>
            cases kw with
            | cons _ _ => cases h
            | nil =>
              obtain ⟨h1, h⟩ := ba h
              obtain ⟨h2, h⟩ := ba h
              obtain ⟨h3, h⟩ := ba h
              obtain ⟨h4, h⟩ := ba h
              obtain ⟨h5, h6⟩ := ba h
              have e1 := of_decide_eq_true h1
              subst e1
              exact ⟨p, y, z, q, rfl, h2, h3, h4, nb h5, nb h6⟩
    | _ => cases h
  | _ => cases h
theorem iv_enum {C : Ck} {t : Expr} {a : IE} {e : Expr} (h : chkIt C t .enum (.cons a .nil) e = true) : ∃ p y q es kk tp, e = .Call (.Name "enumerate" p) [y] [] q ∧ t = .Tuple es kk tp ∧ glB C.sc ("enumerate" : Str) = true ∧ chkE C a y = true ∧ isStar y = false := by
  cases e with
  | Call g ys kw q =>
    cases g with
    | Name x p =>
      cases ys with
      | nil => cases kw <;> cases h
      | cons y ys =>
        cases ys with
        | cons _ _ => cases kw <;> cases h
        | nil =>
          cases kw with
          | cons _ _ => cases h
          | nil =>
            obtain ⟨h1, h⟩ := ba h
            obtain ⟨h2, h⟩ := ba h
            obtain ⟨h3, h⟩ := ba h
            obtain ⟨h4, h5⟩ := ba h
            have e1 := of_decide_eq_true h1
            subst e1
            cases t with
            | Tuple es kk tp => exact ⟨p, y, q, es, kk, tp, rfl, rfl, h2, h3, nb h4⟩
            | _ => cases h5
    | _ => cases h
  | _ => cases h
theorem iv_zip {C : Ck} {t : Expr} {a b : IE} {e : Expr} (h : chkIt C t .zip (.cons a (.cons b .nil)) e = true) : ∃ p y z q es kk tp, e = .Call (.Name "zip" p) [y, z] [] q ∧ t = .Tuple es kk tp ∧ glB C.sc ("zip" : Str) = true ∧ chkE C a y = true ∧ chkE C b z = true ∧ isStar y = false ∧ isStar z = false := by
  cases e with
  | Call g ys kw q =>
    cases g with
    | Name x p =>
      cases ys with
      | nil => cases h
      | cons y ys =>
        cases ys with
        | nil => cases h
        | cons z ys =>
          cases ys with
          | cons _ _ => cases h
          | nil =>
            cases kw with
            | cons _ _ => cases h
            | nil =>
              obtain ⟨h1, h⟩ := ba h
              obtain ⟨h2, h⟩ := ba h
              obtain ⟨h3, h⟩ := ba h
              obtain ⟨h4, h⟩ := ba h
              obtain ⟨h5, h⟩ := ba h
              obtain ⟨h6, h7⟩ := ba h
              have e1 := of_decide_eq_true h1
              subst e1
              cases t with
              | Tuple es kk tp => exact ⟨p, y, z, q, es, kk, tp, rfl, rfl, h2, h3, h4, nb h5, nb h6⟩
              | _ => cases h7
    | _ => cases h
  | _ => cases h
theorem it_noset {C : Ck} {t : Expr} : ∀ {kk : ItK} {src : IEs} {it : Expr}, chkIt C t kk src it = true → ∀ (env : PySem.Env) x, foldedSetIterable it env x = pure x
  | .seq, .cons a .nil, it, h, env, x => by
    have z := nb (ba (show (chkE C a it && !isSet it) = true from h)).2
    cases it <;> first | rfl | cases z
  | .range, .cons a .nil, it, h, env, x => by
    obtain ⟨p, y, q, rfl, _⟩ := iv_rng1 h
    rfl
  | .range, .cons a (.cons b .nil), it, h, env, x => by
    obtain ⟨p, y, z, q, rfl, _⟩ := iv_rng2 h
    rfl
  | .seq, .nil, _, h, _, _ => by cases h
  | .seq, .cons _ (.cons _ _), _, h, _, _ => by cases h
  | .range, .nil, _, h, _, _ => by cases h
  | .range, .cons _ (.cons _ (.cons _ _)), _, h, _, _ => by cases h
  | .enum, .cons a .nil, it, h, env, x => by
    obtain ⟨p, y, q, es, kk, tp, rfl, _⟩ := iv_enum h
    rfl
  | .enum, .nil, it, h, _, _ => by cases it <;> cases h
  | .enum, .cons _ (.cons _ _), it, h, _, _ => by cases it <;> cases h
  | .zip, .cons a (.cons b .nil), it, h, env, x => by
    obtain ⟨p, y, z, q, es, kk, tp, rfl, _⟩ := iv_zip h
    rfl
  | .zip, .nil, it, h, _, _ => by cases it <;> cases h
  | .zip, .cons _ .nil, it, h, _, _ => by cases it <;> cases h
  | .zip, .cons _ (.cons _ (.cons _ _)), it, h, _, _ => by cases it <;> cases h
theorem look_blk {sc : Scope} {kd : NameKind} (hk : kd ≠ .free) : ∀ {names : List (Str × NameKind)} {x : Str}, names.lookup x = some kd →
    (names.map fun (n, k) => if (k == NameKind.free && sc.kind == .function && sc.names.lookup n == some .cell) then (n, NameKind.cell) else (n, k)).lookup x = some kd
  | [], _, h => by simp at h
  | (n, k) :: r, x, h => by
    have ih := @look_blk sc kd hk r x
    show List.lookup x ((if (k == NameKind.free && sc.kind == .function && sc.names.lookup n == some .cell) = true then (n, NameKind.cell) else (n, k)) :: _) = _
    by_cases z : x == n
    · have e : k = kd := by
        simp only [List.lookup, z] at h
        exact Option.some.inj h
      subst e
      have e2 : (k == NameKind.free) = false := beq_eq_false_iff_ne.mpr hk
      rw [e2]
      simp only [Bool.false_and, Bool.false_eq_true, if_false, List.lookup, z]
    · have z : (x == n) = false := by simpa using z
      simp only [List.lookup, z] at h
      split <;> (simp only [List.lookup, z]; exact ih h)
theorem scope_blk {env : PySem.Env} {sc scope : Scope} (h : env.scope = sc) : relabel scope env = blkSc sc scope := by
  subst h
  rfl
theorem XOk.blk {C : Ck} {X : Cx} {Wx : WX} (ok : XOk G C X Wx k call) (hcm : C.calm = true) (s : Shared) (H : Hp) (c : Addr) (cl : List (Str × Addr)) (fp : List Addr) (scope : Scope) : XOk G (C.blk scope) (X.blk s H scope (compEnvC scope cl c X.env) fp) noW k call :=
  { prog := ok.prog, w := ok.w, K := ok.K, mg := ok.mg, N := ok.N, nd := ok.nd, sc := scope_blk ok.sc, room := ok.room, roomH := ok.roomH, fnsH := ok.fnsH, hu := ok.hu, hs := ok.hs, cs := ok.cs, hx := fun i a c e => absurd ((congrArg (Option.map fun h => h.1) e).symm.trans (ok.hs.trans (ok.cs hcm))) (fun z => nomatch z), stk := fun z => absurd (show false = true from z) Bool.false_ne_true, calm := ok.calm, tk := takes0, pas := PassesOwn.never, tab := ok.tab, nm := ok.nm, free := ok.free, gl := ok.gl, cls := ok.cls, fns := ok.fns, okf := ok.okf, con := ok.con, exc := ok.exc, dc := ok.dc, xa := ok.xa, hk := ok.hk,
    can := fun i x hi hx => by
      have hx : locB scope x = true := hx
      have lk : ∀ {kd : NameKind}, kd ≠ .free → scope.names.lookup x = some kd → (X.blk s H scope (compEnvC scope cl c X.env) fp).env.scope.names.lookup x = some kd := fun {kd} hk h => by
        show (relabel scope X.env).names.lookup x = _
        rw [scope_blk ok.sc]
        exact look_blk hk h
      unfold locB at hx
      cases q : scope.names.lookup x with
      | none => rw [q] at hx; cases hx
      | some kd =>
        rw [q] at hx
        cases kd with
        | «local» => exact ⟨.inl (lk (nomatch ·) q), .inr (lk (nomatch ·) q)⟩
        | cell => exact ⟨.inr (lk (nomatch ·) q), .inl (by show (scope.names.lookup x == some .cell) = true; rw [q]; rfl)⟩
        | _ => cases hx }
theorem bmA_len {b : BM} {n : Nat} (h : bmA b n = true) : n ≤ 2 := by
  cases b with
  | insert => have := of_decide_eq_true (p := n = 2) h; omega
  | append => have := of_decide_eq_true (p := n = 1) h; omega
  | extend => have := of_decide_eq_true (p := n = 1) h; omega
  | pop => have := of_decide_eq_true (p := n = 0) h; omega
  | popi => have := of_decide_eq_true (p := n = 1) h; omega
  | index => have := of_decide_eq_true (p := n = 1) h; omega
  | count => have := of_decide_eq_true (p := n = 1) h; omega
theorem sO {C : Ck} {X : Cx} {Wx : WX} : ∀ (ie : IE) (o : Option Expr), (∀ x, chkE C ie x = true → PE X x (tE G Wx call ie)) → chkO C ie o = true → PO X o (Den G (fun _ (a b : Option Int) => a = b) Wx (fun env S => if isNo ie then .ok none S else (dE G.tab call ie env S).bind fun y S => optI y S))
  | ie, none, _, h => by
    have h : isNo ie = true := h
    refine ⟨fun pins s σ H Q I ⟨W, env, S, sm, er, q⟩ => po_none.run pins s σ H Q I ?_⟩
    rw [h] at q
    exact Post.ok (rep := fun _ (a b : Option Int) => a = b) q sm rfl
  | ie, some x, hE, h => by
    obtain ⟨h1, h2⟩ := ba h
    refine ⟨fun pins s σ H Q I ⟨W, env, S, sm, er, q⟩ => (po_some (hE x h2)).run pins s σ H Q I ?_⟩
    rw [nb h1] at q
    refine Den.step (show Post G (fun _ (a b : Option Int) => a = b) Wx σ W ((dE G.tab call ie env S).bind fun y S => optI y S) Q from q) sm er fun v S1 W1 x H1 e1 l1 s1 n1 r1 p1 => ?_
    cases v with
    | r n => exact (show False from p1).elim
    | t t =>
      cases t with
      | int i => cases r1; exact ⟨i, rfl, Post.ok (rep := fun _ (a b : Option Int) => a = b) p1 s1 rfl⟩
      | _ => exact (show False from p1).elim
theorem pa1 {X : Cx} {Wx : WX} {a : IE} {y : Expr} (h : PE X y (tE G Wx call a)) (hs : isStar y = false) : PA X [y] (tEs G Wx call (.cons a .nil)) :=
  PA.imp (pa_cons h pa_nil (star_cons X.env hs)) fun σ H Q ⟨W, env, S, sm, er, q⟩ => Den.step q sm er fun v S1 W1 x H1 e1 l1 s1 n1 r1 p1 => Post.ok (rep := fun W => Paired (RepV G W)) p1 s1 (.cons r1 .nil)
theorem pa2 {X : Cx} {Wx : WX} {a b : IE} {y z : Expr} (h : PE X y (tE G Wx call a)) (h2 : PE X z (tE G Wx call b)) (hs : isStar y = false) (hs2 : isStar z = false) : PA X [y, z] (tEs G Wx call (.cons a (.cons b .nil))) :=
  PA.imp (pa_cons h (pa1 h2 hs2) (star_cons X.env hs)) fun σ H Q ⟨W, env, S, sm, er, q⟩ =>
      Den.step q sm er fun v S1 W1 x H1 e1 l1 s1 n1 r1 p1 => Den.step p1 s1 n1 fun ws S2 W2 ys H2 e2 l2 s2 n2 r2 p2 => Post.ok (rep := fun W => Paired (RepV G W)) p2 s2 (.cons (r1.mono l2) r2)
def exV (G : Gd) : Option Nat → V
  | none => .ty "ValueError"
  | some d => .ref (G.eA d)
def exO (G : Gd) : Option Nat → Value
  | none => .type "ValueError"
  | some d => .ref (G.eA d)
theorem ex_cls (G : Gd) (t : Option Nat) : ClsV (exV G t) (exO G t) := by
  cases t <;> first | exact .ty _ | exact .own _
theorem ex_rel (G : Gd) (t : Option Nat) : RelV (exV G t) (exO G t) := by
  cases t <;> rfl
def DictAt (H : Hp) (od : Option Addr) : Prop := ∀ d, od = some d → ∃ gs, H d = some (.xd gs)
theorem inst_at {X : Cx} {pins : List (Addr × Obj)} {σ : L2.St} {H : Hp} {s : Shared} {a D : Addr} {oe : Obj} {od : Option Addr} (I : Inv X pins σ H s) (hpn : (a, oe) ∈ X.pn) (hz : Zc (.ref D) od oe) (hf : ∃ vs, oe.data = .fields vs) (hd : DictAt H od) : ∃ o, PySem.W.InstAt s.heap a oe D o := by
  obtain ⟨hget, _⟩ := I.pin (a, oe) (List.mem_append.mpr (.inl hpn))
  obtain ⟨vs, hv⟩ := hf
  obtain ⟨oc, od', oda, osl⟩ := oe
  obtain ⟨h1, h2⟩ := hz
  dsimp only at h1 h2 hv
  subst h1 h2 hv
  cases od' with
  | none => exact ⟨none, hget, rfl, rfl, trivial⟩
  | some d =>
    obtain ⟨gs, hg⟩ := hd d rfl
    obtain ⟨mA, hns, hr⟩ := (show ObjOk X.prog X.w H s.heap d (.xd gs) from I.hok d _ hg)
    obtain ⟨o, es, ep, ho, _⟩ := hns
    exact ⟨some o, hget, rfl, rfl, ho⟩
theorem kitx_e {K : PySem.W.Frag} {D a : Addr} {oe : Obj} {o : Option Obj} (C : ExcC K D) : PySem.W.KitX K (.ref a) (.ref D) (fun h => PySem.W.InstAt h a oe D o) :=
  PySem.W.kitx_exc (by obtain ⟨cd, hc, _⟩ := PySem.W.any_some C.hd; rw [hc]; rfl) C.hg C.hk C.hs C.ha C.hn C.ht C.hm
def rIsET (K : PySem.W.Frag) (D a : Addr) (od : Option Addr) : List V → Hp → VK → Prop := fun xs H Q => ∃ (tp : Addr) (cs : List V) (us : List Value) (b : Bool), xs = [.ref a, .ref tp] ∧ H tp = some (.tup cs) ∧ Paired ClsV cs us ∧ PySem.W.kitAny K (.ref D) us = some b ∧ DictAt H od ∧ Q (.bl b) H
theorem is_eT {X : Cx} {a D : Addr} {oe : Obj} {od : Option Addr} (C : ExcC X.K D) (hpn : (a, oe) ∈ X.pn) (hz : Zc (.ref D) od oe) (hf : ∃ vs, oe.data = .fields vs) : CallR X (.builtin "isinstance") (rIsET X.K D a od) := by
  intro pins s σ H xs us Q I r h
  obtain ⟨tp, cs, ws, b, rfl, hT, kk, e, hd, q⟩ := h
  obtain ⟨u1, u2, rfl, r1, r2⟩ := vals2 r
  cases (show u1 = Value.ref a from r1)
  cases (show u2 = Value.ref tp from r2)
  obtain ⟨_, its, rv, o, h1, h2, n, h3⟩ := (show ObjOk X.prog X.w H s.heap tp (.tup cs) from I.hok tp _ hT)
  have e3 := ClsV.all kk rv
  subst e3
  obtain ⟨oc, od, dt, sl⟩ := o
  simp only at h2 h3
  subst h2 h3
  obtain ⟨_, J⟩ := inst_at I hpn hz hf hd
  exact PySem.W.kia_tup (kitx_e C) I.kIn J h1 e (fun z => nomatch z) fun tk => ⟨.bl b, H, I.kept (t' := tk) fun _ _ z => z, rfl, q⟩
def rIsEO (K : PySem.W.Frag) (D a : Addr) (od : Option Addr) : List V → Hp → VK → Prop := fun xs H Q => ∃ (c : V) (cv : Value) (b : Bool), xs = [.ref a, c] ∧ (∀ u, RelV c u → u = cv) ∧ PySem.W.kitOne K (.ref D) cv = some b ∧ DictAt H od ∧ Q (.bl b) H
theorem is_e {X : Cx} {a D : Addr} {oe : Obj} {od : Option Addr} (C : ExcC X.K D) (hpn : (a, oe) ∈ X.pn) (hz : Zc (.ref D) od oe) (hf : ∃ vs, oe.data = .fields vs) : CallR X (.builtin "isinstance") (rIsEO X.K D a od) := by
  intro pins s σ H xs us Q I r h
  obtain ⟨c, cv, b, rfl, hcv, e, hd, q⟩ := h
  obtain ⟨u1, u2, rfl, r1, r2⟩ := vals2 r
  cases (show u1 = Value.ref a from r1)
  cases hcv _ r2
  obtain ⟨_, J⟩ := inst_at I hpn hz hf hd
  exact PySem.W.kia_one (kitx_e C) I.kIn J e (fun z => nomatch z) fun tk => ⟨.bl b, H, I.kept (t' := tk) fun _ _ z => z, rfl, q⟩
theorem ExF.dictAt {G : Gd} {F H : Hp} {c : Nat} {od : Option Addr} {fs : List (Nat × T)} (h : ExF G F c od fs) (s : Same F H) : DictAt H od := fun d e => by
  rcases h with ⟨_, z⟩ | ⟨g, f, t, d', v, _, z, _, hd, _⟩
  · rw [e] at z; cases z
  · rw [e] at z
    cases z
    exact ⟨_, s _ _ hd⟩
section
variable {C : Ck} {X : Cx} {Wx : WX} {call : Call} {G : Gd} {k : Nat}
theorem ex_free : ("ValueError" : Str) ∈ ["len", "int", "str", "min", "max", "abs", "list", "tuple", "all", "any", "sum", "divmod", "sorted", "bool", "isinstance", "range", "enumerate", "zip", "dict", "set", "ValueError"].map Str.ofString := by decide +kernel
theorem pa_exs (ok : XOk G C X Wx k call) : ∀ {ts : List (Option Nat)} {zs : List Expr}, exsB C ts zs = true → noStar zs = true → PA X zs (fun σ H Q => Q (ts.map (exV G)) H)
  | [], [], _, _ => pa_nil
  | none :: ts, z :: zs, h, hs => by
    cases z with
    | Name x p =>
      obtain ⟨h1, h⟩ := ba h
      obtain ⟨h2, h⟩ := ba h
      obtain ⟨h3, h4⟩ := ba h
      have e1 := of_decide_eq_true h3
      subst e1
      exact PA.imp (pa_cons (pe_bltn (ok.kindOf h1) (by rw [ok.mg]; exact ok.free _ ex_free) (by show bootBuiltins (Str.ofString "ValueError") = some (.type "ValueError"); decide +kernel) (ex_rel G none) (okN_3 h2) (okN_1 h2)) (pa_exs ok h4 (ba hs).2) (star_cons X.env (nb (ba hs).1))) fun σ H Q q => q
    | _ => cases h
  | some d :: ts, z :: zs, h, hs => by
    cases z with
    | Name x p =>
      obtain ⟨h1, h⟩ := ba h
      obtain ⟨h2, h⟩ := ba h
      obtain ⟨h3, h⟩ := ba h
      obtain ⟨h4, h5⟩ := ba h
      have e1 := of_decide_eq_true h3
      rw [ok.nm] at e1
      subst e1
      rw [ok.tab] at h4
      obtain ⟨l, hl⟩ := Option.isSome_iff_exists.mp h4
      exact PA.imp (pa_cons (pe_glob (ok.kindOf h1) (by rw [ok.mg]; exact (ok.exc d l hl).mg) (ex_rel G (some d)) (okN_1 h2)) (pa_exs ok h5 (ba hs).2) (star_cons X.env (nb (ba hs).1))) fun σ H Q q => q
    | _ => cases h
  | [], _ :: _, h, _ => by cases h
  | none :: _, [], h, _ => by cases h
  | some _ :: _, [], h, _ => by cases h
theorem ex_many (ok : XOk G C X Wx k call) {c : Nat} {lc : List Nat} (hc : G.tab.exc c = some lc) : ∀ {ts : List (Option Nat)} {b : Bool}, exAny G.tab c ts = some b → PySem.W.kitAny G.K (.ref (G.eA c)) (ts.map (exO G)) = some b
  | [], b, h => by cases h; rfl
  | none :: ts, b, h => by
    have h : some true = some b := h
    cases h
    exact kitAny_cons (ok.exc c lc hc).ve (fun z => nomatch z) (fun _ => rfl)
  | some d :: ts, b, h => by
    have h : (match G.tab.exc c with
      | some l => if (G.tab.exc d).isSome then (if l.contains d then some true else exAny G.tab c ts) else none
      | none => none) = some b := h
    rw [hc] at h
    have h : (if (G.tab.exc d).isSome then (if lc.contains d then some true else exAny G.tab c ts) else none) = some b := h
    cases q : G.tab.exc d with
    | none => rw [q] at h; cases h
    | some l =>
      rw [q] at h
      have h : (if lc.contains d then some true else exAny G.tab c ts) = some b := h
      refine kitAny_cons ((ok.exc c lc hc).kO lc hc d l q).1 (fun z => ?_) (fun z => ?_)
      · rw [z] at h
        exact ex_many ok hc h
      · rw [z] at h
        cases h
        rfl
theorem ex_one (ok : XOk G C X Wx k call) {c : Nat} {lc : List Nat} (hc : G.tab.exc c = some lc) {t : Option Nat} {b : Bool} (h : exAny G.tab c [t] = some b) : PySem.W.kitOne G.K (.ref (G.eA c)) (exO G t) = some b := by
  cases t with
  | none =>
    have h : some true = some b := h
    cases h
    exact (ok.exc c lc hc).ve
  | some d =>
    have h : (match G.tab.exc c with
      | some l => if (G.tab.exc d).isSome then (if l.contains d then some true else some false) else none
      | none => none) = some b := h
    rw [hc] at h
    have h : (if (G.tab.exc d).isSome then (if lc.contains d then some true else some false) else none) = some b := h
    cases q : G.tab.exc d with
    | none => rw [q] at h; cases h
    | some l =>
      rw [q] at h
      have h : (if lc.contains d then some true else some false) = some b := h
      have e : (if lc.contains d then some true else some false) = some (lc.contains d) := by cases lc.contains d <;> rfl
      rw [e] at h
      cases h
      exact ((ok.exc c lc hc).kO lc hc d l q).1
theorem ex_post {i : Nat} {ts : List (Option Nat)} {W : Wd} {σ : L2.St} {env : Env} {S : Store} {Q : VK} {a : Addr} {c : HC} (hG : G.hs = some (i, a, c)) (er : EnvRep G W σ env) (q : PostV G Wx σ W (exIsV G.tab ts env[i]? S) Q) : σ[i]? = some (some (.ref a)) ∧ (∃ fs, ExF G W.F c.1 c.2 fs) ∧ ∃ b, exAny G.tab c.1 ts = some b ∧ PostV G Wx σ W (.ok (.t (.bl b)) S) Q := by
  unfold exIsV at q
  split at q
  · rename_i c' fs' e
    obtain ⟨x, h1, h2⟩ := er.2 i _ e
    rcases h2 with h2 | ⟨a2, c2, fs, e2, e3, e4, e5⟩
    · cases h2
    · rw [hG] at e2
      cases e2
      cases e3
      subst e4
      refine ⟨h1, ⟨_, e5⟩, ?_⟩
      cases z : exAny G.tab c.1 ts with
      | none => rw [z] at q; exact (show False from q).elim
      | some b =>
        rw [z] at q
        exact ⟨b, rfl, q⟩
  · exact (show False from q).elim
theorem pe_exIs (ok : XOk G C X Wx k call) {i : Nat} {many : Bool} {ts : List (Option Nat)} {e : Expr} (h : chkE C (.exIs i many ts) e = true) : PE X e (tE G Wx call (.exIs i many ts)) := by
  obtain ⟨x, zs, h0, h1, h2, h3, h4, h5, h6, h7, h8⟩ := iv_exIs h
  have hh := ok.hs
  rw [h1] at hh
  obtain ⟨⟨i', a, c⟩, hG, ei⟩ := Option.map_eq_some_iff.mp hh
  have ei : i' = i := ei
  subst ei
  obtain ⟨oe, hpn, hz, hf, lc, hc⟩ := ok.hx i' a c hG
  have fr : X.mg ("isinstance" : Str) = none := by
    rw [ok.mg]
    exact ok.free _ (by decide +kernel)
  have hE : ExcC X.K (G.eA c.1) := by rw [ok.K]; exact (ok.exc c.1 lc hc).isE
  have hv := fun pos => pe_var (X := X) (pos := pos) (i := i') (x := x) (by rw [ok.N]; exact h2) (ok.vis h3) (okN_1 h4) (okN_2 h4)
  rcases exP_ok h0 with ⟨rfl, p, p2, z, zp, q, rfl, rfl⟩ | ⟨rfl, p, p2, kk, tp, q, rfl⟩
  · cases ts with
    | nil => cases h6
    | cons t ts =>
      have hts : ts = [] := by
        cases ts with
        | nil => rfl
        | cons _ _ => cases t <;> (have h6 := h6; simp [exsB] at h6)
      subst hts
      have hr : CallR X (.builtin "isinstance") (rIsEO G.K (G.eA c.1) a c.2) := by
        rw [← ok.K]
        exact is_e hE hpn hz hf
      refine PE.imp (pe_callB hr (ok.kindOf h5) fr (by decide +kernel) (pa_cons (hv _) (pa_exs ok h6 h7) rfl) (by decide +kernel) (by decide +kernel) rfl rfl) ?_
      rintro σ H Q ⟨W, env, S, sm, er, q⟩
      obtain ⟨e1, ⟨fs, e3⟩, b, e2, p1⟩ := ex_post hG er q
      exact ⟨.ref a, e1, exV G t, exO G t, b, rfl, fun u r => (ex_cls G t).eq r, ex_one ok hc e2, e3.dictAt sm.fz, post_t p1 sm (.bl b)⟩
  · have hr : CallR X (.builtin "isinstance") (rIsET G.K (G.eA c.1) a c.2) := by
      rw [← ok.K]
      exact is_eT hE hpn hz hf
    refine PE.imp (pe_callB hr (ok.kindOf h5) fr (by decide +kernel) (pa_cons (hv _) (pa_cons (pe_tup (pa_exs ok h6 h7)) pa_nil rfl) rfl) (by decide +kernel) (by decide +kernel) rfl rfl) ?_
    rintro σ H Q ⟨W, env, S, sm, er, q⟩
    obtain ⟨e1, ⟨fs, e3⟩, b, e2, p1⟩ := ex_post hG er q
    refine ⟨.ref a, e1, by rw [List.length_map]; exact Nat.le_trans h8 (by decide), fun tp htp => ?_⟩
    exact ⟨tp, ts.map (exV G), ts.map (exO G), b, rfl, upd_same, paired_map (ex_cls G) ts, ex_many ok hc e2, e3.dictAt (sm.fz.trans (same_upd htp)), post_t (p1.mono (Wd.le_addF sm htp _)) (sm.addF htp _) (.bl b)⟩
end
theorem iv_hot {C : Ck} {f i : Nat} {e : Expr} (h : chkE C (.hot f i) e = true) : ∃ p x p2 q, e = .Call (.Name (C.nm.fnN f) p) [.Name x p2] [] q ∧ C.hs = some i ∧ C.N[i]? = some x ∧ visB C.sc x = true ∧ okN x = true ∧ glB C.sc (C.nm.fnN f) = true ∧ okN (C.nm.fnN f) = true ∧ hotB C.tab f = true ∧ C.glF f = true := by
  cases e with
  | Call g ys kw q =>
    cases g with
    | Name g p =>
      cases ys with
      | nil => cases h
      | cons y ys =>
        cases y with
        | Name x p2 =>
          cases ys with
          | cons _ _ => cases h
          | nil =>
            cases kw with
            | cons _ _ => cases h
            | nil =>
              obtain ⟨h1, h⟩ := ba h
              obtain ⟨h2, h⟩ := ba h
              obtain ⟨h3, h⟩ := ba h
              obtain ⟨h4, h⟩ := ba h
              obtain ⟨h5, h⟩ := ba h
              obtain ⟨h6, h⟩ := ba h
              obtain ⟨h7, h⟩ := ba h
              obtain ⟨h8, h9⟩ := ba h
              have e := of_decide_eq_true h7
              subst e
              exact ⟨p, x, p2, q, rfl, of_decide_eq_true h1, of_decide_eq_true h2, h3, h4, h5, h6, h8, h9⟩
        | _ => cases h
    | _ => cases h
  | _ => cases h
theorem hot_post {G : Gd} {Wx : WX} {call : Call} {f i : Nat} {W : Wd} {σ : L2.St} {env : Env} {S : Store} {Q : VK} {a : Addr} {c : HC} (hG : G.hs = some (i, a, c)) (er : EnvRep G W σ env) (q : PostV G Wx σ W (hotV call f env[i]? S) Q) : σ[i]? = some (some (.ref a)) ∧ ∃ fs, ExF G W.F c.1 c.2 fs ∧ PostV G Wx σ W ((call f [.t (.exn c.1 fs)] S).nob fun v S => .ok v S) Q := by
  unfold hotV at q
  split at q
  · rename_i c' fs' e
    obtain ⟨x, h1, h2⟩ := er.2 i _ e
    rcases h2 with h2 | ⟨a2, c2, fs, e2, e3, e4, e5⟩
    · cases h2
    · rw [hG] at e2
      cases e2
      cases e3
      subst e4
      exact ⟨h1, _, e5, q⟩
  · exact (show False from q).elim
theorem pe_hot {G : Gd} {C : Ck} {X : Cx} {Wx : WX} {k : Nat} {call : Call} (ok : XOk G C X Wx k call) {f i : Nat} {e : Expr} (h : chkE C (.hot f i) e = true) : PE X e (tE G Wx call (.hot f i)) := by
  obtain ⟨p, x, p2, q, rfl, h1, h2, h3, h4, h5, h6, h7, h8⟩ := iv_hot h
  have hh := ok.hs
  rw [h1] at hh
  obtain ⟨⟨i', a, c⟩, hG, ei⟩ := Option.map_eq_some_iff.mp hh
  have ei : i' = i := ei
  subst ei
  obtain ⟨oe, hpn, hz, hf, lc, hc⟩ := ok.hx i' a c hG
  unfold hotB at h7
  rw [ok.tab] at h7
  cases hd : G.tab.fn f with
  | none => rw [hd] at h7; cases h7
  | some d =>
    rw [hd] at h7
    obtain ⟨d1, d2⟩ := ba h7
    have d2 := of_decide_eq_true d2
    obtain ⟨run, hcall, F⟩ := ok.fnsH f d hd d1
    obtain ⟨fd, y, hb, F⟩ := F.ex d2
    obtain ⟨g1, g2⟩ := ok.gl f h8
    have ha : PA X [.Name x p2] _ := pa_cons (pe_var (X := X) (pos := p2) (i := i') (x := x) (by rw [ok.N]; exact h2) (ok.vis h3) (okN_1 h4) (okN_2 h4)) pa_nil rfl
    refine ⟨fun pins s σ H Q I ⟨W, env, S, sm, er, qq⟩ => ?_⟩
    obtain ⟨e1, fs, hex, pq⟩ := hot_post hG er qq
    rw [hcall] at pq
    have e0 : dflV d [Val.t (.exn c.1 fs)].length = [] := by
      unfold dflV
      rw [d2]
      show List.map Val.t (d.dfl.drop (d.dfl.length - 0)) = []
      rw [Nat.sub_zero, List.drop_length]
      rfl
    rw [e0, List.append_nil] at pq
    refine wpAny_Call_Name_kw (ld_glob I (ok.kindOf h5) (by rw [ok.mg, ok.nm]; exact g1) ?_ (okN_1 h6))
    refine PySem.W.callWith_K (h₀ := X.base) I.ok.mod.kin (by rw [ok.K]; exact g2) (thn (ha.run q pins s σ H (fun vs H1 => vs = [V.ref a] ∧ H = H1) I ⟨.ref a, e1, rfl, rfl⟩) fun us s1 ⟨vs, H1, I1, r, ev, eH⟩ => ⟨I1.kIn, ?_⟩) rfl rfl
    subst ev
    rw [← eH] at I1
    cases r with
    | cons ru rn =>
      cases rn
      cases ru
      have b := hb s1 [.ref a] (by rw [← ok.K]; exact I1.kIn) rfl
      have P1 := I1.pin (a, oe) (List.mem_append_left _ hpn)
      have hpin : L2H.PinOk X.stack H s1 (a, oe) := ⟨P1.1, P1.2.1, fun hm => (List.mem_cons.mp (I1.stkSub a hm)).elim P1.2.2.1 P1.2.2.2.1, P1.2.2.2.2⟩
      have E0 := I1.env0
      rw [ok.prog, ok.w, ok.K, ok.mg] at E0
      have z := F G.hs X.A X.stack s1 H ⟨[.ref a], []⟩ W S a oe c fs lc Q ⟨by have := ok.roomH.dp; omega, by have := ok.roomH.un; omega⟩ hpin E0 b hz hf hc hex sm ?_
      · refine wpAny_call (codeAny_mono (by rw [ok.prog, ok.w]; exact z) fun r s' hq => ?_)
        cases r with
        | error e =>
          obtain ⟨_, _, _, _, _, _, _, _, _, _, _, _, z⟩ := (show L2.CX G.prog G.w X.stack H s1 (fun _ _ _ => False) e s' from hq)
          exact z.elim
        | ok fl =>
          cases fl with
          | ret u => exact I1.after (by rw [ok.prog, ok.w]; exact hq)
          | next => exact False.elim hq
          | brk => exact False.elim hq
          | cont => exact False.elim hq
      · cases hr : run [.t (.exn c.1 fs)] S with
        | ok v S1 => rw [hr] at pq; exact pq
        | ex x S1 => rw [hr] at pq; exact (show False from pq).elim
        | bad => rw [hr] at pq; exact pq
theorem iv_exAt {C : Ck} {i f : Nat} {e : Expr} (h : chkE C (.exAt i f) e = true) : ∃ x p q, e = .Attribute (.Name x p) (C.nm.atN f) q ∧ C.hs = some i ∧ C.N[i]? = some x ∧ visB C.sc x = true ∧ okN x = true := by
  cases e with
  | Attribute y n q =>
    cases y with
    | Name x p =>
      obtain ⟨h1, h⟩ := ba h
      obtain ⟨h2, h⟩ := ba h
      obtain ⟨h3, h⟩ := ba h
      obtain ⟨h4, h5⟩ := ba h
      have e := of_decide_eq_true h5
      subst e
      exact ⟨x, p, q, rfl, of_decide_eq_true h1, of_decide_eq_true h2, h3, h4⟩
    | _ => cases h
  | _ => cases h
theorem pe_exAt {G : Gd} {C : Ck} {X : Cx} {Wx : WX} {k : Nat} {call : Call} (ok : XOk G C X Wx k call) {i f : Nat} {e : Expr} (h : chkE C (.exAt i f) e = true) : PE X e (tE G Wx call (.exAt i f)) := by
  obtain ⟨x, p, q, rfl, h1, h2, h3, h4⟩ := iv_exAt h
  have hh := ok.hs
  rw [h1] at hh
  obtain ⟨⟨i', a, c⟩, hG, ei⟩ := Option.map_eq_some_iff.mp hh
  have ei : i' = i := ei
  subst ei
  obtain ⟨oe, hpn, hz, hf, lc, hc⟩ := ok.hx i' a c hG
  have E := (ok.exc c.1 lc hc).isE
  refine ⟨fun pins s σ H Q I ⟨W, env, S, sm, er, qq⟩ => ?_⟩
  have qq : PostV G Wx σ W (exAtV f env[i']? S) Q := qq
  have key : σ[i']? = some (some (.ref a)) ∧ ∃ (g : Nat) (t : T) (d : Addr) (v : V), c.2 = some d ∧ G.tab.exa c.1 = some (g, f) ∧ W.F d = some (.xd [(G.nm.atN f, v)]) ∧ Rep G W.F v t ∧ PostV G Wx σ W (.ok (.t t) S) Q := by
    unfold exAtV at qq
    split at qq
    · rename_i c' g' t' e
      obtain ⟨z, z1, z2⟩ := er.2 i' _ e
      rcases z2 with z2 | ⟨a2, c2, fs, e2, e3, e4, e5⟩
      · cases z2
      · rw [hG] at e2
        cases e2
        cases e3
        subst e4
        refine ⟨z1, ?_⟩
        split at qq
        · rename_i ef
          subst ef
          rcases e5 with ⟨z, _⟩ | ⟨g, f1, t1, d, v, w1, w2, w3, w4, w5⟩
          · cases z
          · cases w1
            exact ⟨g, _, d, v, w2, w3, w4, w5, qq⟩
        · exact (show False from qq).elim
    · exact (show False from qq).elim
  obtain ⟨e1, g, t, d, v, w2, w3, w4, w5, p1⟩ := key
  have D := ok.xa c.1 g f w3
  refine attr_of (by rfl) (thn ((pe_var (X := X) (pos := p) (i := i') (x := x) (by rw [ok.N]; exact h2) (ok.vis h3) (okN_1 h4) (okN_2 h4)).run pins s σ H (fun z H1 => z = V.ref a ∧ H = H1) I ⟨.ref a, e1, rfl, rfl⟩) fun u s1 hu => ?_)
  obtain ⟨z, H1, I1, rz, ez, eH⟩ := hu
  subst ez eH
  obtain rfl : u = Value.ref a := rz
  obtain ⟨ha, _⟩ := I1.pin (a, oe) (List.mem_append_left _ hpn)
  obtain ⟨vs, hd⟩ := hf
  obtain ⟨mA, hns, hr⟩ := (show ObjOk X.prog X.w H s1.heap d (.xd [(G.nm.atN f, v)]) from I1.hok d _ (sm.fz _ _ w4))
  obtain ⟨od, ho, hl⟩ := lookIn_ns hns
  obtain ⟨u, hu, ru⟩ := RelO.some_of (v := v) (o := mA (G.nm.atN f)) (by have z := hr (G.nm.atN f); rw [lookup_put, if_pos rfl] at z; exact z)
  have J : PySem.W.InstAt s1.heap a oe (G.eA c.1) (some od) := ⟨ha, hz.1, by unfold PySem.W.notCls; rw [hd] <;> rfl, by rw [hz.2, w2]; exact ho⟩
  rw [ok.nm]
  exact HandSPX.exc_get I1.kIn J (by rw [ok.K]; exact E.hg) (by rw [ok.K]; exact E.hk) (by rw [ok.K]; exact E.hs) (by rw [ok.K]; exact PySem.W.findObj_own E.hd D.hno rfl (by rw [hl, hu])) (handed_of ru) ⟨v, H, I1.tok _, ru, post_t p1 sm w5⟩
theorem iv_inRg {C : Ck} {a b : IE} {e : Expr} {neg : Bool} (h : chkE C (.inRg neg a b) e = true) : ∃ l p2 y q p, e = .Compare l [if neg then .NotIn else .In] [.Call (.Name "range" p2) [y] [] q] p ∧ glB C.sc ("range" : Str) = true ∧ chkE C a l = true ∧ chkE C b y = true ∧ isStar y = false := by
  have h : (match irP e with
    | some (n2, l, y) => (n2 == neg) && (glB C.sc ("range" : Str) && (chkE C a l && (chkE C b y && !isStar y)))
    | none => false) = true := h
  cases q : irP e with
  | none => rw [q] at h; cases h
  | some z =>
    obtain ⟨n2, l, y⟩ := z
    rw [q] at h
    obtain ⟨h0, g⟩ := ba (show (n2 == neg && (glB C.sc ("range" : Str) && (chkE C a l && (chkE C b y && !isStar y)))) = true from h)
    clear h
    have h0 := eq_of_beq h0
    subst h0
    obtain ⟨p2, q, p, e1⟩ := irP_ok q
    obtain ⟨h3, g⟩ := ba g
    obtain ⟨h4, g⟩ := ba g
    obtain ⟨h5, h6⟩ := ba g
    exact ⟨l, p2, y, q, p, e1, h3, h4, h5, nb h6⟩
theorem iv_listRg {C : Ck} {a : IE} {e : Expr} (h : chkE C (.listRg a) e = true) : ∃ p p2 y q q2, e = .Call (.Name "list" p) [.Call (.Name "range" p2) [y] [] q] [] q2 ∧ glB C.sc ("list" : Str) = true ∧ glB C.sc ("range" : Str) = true ∧ chkE C a y = true ∧ isStar y = false ∧ C.calm = true := by
  have h : (match lrP e with
    | some y => glB C.sc ("list" : Str) && (glB C.sc ("range" : Str) && (chkE C a y && (!isStar y && C.calm)))
    | none => false) = true := h
  cases q : lrP e with
  | none => rw [q] at h; cases h
  | some y =>
    rw [q] at h
    obtain ⟨p, p2, q, q2, e1⟩ := lrP_ok q
    obtain ⟨h3, h⟩ := ba h
    obtain ⟨h4, h⟩ := ba h
    obtain ⟨h5, h⟩ := ba h
    obtain ⟨h6, h7⟩ := ba h
    exact ⟨p, p2, y, q, q2, e1, h3, h4, h5, nb h6, h7⟩
theorem rg_rep {G : Gd} {W : Wd} (n : Int) : Paired (RepV G W) (rgV 0 n) (rng 0 n) := by
  unfold rgV rng
  have key : ∀ l : List Nat, Paired (RepV G W) (l.map fun i => V.int (0 + (i : Nat))) (l.map fun (i : Nat) => Val.t (T.int (0 + Int.ofNat i))) := fun l => by
    induction l with
    | nil => exact .nil
    | cons i l ih => exact .cons (show Rep G W.F _ _ from .int _) ih
  exact key _
section
variable {C : Ck} {X : Cx} {Wx : WX} {call : Call} {G : Gd} {k : Nat}
theorem pe_mkx (ok : XOk G C X Wx k call) (hcm : C.calm = true) {c : Nat} {es : IEs} {y : Expr} {p q : Pos} (hg : Gl X (G.nm.exN c)) (ho : okN (G.nm.exN c) = true) (ha : PA X [y] (tEs G Wx call es)) (hs : isStar y = false) (hl : es.len = 1) (hc : (G.tab.exc c).isSome = true) (hk : ((G.tab.exa c).isSome || G.tab.exr c) = true) : PE X (.Call (.Name (G.nm.exN c) p) [y] [] q) (tE G Wx call (.mkx c es)) := by
  obtain ⟨l, hc⟩ := Option.isSome_iff_exists.mp hc
  have F := ok.exc c l hc
  cases hx : G.tab.exa c with
  | none =>
    rw [hx] at hk
    have hr : G.tab.exr c = true := hk
    refine PE.imp (pe_excA (C := G.eA c) PySem.F.excBase_ValueError (by rw [ok.K]; exact (F.ex hr).1) (by rw [ok.mg]; exact F.mg) (by rw [ok.K]; exact (F.ex hr).2) hg ha (okN_1 ho) (star_cons X.env hs) rfl) fun σ H Q ⟨W, env, S, sm, er, h⟩ => Den.step h sm er fun vs S1 W1 xs H1 e1 l1 s1 n1 r1 p1 => ⟨by rw [Paired.length r1, dEs_len e1, hl]; decide, fun a ha => ?_⟩
    have p1 : PostV G Wx σ W1 (mkxV G.tab c vs S1) Q := p1
    unfold mkxV at p1
    rw [hc, hx] at p1
    try dsimp only at p1
    split at p1
    · rw [if_pos hr] at p1
      exact post_t (p1.mono (Wd.le_addF s1 ha _)) (s1.addF ha _) (.exv upd_same)
    · rename_i z _
      cases z
    · exact (show False from p1).elim
  | some gf =>
    obtain ⟨g, f⟩ := gf
    have D0 := ok.xa c g f hx
    obtain ⟨xn, qual, params, body, scope, fd, N, ps, b, sl, at_, C0, mc, FD, Sc, Bd, ip, n0, n1, np, v0, v1, o0, o1, ob, gb, gs, mb, ms, cr, vV⟩ := D0.ex
    have F1 : FnOk X.prog X.w X.K X.mg X.base (fun _ _ _ _ _ _ => False) 1 (G.fA g) fd ps (spI (G.eA c) (G.nm.atN f)) := by
      rw [ok.K, ok.mg]
      exact init_ok FD Sc ip n0 n1 np v0 v1 o0 o1 ob gb gs mb ms cr vV D0.T D0.hno
    refine PE.imp (pe_oex (CX := fun _ _ _ _ _ _ => False) (dvs := []) (by rw [ok.K]; exact D0.T) (by rw [ok.K]; exact D0.iC) (by rw [ok.K]; exact D0.tI) F1 ((ok.room hcm).mono (by have := ok.hk; omega)) (by rw [ok.K]; exact Bd) .nil (fun _ _ _ _ _ _ _ h => h.elim) hg (by rw [ok.mg]; exact D0.mg) ha (okN_1 ho) (star_cons X.env hs) rfl) fun σ H Q ⟨W, env, S, sm, er, h⟩ => Den.step h sm er fun vs S1 W1 xs H1 e1 l1 s1 n1 r1 p1 => ⟨by rw [Paired.length r1, dEs_len e1, hl]; decide, fun a ha => ?_⟩
    have p1 : PostV G Wx σ W1 (mkxV G.tab c vs S1) Q := p1
    unfold mkxV at p1
    rw [hc, hx] at p1
    try dsimp only at p1
    split at p1
    · rename_i z _
      cases z
    · rename_i f' i z1 z2 _
      cases z2
      split at p1
      · rename_i cc
        cases r1 with
        | cons r1 rr =>
          cases rr
          have r1 : Rep G W1.F _ (.int i) := r1
          cases r1
          refine ⟨a, i, rfl, cc, upd_same, fun d hd hne => ⟨rfl, ?_⟩⟩
          rw [upd_ne hne] at hd
          have e2 : upd (upd (upd H1 a (exo a (G.eA c) none)) d (exd d [(G.nm.atN f, .int i)])) a (exo a (G.eA c) (some d)) = upd (upd H1 d (exd d [(G.nm.atN f, .int i)])) a (exo a (G.eA c) (some d)) := by
            funext z
            by_cases za : z = a
            · rw [za, upd_same, upd_same]
            · rw [upd_ne za, upd_ne za]
              by_cases zd : z = d
              · rw [zd, upd_same, upd_same]
              · rw [upd_ne zd, upd_ne zd, upd_ne za]
          rw [e2]
          have ha2 : upd H1 d (exd d [(G.nm.atN f, .int i)]) a = none := by rw [upd_ne (Ne.symm hne)]; exact ha
          exact post_t (p1.mono ((Wd.le_addF s1 hd _).trans (Wd.le_addF (s1.addF hd _) ha2 _))) ((s1.addF hd _).addF ha2 _) (.exvF upd_same (by
            show upd (upd W1.F d _) a _ d = _
            rw [upd_ne hne, upd_same]))
      · exact (show False from p1).elim
    · exact (show False from p1).elim
theorem pe_isx (ok : XOk G C X Wx k call) {a : IE} {t : Option Nat} {y z : Expr} {p q : Pos} (ha : PE X y (tE G Wx call a)) (hy : isStar y = false) (h1 : glB C.sc ("isinstance" : Str) = true) (h6 : exsB C [t] [z] = true) (h7 : noStar [z] = true) : PE X (.Call (.Name "isinstance" p) [y, z] [] q) (tE G Wx call (.isx a [t])) := by
  have fr : X.mg ("isinstance" : Str) = none := by
    rw [ok.mg]
    exact ok.free _ (by decide +kernel)
  refine PE.imp (pe_callB is_x (ok.kindOf h1) fr (by decide +kernel) (pa_cons ha (pa_exs ok h6 h7) (star_cons X.env hy)) (by decide +kernel) (by decide +kernel) (star_cons X.env hy) (star_any h7)) ?_
  rintro σ H Q ⟨W, env, S, sm, er, q⟩
  refine Den.step q sm er fun v S1 W1 x H1 e1 l1 s1 n1 r1 p1 => ?_
  have p1 : PostV G Wx σ W1 (isxV G.tab [t] v S1) Q := p1
  unfold isxV at p1
  split at p1
  · rename_i c fs _
    cases hc : G.tab.exc c with
    | none => rw [hc] at p1; exact (show False from p1).elim
    | some l =>
      rw [hc] at p1
      have p1 : PostV G Wx σ W1 (ofT ((exAny G.tab c [t]).map .bl) S1) Q := p1
      cases e2 : exAny G.tab c [t] with
      | none => rw [e2] at p1; exact (show False from p1).elim
      | some b =>
        rw [e2] at p1
        have kk := ex_one ok hc e2
        have fin : ∀ {ad : Addr} {gs : List (Str × V)}, XvAt H1 ad (G.eA c) gs → rIsX X.K [.ref ad, exV G t] H1 Q := fun hx =>
          ⟨_, G.eA c, _, exV G t, exO G t, b, rfl, hx, by rw [ok.K]; exact (ok.exc c l hc).isE, fun u r => (ex_cls G t).eq r, by rw [ok.K]; exact kk, post_t p1 s1 (.bl b)⟩
        have r1 : Rep G W1.F x (.exv c fs) := r1
        cases r1 with
        | exv h => exact fin (.inl ⟨rfl, s1.fz _ _ h⟩)
        | exvF h hd => exact fin (.inr ⟨_, s1.fz _ _ h, s1.fz _ _ hd⟩)
  · exact (show False from p1).elim
theorem pe_xvAt (ok : XOk G C X Wx k call) {a : IE} {f : Nat} {y : Expr} {p : Pos} (ha : PE X y (tE G Wx call a)) (hb : isSup y = false) : PE X (.Attribute y (G.nm.atN f) p) (tE G Wx call (.exvAt a f)) := by
  refine PE.imp (pe_xv ha (abase hb)) ?_
  rintro σ H Q ⟨W, env, S, sm, er, q⟩
  refine Den.step q sm er fun v S1 W1 x H1 e1 l1 s1 n1 r1 p1 => ?_
  have p2 : PostV G Wx σ W1 (xvAtV G.tab f v S1) Q := p1
  clear p1
  unfold xvAtV at p2
  split at p2
  · rename_i c g t
    cases hx : G.tab.exa c with
    | none => rw [hx] at p2; exact (show False from p2).elim
    | some gf =>
      obtain ⟨g0, f2⟩ := gf
      rw [hx] at p2
      have p3 : PostV G Wx σ W1 (if f = g ∧ f = f2 ∧ (G.tab.exc c).isSome = true then .ok (.t t) S1 else .bad) Q := p2
      clear p2
      by_cases cc : f = g ∧ f = f2 ∧ (G.tab.exc c).isSome = true
      · rw [if_pos cc] at p3
        obtain ⟨c1, c2, c3⟩ := cc
        subst c1
        subst c2
        obtain ⟨l, hc⟩ := Option.isSome_iff_exists.mp c3
        have E := (ok.exc c l hc).isE
        have D0 := ok.xa c g0 f hx
        have r1 : Rep G W1.F x (.exv c [(f, t)]) := r1
        cases r1 with
        | @exvF ad d _ _ i h hd => exact ⟨ad, G.eA c, d, [(G.nm.atN f, .int i)], .int i, rfl, by rw [ok.K]; exact ⟨E.hg, E.hk, E.hs, E.hd⟩, by rw [ok.K]; exact D0.hno, s1.fz _ _ h, s1.fz _ _ hd, by simp [List.lookup], post_t p3 s1 (.int i)⟩
      · rw [if_neg cc] at p3
        exact (show False from p3).elim
  · exact (show False from p2).elim
end
mutual
theorem sE {C : Ck} {X : Cx} {Wx : WX} (ok : XOk G C X Wx k call) : ∀ (ie : IE) (e : Expr), chkE C ie e = true → PE X e (tE G Wx call ie)
  | .var i, e, h => by
    obtain ⟨x, p, rfl, h1, h2, h3, h6⟩ := iv_var h
    refine PE.imp (pe_var (i := i) (by rw [ok.N]; exact h1) (ok.vis h2) (okN_1 h3) (okN_2 h3)) ?_
    rintro σ H Q ⟨W, env, S, sm, er, q⟩
    have q : PostV G Wx σ W (match env[i]? with
      | some (some v) => .ok v S
      | _ => .bad) Q := q
    cases z : env[i]? with
    | none => rw [z] at q; exact (show False from q).elim
    | some o =>
      cases o with
      | none => rw [z] at q; exact (show False from q).elim
      | some v =>
        rw [z] at q
        obtain ⟨x, h4, h5⟩ := er.2 i v z
        refine ⟨x, h4, Post.ok q sm ?_⟩
        rcases h5 with h5 | ⟨a, c, _, hg, _⟩
        · exact h5
        · have y := ok.hs
          rw [hg] at y
          exact absurd y.symm h6
  | .con t, e, h => by
    obtain ⟨c, j, p, rfl, h1⟩ := iv_con h
    cases t with
    | non =>
      cases c with
      | none => exact PE.imp pe_non fun σ H Q ⟨W, env, S, sm, er, q⟩ => post_t q sm .non
      | _ => cases h1
    | bl b =>
      cases c with
      | bool d =>
        have e1 : b = d := eq_of_beq h1
        subst e1
        exact PE.imp pe_bl fun σ H Q ⟨W, env, S, sm, er, q⟩ => post_t q sm (.bl b)
      | _ => cases h1
    | int i =>
      cases c with
      | int d =>
        have e1 : i = d := of_decide_eq_true h1
        subst e1
        exact PE.imp pe_int fun σ H Q ⟨W, env, S, sm, er, q⟩ => post_t q sm (.int i)
      | _ => cases h1
    | str x =>
      cases c with
      | str d =>
        have e1 : x = d := of_decide_eq_true h1
        subst e1
        exact PE.imp pe_str fun σ H Q ⟨W, env, S, sm, er, q⟩ => post_t q sm (.str x)
      | _ => cases h1
    | _ => cases h1
  | .glob g, e, h => by
    obtain ⟨p, rfl, h1, h2⟩ := iv_glob h
    refine ⟨fun pins s σ H Q I ⟨W, env, S, sm, er, q⟩ => ?_⟩
    have q : PostV G Wx σ W (ofT (G.tab.con g) S) Q := q
    cases z : G.tab.con g with
    | none => rw [z] at q; exact (show False from q).elim
    | some t =>
      rw [z] at q
      obtain ⟨v, u, e1, e2, e3, _⟩ := ok.con g t z
      rw [ok.nm] at h1 h2 ⊢
      exact (pe_glob (ok.kindOf h1) (by rw [ok.mg]; exact e1) e2 (okN_1 h2)).run pins s σ H Q I (post_t q sm (e3 _))
  | .bin op a b, e, h => by
    obtain ⟨l, r, p, rfl, h1, h2⟩ := iv_bin h
    exact PE.imp (pe_op (OpR.any _) (sE ok a l h1) (sE ok b r h2)) fun σ H Q ⟨W, env, S, sm, er, q⟩ =>
      Den.step q sm er fun v S1 W1 x H1 e1 l1 s1 n1 r1 p1 => Den.step p1 s1 n1 fun w S2 W2 y H2 e2 l2 s2 n2 r2 p2 => bin_any ok.K p2 s2 (r1.mono l2) r2
  | .binM op a b, e, h => by
    obtain ⟨l, r, p, rfl, h1, h2⟩ := iv_binM h
    exact PE.imp (pe_op (OpR.any _) (sE ok a l h1) (sE ok b r h2)) fun σ H Q ⟨W, env, S, sm, er, q⟩ =>
      Den.step q sm er fun v S1 W1 x H1 e1 l1 s1 n1 r1 p1 => Den.step p1 s1 n1 fun w S2 W2 y H2 e2 l2 s2 n2 r2 p2 => binL_any p2 s2 (r1.mono l2) r2
  | .neg a, e, h => by
    obtain ⟨x, p, rfl, h1⟩ := iv_neg h
    refine PE.imp (pe_un un_neg (sE ok a x h1)) fun σ H Q ⟨W, env, S, sm, er, q⟩ => Den.step q sm er fun v S1 W1 x H1 e1 l1 s1 n1 r1 p1 => ?_
    cases v with
    | r n => exact (show False from p1).elim
    | t t =>
      cases t with
      | int i => cases r1; exact ⟨i, rfl, post_t p1 s1 (.int _)⟩
      | _ => exact (show False from p1).elim
  | .cmp op a b, e, h => by
    obtain ⟨l, r, p, rfl, h1, h2, h3⟩ := iv_cmp h
    exact PE.imp (pe_cmpR (OpR.any _) (sE ok a l h1) (sE ok b r h2) (isSet_ok h3)) fun σ H Q ⟨W, env, S, sm, er, q⟩ =>
      Den.step q sm er fun v S1 W1 x H1 e1 l1 s1 n1 r1 p1 => Den.step p1 s1 n1 fun w S2 W2 y H2 e2 l2 s2 n2 r2 p2 => cmp_any ok.K ok.hu p2 s2 (r1.mono l2) r2
  | .cmp2 o p a b c, e, h => by
    obtain ⟨l, m, r, pos, rfl, h1, h2, h3, h4, h5⟩ := iv_cmp2 h
    refine PE.imp (pe_chain (OpR.any _) (OpR.any _) (sE ok a l h1) (sE ok b m h2) (sE ok c r h3) (lm_false h5)) fun σ H Q ⟨W, env, S, sm, er, q⟩ =>
      Den.step q sm er fun v S1 W1 x H1 e1 l1 s1 n1 r1 p1 => Den.step p1 s1 n1 fun w S2 W2 y H2 e2 l2 s2 n2 r2 p2 => ?_
    obtain ⟨b1, e3, p3⟩ := cmpV_bind p2
    refine cmp_any (op := o) (a := v) (b := w) (W := W2) (Wx := Wx) (σ := σ) (S := S2) ok.K ok.hu ?_ s2 (r1.mono l2) r2
    rw [e3]
    intro W3 z H3 l3 s3 r3
    cases r3
    refine ⟨b1, rfl, ?_⟩
    have p4 := p3.mono l3
    cases b1 with
    | true => exact iteT (Den.step p4 s3 (n2.mono l3) fun u S4 W4 z H4 e4 l4 s4 n4 r4 p4 => cmp_any ok.K ok.hu p4 s4 (r2.mono (l3.trans l4)) r4)
    | false => exact iteF (post_t p4 s3 (.bl false))
  | .not a, e, h => by
    obtain ⟨x, p, rfl, h1⟩ := iv_not h
    refine PE.imp (pe_notT (sE ok a x h1)) fun σ H Q ⟨W, env, S, sm, er, q⟩ => Den.step q sm er fun v S1 W1 x H1 e1 l1 s1 n1 r1 p1 => ?_
    obtain ⟨b, hb, p2⟩ := truV_st p1 s1 r1
    exact ⟨b, by rw [ok.K]; exact hb, post_t p2 s1 (.bl _)⟩
  | .ands es, e, h => by
    obtain ⟨vs, p, rfl, h1⟩ := iv_ands h
    exact sAndE ok es vs p h1
  | .ors es, e, h => by
    obtain ⟨vs, p, rfl, h1⟩ := iv_ors h
    exact sOrE ok es vs p h1
  | .ife t a b, e, h => by
    obtain ⟨c, x, y, p, rfl, h1, h2, h3⟩ := iv_ife h
    refine PE.imp (pe_ifExp (sC ok t c h1) (sE ok a x h2) (sE ok b y h3)) fun σ H Q ⟨W, env, S, sm, er, q⟩ => Den.step q sm er fun v S1 W1 b1 H1 e1 l1 s1 n1 r1 p1 => ?_
    have r1 : b1 = v := r1
    subst r1
    cases b1 with
    | true => exact iteT (Den.last p1 s1 n1)
    | false => exact iteF (Den.last p1 s1 n1)
  | .tup es, e, h => by
    obtain ⟨xs, kk, p, rfl, h1, h2⟩ := iv_tup h
    exact PE.imp (pe_tup (sEs ok es xs h1 h2)) fun σ H Q ⟨W, env, S, sm, er, q⟩ => Den.step q sm er fun vs S1 W1 ys H1 e1 l1 s1 n1 r1 p1 => tupV_post p1 s1 r1
  | .lst m es, e, h => by
    obtain ⟨xs, p, rfl, h1, h2⟩ := iv_lst h
    exact PE.imp (pe_lst (sEs ok es xs h1 h2)) fun σ H Q ⟨W, env, S, sm, er, q⟩ => Den.step q sm er fun vs S1 W1 ys H1 e1 l1 s1 n1 r1 p1 => dispL_post p1 s1 r1
  | .sub a i, e, h => by
    obtain ⟨x, y, p, rfl, h1, h2, h3⟩ := iv_sub h
    exact PE.imp (pe_ix IxR.any (sE ok a x h1) (sE ok i y h2) (isSlc_ok h3)) fun σ H Q ⟨W, env, S, sm, er, q⟩ =>
      Den.step q sm er fun v S1 W1 x H1 e1 l1 s1 n1 r1 p1 => Den.step p1 s1 n1 fun w S2 W2 y H2 e2 l2 s2 n2 r2 p2 => sub_any ok.K (by have := ok.hu; omega) p2 s2 (r1.mono l2) r2
  | .slc m a lo hi, e, h => by
    obtain ⟨x, l, u, p, q, rfl, h1, h2, h3⟩ := iv_slc h
    refine PE.imp (pe_slice (SlR.any X) (sE ok a x h1) (sO lo l (fun x h => sE ok lo x h) h2) (sO hi u (fun x h => sE ok hi x h) h3)) fun σ H Q ⟨W, env, S, sm, er, q⟩ =>
      Den.step q sm er fun v S1 W1 x H1 e1 l1 s1 n1 r1 p1 => Den.step (f := fun env S => if isNo lo then .ok none S else (dE G.tab call lo env S).bind fun y S => optI y S) p1 s1 n1 fun w S2 W2 y H2 e2 l2 s2 n2 r2 p2 =>
        Den.step (f := fun env S => if isNo hi then .ok none S else (dE G.tab call hi env S).bind fun y S => optI y S) p2 s2 n2 fun w2 S3 W3 y2 H3 e3 l3 s3 n3 r3 p3 => ?_
    have r2 : y = w := r2
    have r3 : y2 = w2 := r3
    subst r2 r3
    exact slc_any ok p3 s3 (r1.mono (l2.trans l3))
  | .rev m a, e, h => by
    obtain ⟨x, k, p1, p2, p3, q, rfl, h1⟩ := iv_rev h
    exact PE.imp (pe_revL (sE ok a x h1)) fun σ H Q ⟨W, env, S, sm, er, q⟩ => Den.step q sm er fun v S1 W1 x H1 e1 l1 s1 n1 r1 p1 => rev_post ok p1 s1 r1
  | .fld o f, e, h => by
    obtain ⟨x, p, rfl, h1, h2⟩ := iv_fld h
    rw [ok.nm]
    refine PE.imp (pe_fld (sE ok o x h1) (abase h2)) fun σ H Q ⟨W, env, S, sm, er, q⟩ => Den.step q sm er fun v S1 W1 x H1 e1 l1 s1 n1 r1 p1 => ?_
    rcases fldV_no (tab := G.tab) (f := f) (a := v) (S := S1) with ⟨w, e⟩ | e
    · have p1 : PostV G Wx σ W1 (fldV G.tab v f S1) Q := p1
      rw [e] at p1
      obtain ⟨ad, Cc, dx, gs, y, z1, z2, z3, z4, z5, z6, _⟩ := fld_any ok e s1 r1
      exact ⟨ad, _, dx, gs, y, z1, z2, z3, z4, z5, Post.ok p1 s1 z6⟩
    · have p1 : PostV G Wx σ W1 (fldV G.tab v f S1) Q := p1
      rw [e] at p1
      exact (show False from p1).elim
  | .call f es, e, h => by
    obtain ⟨p, ys, q, rfl, h1, h2, h3, h4, h5, h6, hcm⟩ := iv_call h
    rw [ok.nm] at h1 h2 ⊢
    cases ys with
    | nil => exact pe_def0 ok hcm (ok.kindOf h1) h6 h5 h3 (okN_1 h2)
    | cons y ys => exact pe_def ok hcm (ok.kindOf h1) h6 h5 (sEs ok es (y :: ys) h3 h4) h4 h3 (okN_1 h2)
  | .new c es, e, h => by
    obtain ⟨p, ys, q, rfl, h1, h2, h3, h4, h5, hcm⟩ := iv_new h
    rw [ok.nm] at h1 h2 ⊢
    exact pe_newR ok hcm (ok.kindOf h1) h5 (sEs ok es ys h3 h4) h4 h3 (okN_1 h2)
  | .meth o f es, e, h => by
    obtain ⟨x, ap, ys, q, rfl, h1, h2, h3, h4, h5, h6, hcm⟩ := iv_meth h
    rw [ok.nm]
    exact pe_methR ok hcm (sE ok o x h1) (sEs ok es ys h3 h4) h2 h4 h3 (by omega) h6
  | .blt b m es, e, h => by
    obtain ⟨p, y, ys, q, rfl, h1, h2, h3, h4, h5⟩ := iv_blt h
    exact PE.imp (pe_blt ok (CallR.any _) (ok.kindOf h1) (sEs ok es (y :: ys) h3 h4) h4 (okN_3 h2) (okN_1 h2)) fun σ H Q ⟨W, env, S, sm, er, q⟩ =>
      Den.step q sm er fun vs S1 W1 xs H1 e1 l1 s1 n1 r1 p1 => blt_any ok (fun z => ok.calm (h5 z)) p1 s1 r1
  | .isi a many ts, e, h => by
    have fr : X.mg ("isinstance" : Str) = none := by
      rw [ok.mg]
      exact ok.free _ (by decide +kernel)
    rcases iv_isi h with ⟨t, p, y, z, q, r, rfl, rfl, rfl, hr, h1, h2, h3, h4, h5, h6, h7⟩ | ⟨p, y, zs, kk, z, q, rfl, rfl, h1, h2, h3, h4, h5, h6, hne, hsz⟩
    · subst hr
      rw [ok.nm] at h5 h6 ⊢
      rw [ok.tab] at h7
      refine PE.imp (pe_callB (CallR.any (.builtin "isinstance")) (ok.kindOf h1) fr (by decide +kernel) (pa_cons (sE ok a y h3) (pa_cons (pe_ty ok (ok.kindOf h5) h7 (okN_3 h6) (okN_1 h6)) pa_nil rfl) (star_cons X.env h4)) (okN_3 h2) (okN_1 h2) (star_cons X.env h4) rfl) ?_
      rintro σ H Q ⟨W, env, S, sm, er, q⟩
      exact Den.step q sm er fun v S1 W1 x H1 e1 l1 s1 n1 r1 p1 => ⟨_, call_isi, by rw [ok.K]; exact isi_1 ok p1 s1 r1⟩
    · refine PE.imp (pe_callB (CallR.any (.builtin "isinstance")) (ok.kindOf h1) fr (by decide +kernel) (pa_cons (sE ok a y h3) (pa_cons (pe_tup (pa_tys ok h5 h6)) pa_nil rfl) (star_cons X.env h4)) (okN_3 h2) (okN_1 h2) (star_cons X.env h4) rfl) ?_
      rintro σ H Q ⟨W, env, S, sm, er, q⟩
      refine Den.step q sm er fun v S1 W1 x H1 e1 l1 s1 n1 r1 p1 => ⟨by rw [List.length_map]; exact Nat.le_trans hsz (by decide), fun tp htp => ⟨_, call_isiT, ?_⟩⟩
      rw [ok.K]
      exact isi_t ok hne (p1.mono (Wd.le_addF s1 htp (.tup (ts.map (tyW G))))) (s1.addF htp _) (r1.mono (Wd.le_addF s1 htp _)) upd_same
  | .exIs i many ts, e, h => pe_exIs ok h
  | .exAt i f, e, h => pe_exAt ok h
  | .hot f i, e, h => pe_hot ok h
  | .dct0, e, h => by
    obtain ⟨p, rfl⟩ := dct0P_ok h
    exact PE.imp pe_dnewK fun σ H Q ⟨W, env, S, sm, er, q⟩ => fun a ha => q (W.addF a (.dK [])) (.ref a) _ (Wd.le_addF sm ha _) (sm.addF ha _) (.dct upd_same .nil)
  | .dct1 k v, e, h => by
    obtain ⟨a, b, c, d, p, rfl⟩ := dct1P_ok (of_decide_eq_true h)
    refine PE.imp (pe_disp (trs := [(tC (.int k), tC (.int v))]) (pps_cons pe_int pe_int pps_nil) rfl rfl (fun z => nomatch z) (by show 1 ≤ 15; decide)) fun σ H Q ⟨W, env, S, sm, er, q⟩ => fun a ha => ?_
    show _ ∧ _
    refine ⟨upd_same, [(.inl k, .int v)], rfl, (by show 1 ≤ 15; decide), ?_⟩
    rw [upd_upd]
    exact q (W.addF a (.dK [(.inl k, .int v)])) (.ref a) _ (Wd.le_addF sm ha _) (sm.addF ha _) (.dct upd_same (.cons (.int v) .nil))
  | .dctD m ks es, e, h => by
    obtain ⟨keys, values, p, rfl, h1, h2, h3, h4, h5⟩ := iv_dctD h
    obtain ⟨l1, l2⟩ := keysB_len h1
    cases hk : keys with
    | nil =>
      subst hk
      have k0 := List.length_eq_zero_iff.mp (show ks.length = 0 from l1.symm)
      have v0 := List.length_eq_zero_iff.mp (show values.length = 0 from h3.symm)
      subst k0 v0
      have e0 : es = .nil := by
        have z := chkEs_ln h2
        cases es with
        | nil => rfl
        | cons _ _ => cases z
      subst e0
      refine PE.imp pe_dnewK fun σ H Q ⟨W, env, S, sm, er, q⟩ => fun a ha => ?_
      have q : PostV G Wx σ W (dctV m [] [] S) Q := q
      exact dct_seize (ks := []) (xs := []) q (sm.upd_new ha _) (sm.out ha) upd_same .nil
    | cons k0 kr =>
      rw [← hk]
      refine PE.imp (pe_disp (sPP ok p es ks keys values h1 h2 h3) l2 h3 (fun z => ?_) (by rw [l1]; exact h5)) fun σ H Q d => disp_post (by rw [← l1, h3, chkEs_ln h2]) h4 h5 d
      rw [z] at hk
      cases hk
  | .upd o a, e, h => by
    obtain ⟨x, ap, y, q, rfl, h1, h2, h3, h4, h5⟩ := iv_upd h
    have hn : noStar [y] = true := by show (!isStar y && true) = true; rw [h4]; rfl
    refine PE.imp (pe_bm PySem.F.plainAttrs_dict PySem.F.slot_dict_update PySem.F.type_dict_update mt_update (sE ok o x h1) (pa_cons (sE ok a y h3) pa_nil (star_cons X.env h4)) (abase h2) (few_ok hn (by show 1 < 30; decide)) h5 (star_cons X.env h4) rfl) fun σ H Q ⟨W, env, S, sm, er, q⟩ =>
      Den.step q sm er fun v S1 W1 x H1 e1 l1 s1 n1 r1 p1 => ?_
    have p1 : PostV G Wx σ W1 (if dctB v S1 then (dE G.tab call a env S1).bind fun y S => updV v y S else .bad) Q := p1
    cases v with
    | t t => exact (show False from p1).elim
    | r n =>
      obtain ⟨hn1, ex⟩ := r1
      subst ex
      split at p1
      · rename_i c
        have c : (match S1[n]? with
          | some (.dct _) => true
          | _ => false) = true := c
        refine ⟨?_, Den.step p1 s1 n1 fun w S2 W2 z H2 e2 l2 s2 n2 r2 p2 => ?_⟩
        · split at c
          · rename_i kvs hc
            obtain ⟨gs, ho, _⟩ := cell_dct s1 hc
            exact .inr (.inr (.inl ⟨rfl, .inl ⟨gs, ho⟩⟩))
          · cases c
        · exact upd_any p2 s2 ⟨Nat.lt_of_lt_of_le hn1 l2.n, by rw [l2.at_ n hn1]⟩ r2
      · exact (show False from p1).elim
  | .inRg neg a b, e, h => by
    obtain ⟨l, p2, y, q, p, rfl, h1, h2, h3, h4⟩ := iv_inRg h
    have fr : X.mg ("range" : Str) = none := by
      rw [ok.mg]
      exact ok.free _ (by decide +kernel)
    refine PE.imp (pe_cmpR (op_rg neg) (sE ok a l h2) (pe_callTy cr_range1 (ok.kindOf h1) fr (by decide +kernel) (pa_cons (sE ok b y h3) pa_nil (star_cons X.env h4)) (by decide +kernel) (by decide +kernel) (star_cons X.env h4) rfl) (by cases neg <;> rfl)) fun σ H Q ⟨W, env, S, sm, er, q⟩ =>
      Den.step q sm er fun v S1 W1 x H1 e1 l1 s1 n1 r1 p1 => Den.step p1 s1 n1 fun w S2 W2 y H2 e2 l2 s2 n2 r2 p2 => ?_
    have p2 : PostV G Wx σ W2 (inRgV neg v w S2) Q := p2
    unfold inRgV at p2
    split at p2
    · cases r1
      cases r2
      refine ⟨_, rfl, fun p hp => ⟨_, _, _, _, rfl, rfl, upd_same, ?_⟩⟩
      exact post_t (p2.mono (Wd.le_addF s2 hp _)) (s2.addF hp _) (.bl _)
    · exact (show False from p2).elim
  | .listRg a, e, h => by
    obtain ⟨p, p2, y, q, q2, rfl, h1, h2, h3, h4, h5⟩ := iv_listRg h
    have fr : ∀ x : Str, x ∈ ["list", "range"].map Str.ofString → X.mg x = none := fun x hx => by
      rw [ok.mg]
      refine ok.free x ?_
      have : ∀ y ∈ ["list", "range"].map Str.ofString, y ∈ ["len", "int", "str", "min", "max", "abs", "list", "tuple", "all", "any", "sum", "divmod", "sorted", "bool", "isinstance", "range", "enumerate", "zip", "dict", "set", "ValueError"].map Str.ofString := by decide +kernel
      exact this x hx
    refine PE.imp (pe_listRg (ok.calm h5) (ok.kindOf h1) (fr _ (by decide +kernel)) (prg_1 (ok.kindOf h2) (fr _ (by decide +kernel)) (sE ok a y h3) (star_cons X.env h4)) rfl) fun σ H Q ⟨W, env, S, sm, er, q⟩ =>
      Den.step q sm er fun v S1 W1 x H1 e1 l1 s1 n1 r1 p1 => ?_
    have p1 : PostV G Wx σ W1 (match (generalizing := false) v with
      | .t (.int n) => if 0 ≤ n ∧ n ≤ 16777216 then alloc false (rng 0 n) S1 else .bad
      | _ => .bad) Q := p1
    cases v with
    | r n => exact (show False from p1).elim
    | t t =>
      cases t with
      | int n =>
        cases r1
        have p1 : PostV G Wx σ W1 (if 0 ≤ n ∧ n ≤ 16777216 then alloc false (rng 0 n) S1 else .bad) Q := p1
        by_cases c : 0 ≤ n ∧ n ≤ 16777216
        · rw [if_pos c] at p1
          exact ⟨n, rfl, RgOk.of_le (by decide) c.2 (by decide) c.1, (alloc_post p1 s1 (rg_rep n)).2⟩
        · rw [if_neg c] at p1
          exact (show False from p1).elim
      | _ => exact (show False from p1).elim
  | .cix g a, e, h => by
    obtain ⟨p, ap, y, cp, rfl, h1, h2, h3, h4, h5, h6⟩ := iv_cix h
    rw [ok.nm] at h1 h2 ⊢
    rw [ok.tab] at h6
    obtain ⟨ts, ys, z, hs⟩ := isStrs_ok h6
    obtain ⟨v, u, e1, e2, e3, e4⟩ := ok.con g _ z
    obtain ⟨p0, o, rfl, k1, k2, k3⟩ := e4 ts rfl
    have hn : noStar [y] = true := by show (!isStar y && true) = true; rw [h4]; rfl
    refine PE.imp (pe_bm PySem.F.plainAttrs_tuple PySem.F.slot_tuple_index PySem.F.type_tuple_index mt_tup_index (pe_glob (ok.kindOf h1) (by rw [ok.mg]; exact e1) e2 (okN_1 h2)) (pa_cons (sE ok a y h3) pa_nil (star_cons X.env h4)) rfl (few_ok hn (by show 1 < 30; decide)) h5 (star_cons X.env h4) rfl) fun σ H Q ⟨W, env, S, sm, er, q⟩ => ?_
    refine ⟨.inr (.inl ⟨rfl, o, by rw [ok.K]; exact k1, k2, k3⟩), ?_⟩
    refine Den.step q sm er fun v S1 W1 x H1 e1 l1 s1 n1 r1 p1 => ?_
    have p1 : PostV G Wx σ W1 (cixV (G.tab.con g) v S1) Q := p1
    rw [z] at p1
    unfold cixV at p1
    split at p1
    · rename_i ts' z' heq _
      cases heq
      cases r1
      rw [hs] at p1
      have p1 : PostV G Wx σ W1 (match ys.findIdx? (fun y => y == z') with
        | some j => .ok (.t (.int (j : Nat))) S1
        | none => .bad) Q := p1
      cases hj : ys.findIdx? (fun y => y == z') with
      | none => rw [hj] at p1; exact (show False from p1).elim
      | some j =>
        rw [hj] at p1
        obtain ⟨hl, j1, j2⟩ := List.findIdx?_eq_some_iff_getElem.mp hj
        have er := e3 W1.F
        cases er with
        | tup hF rl =>
          have ev := strsT_rep hs rl
          subst ev
          refine ⟨p0, ys, z', j, rfl, rfl, by rw [ok.K]; exact sameT s1.fz hF, ?_, fun m hm hz => ?_, post_t p1 s1 (.int _)⟩
          · rw [List.getElem?_eq_getElem hl]
            exact congrArg some (eq_of_beq j1)
          · have hml : m < ys.length := by omega
            rw [List.getElem?_eq_getElem hml] at hz
            have := j2 m hm
            rw [Option.some.inj hz] at this
            simp at this
    · exact (show False from p1).elim
  | .split m a b, e, h => by
    obtain ⟨x, y, ap, cp, rfl, h1, h⟩ := iv_m1 h
    obtain ⟨h2, h⟩ := ba h
    obtain ⟨h3, h⟩ := ba h
    obtain ⟨h4, h5⟩ := ba h
    have hn : noStar [y] = true := by show (!isStar y && true) = true; rw [h5]; rfl
    refine PE.imp (pe_bm PySem.F.plainAttrs_str PySem.F.slot_str_split PySem.F.type_str_split mt_split (sE ok a x h2) (sEs ok b [y] h4 hn) (abase (nb h3)) (few_ok hn (by show 1 < 30; decide)) h1 (star_cons X.env (nb h5)) rfl) fun σ H Q ⟨W, env, S, sm, er, q⟩ => ?_
    refine Den.step q sm er fun v S1 W1 z H1 e1 l1 s1 n1 r1 p1 => ?_
    have no : ∀ {P : Prop} {W : Wd}, PostV G Wx σ W .bad Q → P := fun z => (show False from z).elim
    have p1 : PostV G Wx σ W1 (if strB v then (dEs G.tab call b env S1).bind fun vs S => splitV m v vs S else .bad) Q := p1
    cases v with
    | r n => exact no p1
    | t t => cases t with
      | str t =>
        cases r1
        refine ⟨rfl, Den.step p1 s1 n1 fun ws S2 W2 xs H2 e2 l2 s2 n2 r2 p2 => ?_⟩
        match ws, r2, p2 with
        | [.t (.str u)], r2, p2 =>
          have p2 : PostV G Wx σ W2 (if (u.length == 0) = false ∧ t.length + 2 ≤ szLine then alloc m ((Txt.split t u).map fun z => .t (.str z)) S2 else .bad) Q := p2
          obtain ⟨w1, rfl, rw1⟩ := one_arg r2
          cases rw1
          split at p2
          · rename_i c
            exact ⟨t, u, rfl, rfl, c.1, c.2, (alloc_post p2 s2 (vals_strs _)).2⟩
          · exact no p2
        | [], r2, p2 => exact no p2
        | .r _ :: _, r2, p2 => exact no p2
        | .t (.str _) :: _ :: _, r2, p2 => exact no p2
        | [.t .non], r2, p2 | [.t (.bl _)], r2, p2 | [.t (.int _)], r2, p2 | [.t (.tup _)], r2, p2 | [.t (.lst _)], r2, p2 | [.t (.ins _ _)], r2, p2 | [.t (.dct _)], r2, p2 | [.t (.fn _)], r2, p2 | [.t (.scr _)], r2, p2 | [.t (.exn _ _)], r2, p2 | [.t (.exv _ _)], r2, p2 => exact no p2
        | .t .non :: _ :: _, r2, p2 | .t (.bl _) :: _ :: _, r2, p2 | .t (.int _) :: _ :: _, r2, p2 | .t (.tup _) :: _ :: _, r2, p2 | .t (.lst _) :: _ :: _, r2, p2 | .t (.ins _ _) :: _ :: _, r2, p2 | .t (.dct _) :: _ :: _, r2, p2 | .t (.fn _) :: _ :: _, r2, p2 | .t (.scr _) :: _ :: _, r2, p2 | .t (.exn _ _) :: _ :: _, r2, p2 | .t (.exv _ _) :: _ :: _, r2, p2 => exact no p2
      | _ => exact no p1
  | .dgetT o i, e, h => by
    obtain ⟨x, y, ap, cp, rfl, h1, h⟩ := iv_m1 h
    obtain ⟨h2, h⟩ := ba h
    obtain ⟨h3, h⟩ := ba h
    obtain ⟨h4, h5⟩ := ba h
    have hn : noStar [y] = true := by show (!isStar y && true) = true; rw [h5]; rfl
    have hu := ok.hu
    refine PE.imp (pe_dget1 (by omega) (sE ok o x h2) (sE ok i y h4) ⟨abase (nb h3), few_ok hn (by show 1 < 30; decide), h1, star_one X.env (nb h5)⟩) fun σ H Q ⟨W, env, S, sm, er, q⟩ => ?_
    refine Den.step q sm er fun v S1 W1 z H1 e1 l1 s1 n1 r1 p1 => ?_
    have no : ∀ {P : Prop} {W : Wd}, PostV G Wx σ W .bad Q → P := fun z => (show False from z).elim
    have p1 : PostV G Wx σ W1 (if isDctV v then (dE G.tab call i env S1).bind fun y S => dgetTV v y S else .bad) Q := p1
    cases v with
    | r n => exact no p1
    | t t => cases t with
      | dct kvs =>
        have r1 : Rep G W1.F z (.dct kvs) := r1
        cases r1 with
        | @dct ad gs _ hF rd =>
          refine ⟨ad, rfl, .inl ⟨gs, .inl (s1.fz _ _ hF)⟩, Den.step p1 s1 n1 fun w S2 W2 y H2 e2 l2 s2 n2 r2 p2 => ?_⟩
          have p2 : PostV G Wx σ W2 (dgetTV (.t (.dct kvs)) w S2) Q := p2
          have hF2 := l2.f _ _ hF
          have rd2 := RepD.mono l2.f _ _ rd
          cases w with
          | r n => exact no p2
          | t u =>
            have p2 : PostV G Wx σ W2 (match keyT u with
              | some k => .ok (.t ((lookK kvs k).getD .non)) S2
              | none => .bad) Q := p2
            cases ek : keyT u with
            | none => rw [ek] at p2; exact no p2
            | some k =>
              rw [ek] at p2
              have p2 : PostV G Wx σ W2 (.ok (.t ((lookK kvs k).getD .non)) S2) Q := p2
              have ey := keyT_rep ek r2
              subst ey
              refine ⟨_, DGet.k (s2.fz _ _ hF2), ?_⟩
              cases el : lookK kvs k with
              | none =>
                rw [el] at p2
                have z := lookK_isD (k := k) rd2
                rw [el] at z
                rw [Option.isSome_eq_false_iff.mp z |> Option.isNone_iff_eq_none.mp]
                exact post_t p2 s2 .non
              | some t =>
                rw [el] at p2
                obtain ⟨x, ex, rx⟩ := lookK_repD rd2 el
                rw [ex]
                exact post_t p2 s2 rx
      | _ => exact no p1
  | .repl a y z, e, h => by cases e <;> cases h
  | .mkx c es, e, h => by
    cases e with
    | Call g ys kw q =>
      cases g with
      | Name x p =>
        cases kw with
        | nil =>
          obtain ⟨h1, h⟩ := ba (show (glB C.sc x && (okN x && (decide (x = C.nm.exN c) && (chkEs C es ys && (noStar ys && (decide (ys.length = 1) && ((C.tab.exc c).isSome && (((C.tab.exa c).isSome || C.tab.exr c) && C.calm)))))))) = true from h)
          obtain ⟨h2, h⟩ := ba h
          obtain ⟨h3, h⟩ := ba h
          obtain ⟨h4, h⟩ := ba h
          obtain ⟨h5, h⟩ := ba h
          obtain ⟨h6, h⟩ := ba h
          obtain ⟨h7, h⟩ := ba h
          obtain ⟨h8, h9⟩ := ba h
          have h3 := of_decide_eq_true h3
          rw [ok.nm] at h3
          subst h3
          have h6 := of_decide_eq_true h6
          have ha := sEs ok es ys h4 h5
          obtain ⟨y, rfl⟩ := List.length_eq_one_iff.mp h6
          rw [ok.tab] at h7 h8
          exact pe_mkx ok h9 (ok.kindOf h1) h2 ha (nb (ba h5).1) ((chkEs_len h4).symm.trans h6) h7 h8
        | cons _ _ => cases h
      | _ => cases h
    | _ => cases h
  | .isx a ts, e, h => by
    have h : (match isxP e with
      | some (y, z) => glB C.sc ("isinstance" : Str) && (chkE C a y && (!isStar y && (exsB C ts [z] && (noStar [z] && decide (ts.length = 1)))))
      | none => false) = true := h
    cases q : isxP e with
    | none => rw [q] at h; cases h
    | some yz =>
      obtain ⟨y, z⟩ := yz
      rw [q] at h
      obtain ⟨h1, h⟩ := ba h
      obtain ⟨h2, h⟩ := ba h
      obtain ⟨h3, h⟩ := ba h
      obtain ⟨h4, h⟩ := ba h
      obtain ⟨h5, h6⟩ := ba h
      obtain ⟨p, q, rfl⟩ := isxP_ok q
      obtain ⟨t, rfl⟩ := List.length_eq_one_iff.mp (of_decide_eq_true h6)
      exact pe_isx ok (sE ok a y h2) (nb h3) h1 h4 h5
  | .exvAt a f, e, h => by
    cases e with
    | Attribute y n p =>
      obtain ⟨h1, h⟩ := ba (show (chkE C a y && (decide (n = C.nm.atN f) && !isSup y)) = true from h)
      obtain ⟨h2, h3⟩ := ba h
      have h2 := of_decide_eq_true h2
      rw [ok.nm] at h2
      subst h2
      exact pe_xvAt ok (sE ok a y h1) (nb h3)
    | _ => cases h
  | .dgetD o i d, e, h => by
    obtain ⟨x, y, f, ap, cp, rfl, h1, h⟩ := iv_m2 (P := fun x y f => chkE C o x && (!isSup x && (chkE C i y && (!isStar y && (chkE C d f && !isStar f))))) h
    obtain ⟨h2, h⟩ := ba h
    obtain ⟨h3, h⟩ := ba h
    obtain ⟨h4, h⟩ := ba h
    obtain ⟨h5, h⟩ := ba h
    obtain ⟨h6, h7⟩ := ba h
    have hn : noStar [y, f] = true := by show (!isStar y && (!isStar f && true)) = true; rw [h5, h7]; rfl
    have hu := ok.hu
    refine PE.imp (pe_dget2 (by omega) (sE ok o x h2) (sE ok i y h4) (sE ok d f h6) ⟨abase (nb h3), few_ok hn (by show 2 < 30; decide), h1, star_two X.env (nb h5) (nb h7)⟩) fun σ H Q ⟨W, env, S, sm, er, q⟩ => ?_
    refine Den.step q sm er fun v S1 W1 z H1 e1 l1 s1 n1 r1 p1 => ?_
    have no : ∀ {P : Prop} {W : Wd}, PostV G Wx σ W .bad Q → P := fun z => (show False from z).elim
    have p1 : PostV G Wx σ W1 (if isDctV v then (dE G.tab call i env S1).bind fun y S => (dE G.tab call d env S).bind fun z S => dgetDV v y z S else .bad) Q := p1
    cases v with
    | r n => exact no p1
    | t t => cases t with
      | dct kvs =>
        have r1 : Rep G W1.F z (.dct kvs) := r1
        cases r1 with
        | @dct ad gs _ hF rd =>
          refine ⟨ad, rfl, .inl ⟨gs, .inl (s1.fz _ _ hF)⟩, Den.step p1 s1 n1 fun w S2 W2 y H2 e2 l2 s2 n2 r2 p2 => Den.step p2 s2 n2 fun w3 S3 W3 y3 H3 e3 l3 s3 n3 r3 p3 => ?_⟩
          have p3 : PostV G Wx σ W3 (dgetDV (.t (.dct kvs)) w w3 S3) Q := p3
          have hF2 := (l2.trans l3).f _ _ hF
          have rd2 := RepD.mono (l2.trans l3).f _ _ rd
          cases w with
          | r n => cases w3 <;> exact no p3
          | t u =>
            cases w3 with
            | r n => exact no p3
            | t d3 =>
            have p3 : PostV G Wx σ W3 (match keyT u with
              | some k => .ok (.t ((lookK kvs k).getD d3)) S3
              | none => .bad) Q := p3
            cases ek : keyT u with
            | none => rw [ek] at p3; exact no p3
            | some k =>
              rw [ek] at p3
              have p3 : PostV G Wx σ W3 (.ok (.t ((lookK kvs k).getD d3)) S3) Q := p3
              have ey := keyT_rep ek r2
              subst ey
              refine ⟨_, DGet.k (s3.fz _ _ hF2), ?_⟩
              cases el : lookK kvs k with
              | none =>
                rw [el] at p3
                have z := lookK_isD (k := k) rd2
                rw [el] at z
                rw [Option.isSome_eq_false_iff.mp z |> Option.isNone_iff_eq_none.mp]
                exact post_t p3 s3 r3
              | some t =>
                rw [el] at p3
                obtain ⟨x, ex, rx⟩ := lookK_repD rd2 el
                rw [ex]
                exact post_t p3 s3 rx
      | _ => exact no p1
  | .fnv g, e, h => by
    cases e with
    | Name x p =>
      obtain ⟨h1, h⟩ := ba h
      obtain ⟨h2, h⟩ := ba h
      obtain ⟨h3, h4⟩ := ba h
      have e1 := of_decide_eq_true h3
      rw [ok.nm] at e1
      subst e1
      obtain ⟨g1, g2⟩ := ok.gl g h4
      refine ⟨fun pins s σ H Q I ⟨W, env, S, sm, er, q⟩ => ?_⟩
      exact (pe_glob (v := .ref (G.fA g)) (ok.kindOf h1) (by rw [ok.mg]; exact g1) rfl (okN_1 h2)).run pins s σ H Q I (post_t q sm (.fn g))
    | _ => cases h
  | .callV a gs es, e, h => by
    obtain ⟨x, p, y, ys, pos, rfl, h1, h2, h3, h4, hcm⟩ := iv_callV h
    refine ⟨fun pins s σ H Q I ⟨W, env, S, sm, er, q⟩ => ?_⟩
    have q : PostV G Wx σ W ((dE G.tab call a env S).bind fun x S => (match x with
      | .t (.fn g) => if gs.contains g && arity G.tab g es.len then (dEs G.tab call es env S).bind fun vs S => call g vs S else .bad
      | _ => .bad)) Q := q
    refine wpAny_Call_Name_kw (thn ((sE ok a (.Name x p) h1).run pins s σ H (fun v H1 => ∃ (g : Nat) (W1 : Wd) (S1 : Store), v = .ref (G.fA g) ∧ gs.contains g = true ∧ arity G.tab g es.len = true ∧ Sim G W1 S1 H1 ∧ EnvRep G W1 σ env ∧ PostV G Wx σ W1 ((dEs G.tab call es env S1).bind fun vs S => call g vs S) Q) I (Den.step q sm er fun v S1 W1 z H1 e1 l1 s1 n1 r1 p1 => ?_)) fun u s1 ⟨v, H1, I1, r1, g, W1, S1, ev, hg, har, sm1, er1, q1⟩ => ?_)
    · cases v with
      | r n => exact (show False from p1).elim
      | t t => cases t with
        | fn g =>
          have p1 : PostV G Wx σ W1 (if (gs.contains g && arity G.tab g es.len) = true then (dEs G.tab call es env S1).bind fun vs S => call g vs S else .bad) Q := p1
          cases r1
          split at p1
          · rename_i c
            obtain ⟨c1, c2⟩ := Bool.and_eq_true_iff.mp c
            exact ⟨g, W1, S1, rfl, c1, c2, s1, n1, p1⟩
          · exact (show False from p1).elim
        | _ => exact (show False from p1).elim
    · subst ev
      cases r1
      have hgl : C.glF g = true := List.all_eq_true.mp h4 g (List.contains_iff_mem.mp hg)
      obtain ⟨g1, g2⟩ := ok.gl g hgl
      refine PySem.W.callWith_K (h₀ := X.base) I1.ok.mod.kin (by rw [ok.K]; exact g2) (thn ((sEs ok es (y :: ys) h2 h3).run pos pins s1 σ H1 (fun vs H2 => ∃ (W2 : Wd) (S2 : Store) (ws : List Val), ws.length = es.len ∧ Sim G W2 S2 H2 ∧ Paired (RepV G W2) vs ws ∧ PostV G Wx σ W2 (call g ws S2) Q) I1 (Den.step q1 sm1 er1 fun vs S2 W2 xs H2 e2 l2 s2 n2 r2 p2 => ⟨W2, S2, vs, dEs_len e2, s2, r2, p2⟩)) fun us s2 ⟨vs, H2, I2, rv, W2, S2, ws, hl, sm2, rp, p2⟩ => ⟨I2.kIn, ?_⟩) (star_cons X.env (nb (ba h3).1)) (star_any (ba h3).2)
      have hd : ∃ d, G.tab.fn g = some d := by
        unfold arity at har
        cases hd : G.tab.fn g with
        | none => rw [hd] at har; cases har
        | some d => exact ⟨d, rfl⟩
      obtain ⟨d, hd⟩ := hd
      exact call_run ok hcm hd (by rw [hl]; exact har) p2 sm2 rp I2 rv
  | .join a b, e, h => by
    obtain ⟨x, y, ap, cp, rfl, h1, h⟩ := iv_m1 h
    obtain ⟨h2, h⟩ := ba h
    obtain ⟨h3, h⟩ := ba h
    obtain ⟨h4, h5⟩ := ba h
    have hn : noStar [y] = true := by show (!isStar y && true) = true; rw [h5]; rfl
    refine PE.imp (pe_bm PySem.F.plainAttrs_str PySem.F.slot_str_join PySem.F.type_str_join mt_join (sE ok a x h2) (sEs ok b [y] h4 hn) (abase (nb h3)) (few_ok hn (by show 1 < 30; decide)) h1 (star_cons X.env (nb h5)) rfl) fun σ H Q ⟨W, env, S, sm, er, q⟩ => ?_
    refine Den.step q sm er fun v S1 W1 z H1 e1 l1 s1 n1 r1 p1 => ?_
    have no : ∀ {P : Prop} {W : Wd}, PostV G Wx σ W .bad Q → P := fun z => (show False from z).elim
    have p1 : PostV G Wx σ W1 (if strB v then (dEs G.tab call b env S1).bind fun vs S => joinV v vs S else .bad) Q := p1
    cases v with
    | r n => exact no p1
    | t t => cases t with
      | str t =>
        cases r1
        refine ⟨rfl, Den.step p1 s1 n1 fun ws S2 W2 xs H2 e2 l2 s2 n2 r2 p2 => ?_⟩
        exact join_post ok.K p2 s2 r2
      | _ => exact no p1
  | .tcount a b, e, h => by
    obtain ⟨x, y, ap, cp, rfl, h1, h⟩ := iv_m1 h
    obtain ⟨h2, h⟩ := ba h
    obtain ⟨h3, h⟩ := ba h
    obtain ⟨h4, h5⟩ := ba h
    have hn : noStar [y] = true := by show (!isStar y && true) = true; rw [h5]; rfl
    refine PE.imp (pe_bm PySem.F.plainAttrs_str PySem.F.slot_str_count PySem.F.type_str_count mt_count (sE ok a x h2) (sEs ok b [y] h4 hn) (abase (nb h3)) (few_ok hn (by show 1 < 30; decide)) h1 (star_cons X.env (nb h5)) rfl) fun σ H Q ⟨W, env, S, sm, er, q⟩ => ?_
    refine Den.step q sm er fun v S1 W1 z H1 e1 l1 s1 n1 r1 p1 => ?_
    have no : ∀ {P : Prop} {W : Wd}, PostV G Wx σ W .bad Q → P := fun z => (show False from z).elim
    have p1 : PostV G Wx σ W1 (if strB v then (dEs G.tab call b env S1).bind fun vs S => tcountV v vs S else .bad) Q := p1
    cases v with
    | r n => exact no p1
    | t t => cases t with
      | str t =>
        cases r1
        refine ⟨rfl, Den.step p1 s1 n1 fun ws S2 W2 xs H2 e2 l2 s2 n2 r2 p2 => ?_⟩
        unfold tcountV at p2
        split at p2
        · rename_i heq
          cases heq
          obtain ⟨w, rfl, rw'⟩ := one_arg r2
          cases rw'
          exact ⟨_, _, rfl, rfl, post_t p2 s2 (.int _)⟩
        · exact no p2
      | _ => exact no p1
  | .tm q a b, e, h => by
    obtain ⟨x, y, ap, cp, rfl, h1, h⟩ := iv_m1 h
    obtain ⟨h2, h⟩ := ba h
    obtain ⟨h3, h⟩ := ba h
    obtain ⟨h4, h5⟩ := ba h
    have hn : noStar [y] = true := by show (!isStar y && true) = true; rw [h5]; rfl
    have key : ∀ (r : V → List V → Hp → VK → Prop), (∀ {t : Str} {ws : List Val} {xs : List V} {W2 : Wd} {S2 : Store} {H2 : Hp} {σ : L2.St} {Q : VK}, Paired (RepV G W2) xs ws → Sim G W2 S2 H2 → PostV G Wx σ W2 (tmV q (.t (.str t)) ws S2) Q → r (.str t) xs H2 Q) →
        ∀ (σ : L2.St) (H : Hp) (Q : VK), Den G (RepV G) Wx (fun env S => dE G.tab call (.tm q a b) env S) σ H Q → tBM X.K "str" r (Den G (RepV G) Wx (fun env S => dE G.tab call a env S)) (Den G (fun W => Paired (RepV G W)) Wx (fun env S => dEs G.tab call b env S)) σ H Q := fun r hr σ H Q ⟨W, env, S, sm, er, q1⟩ => by
      refine Den.step q1 sm er fun v S1 W1 z H1 e1 l1 s1 n1 r1 p1 => ?_
      have no : ∀ {P : Prop} {W : Wd}, PostV G Wx σ W .bad Q → P := fun z => (show False from z).elim
      have p1 : PostV G Wx σ W1 (if strB v then (dEs G.tab call b env S1).bind fun vs S => tmV q v vs S else .bad) Q := p1
      cases v with
      | r n => exact no p1
      | t t => cases t with
        | str t =>
          cases r1
          exact ⟨rfl, Den.step p1 s1 n1 fun ws S2 W2 xs H2 e2 l2 s2 n2 r2 p2 => hr r2 s2 p2⟩
        | _ => exact no p1
    cases q with
    | strip => exact PE.imp (pe_bm PySem.F.plainAttrs_str PySem.F.slot_str_strip PySem.F.type_str_strip mt_stripChars (sE ok a x h2) (sEs ok b [y] h4 hn) (abase (nb h3)) (few_ok hn (by show 1 < 30; decide)) h1 (star_cons X.env (nb h5)) rfl) (key _ tm_strip)
    | starts => exact PE.imp (pe_bm PySem.F.plainAttrs_str PySem.F.slot_str_startswith PySem.F.type_str_startswith mt_startswith (sE ok a x h2) (sEs ok b [y] h4 hn) (abase (nb h3)) (few_ok hn (by show 1 < 30; decide)) h1 (star_cons X.env (nb h5)) rfl) (key _ tm_starts)
    | ends => exact PE.imp (pe_bm PySem.F.plainAttrs_str PySem.F.slot_str_endswith PySem.F.type_str_endswith mt_endswith (sE ok a x h2) (sEs ok b [y] h4 hn) (abase (nb h3)) (few_ok hn (by show 1 < 30; decide)) h1 (star_cons X.env (nb h5)) rfl) (key _ tm_ends)
    | find => exact PE.imp (pe_bm PySem.F.plainAttrs_str PySem.F.slot_str_find PySem.F.type_str_find mt_find (sE ok a x h2) (sEs ok b [y] h4 hn) (abase (nb h3)) (few_ok hn (by show 1 < 30; decide)) h1 (star_cons X.env (nb h5)) rfl) (key _ tm_find)
    | idx => exact PE.imp (pe_bm PySem.F.plainAttrs_str PySem.F.slot_str_index PySem.F.type_str_index mt_sindex (sE ok a x h2) (sEs ok b [y] h4 hn) (abase (nb h3)) (few_ok hn (by show 1 < 30; decide)) h1 (star_cons X.env (nb h5)) rfl) (key _ tm_idx)
    | zfill => exact PE.imp (pe_bm PySem.F.plainAttrs_str PySem.F.slot_str_zfill PySem.F.type_str_zfill mt_zfill (sE ok a x h2) (sEs ok b [y] h4 hn) (abase (nb h3)) (few_ok hn (by show 1 < 30; decide)) h1 (star_cons X.env (nb h5)) rfl) (key _ tm_zfill)
    | part => exact PE.imp (pe_bm PySem.F.plainAttrs_str PySem.F.slot_str_partition PySem.F.type_str_partition mt_partition (sE ok a x h2) (sEs ok b [y] h4 hn) (abase (nb h3)) (few_ok hn (by show 1 < 30; decide)) h1 (star_cons X.env (nb h5)) rfl) (key _ tm_part)
  | .dget g a, e, h => by
    obtain ⟨x, y, ap, cp, rfl, h1, h⟩ := iv_m1 (P := fun d y => match nameP d with
      | some x => glB C.sc x && (okN x && (decide (x = C.nm.dcN g) && (chkE C a y && (!isStar y && (C.tab.dc g).isSome))))
      | none => false) h
    have h : (match nameP x with
      | some x => glB C.sc x && (okN x && (decide (x = C.nm.dcN g) && (chkE C a y && (!isStar y && (C.tab.dc g).isSome))))
      | none => false) = true := h
    cases hx : nameP x with
    | none => rw [hx] at h; cases h
    | some nm =>
      rw [hx] at h
      have h : (glB C.sc nm && (okN nm && (decide (nm = C.nm.dcN g) && (chkE C a y && (!isStar y && (C.tab.dc g).isSome))))) = true := h
      obtain ⟨p, rfl⟩ := nameP_ok hx
      obtain ⟨h2, h⟩ := ba h
      obtain ⟨h3, h⟩ := ba h
      obtain ⟨h4, h⟩ := ba h
      obtain ⟨h5, h⟩ := ba h
      obtain ⟨h6, h7⟩ := ba h
      have h4 := of_decide_eq_true h4
      subst h4
      rw [ok.nm] at h2 h3 ⊢
      rw [ok.tab] at h7
      obtain ⟨kvs, hk⟩ := Option.isSome_iff_exists.mp h7
      obtain ⟨d, es, n, e1, e2, e3⟩ := (ok.dc g kvs hk).ex
      have hn : noStar [y] = true := by show (!isStar y && true) = true; rw [h6]; rfl
      refine PE.imp (pe_dgetK (kvs := kvs) ok.hu (by rw [ok.K, ok.w]; exact e2) (by rw [ok.K]; exact e3) (pe_glob (ok.kindOf h2) (by rw [ok.mg]; exact e1) rfl (okN_1 h3)) (sE ok a y h5) ⟨rfl, few_ok hn (by show 1 < 30; decide), h1, star_one X.env (nb h6)⟩) fun σ H Q ⟨W, env, S, sm, er, q⟩ => ?_
      refine Den.step q sm er fun v S1 W1 z H1 e1 l1 s1 n1 r1 p1 => ?_
      have p1 : PostV G Wx σ W1 (dgetV (G.tab.dc g) v S1) Q := p1
      rw [hk] at p1
      have no : ∀ {P : Prop} {W : Wd}, PostV G Wx σ W .bad Q → P := fun z => (show False from z).elim
      cases v with
      | r n => exact no p1
      | t t => cases t with
        | str t =>
          cases r1
          refine ⟨t, rfl, fun v hv => ?_⟩
          have p1 : PostV G Wx σ W1 (.ok (.t ((kvs.lookup t).getD .non)) S1) Q := p1
          exact post_t p1 s1 (flV_rep hv)
        | _ => exact no p1
  | .dgetI g a i, e, h => by
    obtain ⟨x, y, f, ap, cp, rfl, h1, h⟩ := iv_m2 (P := fun d y f => match nameP d with
      | some x => glB C.sc x && (okN x && (decide (x = C.nm.dcN g) && (chkE C a y && (!isStar y && (cintB i f && (!isStar f && (C.tab.dc g).isSome))))))
      | none => false) h
    have h : (match nameP x with
      | some x => glB C.sc x && (okN x && (decide (x = C.nm.dcN g) && (chkE C a y && (!isStar y && (cintB i f && (!isStar f && (C.tab.dc g).isSome))))))
      | none => false) = true := h
    cases hx : nameP x with
    | none => rw [hx] at h; cases h
    | some nm =>
      rw [hx] at h
      have h : (glB C.sc nm && (okN nm && (decide (nm = C.nm.dcN g) && (chkE C a y && (!isStar y && (cintB i f && (!isStar f && (C.tab.dc g).isSome))))))) = true := h
      obtain ⟨p, rfl⟩ := nameP_ok hx
      obtain ⟨h2, h⟩ := ba h
      obtain ⟨h3, h⟩ := ba h
      obtain ⟨h4, h⟩ := ba h
      obtain ⟨h5, h⟩ := ba h
      obtain ⟨h6, h⟩ := ba h
      obtain ⟨h8, h⟩ := ba h
      obtain ⟨h9, h7⟩ := ba h
      obtain ⟨fj, fp, rfl⟩ := cintB_ok h8
      have h4 := of_decide_eq_true h4
      subst h4
      rw [ok.nm] at h2 h3 ⊢
      rw [ok.tab] at h7
      obtain ⟨kvs, hk⟩ := Option.isSome_iff_exists.mp h7
      obtain ⟨d, es, n, e1, e2, e3⟩ := (ok.dc g kvs hk).ex
      have hn : noStar [y, .Constant (.int i) fj fp] = true := by show (!isStar y && true) = true; rw [h6]; rfl
      refine PE.imp (pe_dgetK2 (kvs := kvs) (i := i) ok.hu (by rw [ok.K, ok.w]; exact e2) (by rw [ok.K]; exact e3) (pe_glob (ok.kindOf h2) (by rw [ok.mg]; exact e1) rfl (okN_1 h3)) (sE ok a y h5) pe_int ⟨rfl, few_ok hn (by show 2 < 30; decide), h1, star_two X.env (nb h6) (nb h9)⟩) fun σ H Q ⟨W, env, S, sm, er, q⟩ => ?_
      refine Den.step q sm er fun v S1 W1 z H1 e1 l1 s1 n1 r1 p1 => ?_
      have p1 : PostV G Wx σ W1 (dgetIV (G.tab.dc g) i v S1) Q := p1
      rw [hk] at p1
      have no : ∀ {P : Prop} {W : Wd}, PostV G Wx σ W .bad Q → P := fun z => (show False from z).elim
      cases v with
      | r n => exact no p1
      | t t => cases t with
        | str t =>
          cases r1
          have p1 : PostV G Wx σ W1 (.ok (.t ((kvs.lookup t).getD (.int i))) S1) Q := p1
          exact ⟨t, rfl, rfl, fun v hv => post_t p1 s1 (flV_repI hv)⟩
        | _ => exact no p1
  | .sumV a, e, h => by
    cases hx : svP e with
    | none =>
      have h : (match svP e with
        | some y => glB C.sc ("sum" : Str) && (chkE C a y && (!isSup y && C.calm))
        | none => false) = true := h
      rw [hx] at h; cases h
    | some y =>
    have h : (match svP e with
      | some y => glB C.sc ("sum" : Str) && (chkE C a y && (!isSup y && C.calm))
      | none => false) = true := h
    rw [hx] at h
    obtain ⟨h1, h⟩ := ba h
    obtain ⟨h2, h⟩ := ba h
    obtain ⟨h3, h4⟩ := ba h
    obtain ⟨p, ap, mp, q, rfl, h5⟩ := svP_ok hx
    have fr : X.mg "sum" = none := by
      rw [ok.mg]
      refine ok.free _ ?_
      decide +kernel
    refine PE.imp (pe_sumVals (ok.calm h4) (ok.kindOf h1) fr (sE ok a y h2) (abase (nb h3)) h5) fun σ H Q ⟨W, env, S, sm, er, q⟩ =>
      Den.step q sm er fun v S1 W1 x H1 e1 l1 s1 n1 r1 p1 => ?_
    have p1 : PostV G Wx σ W1 (sumVV v S1) Q := p1
    unfold sumVV at p1
    cases e2 : (dctOf S1 v).bind fun kvs => allI (kvs.map (·.2)) with
    | none => rw [e2] at p1; exact (show False from p1).elim
    | some ns =>
      rw [e2] at p1
      obtain ⟨kvs, e3, e4⟩ := Option.bind_eq_some_iff.mp e2
      obtain ⟨ad, gs, rfl, ho, hp⟩ := dctOf_rep s1 r1 e3
      exact ⟨ad, gs, ns, rfl, ho, allI_rep (pair_snd hp) e4, post_t p1 s1 (.int _)⟩
  | .eqD neg a b, e, h => by
    obtain ⟨l, r, p, rfl, h1, h2, h3⟩ := iv_eqD h
    refine PE.imp (pe_cmpR (op_same ok.K ok.hu neg) (sE ok a l h1) (sE ok b r h2) (isSet_ok h3)) fun σ H Q ⟨W, env, S, sm, er, q⟩ =>
      Den.step q sm er fun v S1 W1 x H1 e1 l1 s1 n1 r1 p1 => Den.step p1 s1 n1 fun w S2 W2 y H2 e2 l2 s2 n2 r2 p2 => ?_
    have p2 : PostV G Wx σ W2 (eqDV neg v w S2) Q := p2
    unfold eqDV at p2
    cases q1 : peekD S2 v with
    | none => rw [q1] at p2; exact (show False from p2).elim
    | some t =>
      cases q2 : peekD S2 w with
      | none => rw [q1, q2] at p2; exact (show False from p2).elim
      | some u =>
        rw [q1, q2] at p2
        have p2 : PostV G Wx σ W2 (if ((!neg || (isDct t && isDct u)) && sameD 3 t u) = true then R.ok (.t (.bl (!neg))) S2 else .bad) Q := p2
        split at p2
        · rename_i c
          exact ⟨t, u, peekD_rep s2 (r1.mono l2) q1, peekD_rep s2 r2 q2, c, post_t p2 s2 (.bl _)⟩
        · exact (show False from p2).elim
  | .dctZ m a b, e, h => by
    cases hx : dzP e with
    | none =>
      have h : (match dzP e with
        | some (x, y) => glB C.sc ("dict" : Str) && (glB C.sc ("zip" : Str) && (chkE C a x && (!isStar x && (chkE C b y && (!isStar y && C.calm)))))
        | none => false) = true := h
      rw [hx] at h; cases h
    | some xy =>
    obtain ⟨x0, y0⟩ := xy
    have h : (match dzP e with
      | some (x, y) => glB C.sc ("dict" : Str) && (glB C.sc ("zip" : Str) && (chkE C a x && (!isStar x && (chkE C b y && (!isStar y && C.calm)))))
      | none => false) = true := h
    rw [hx] at h
    obtain ⟨h1, h⟩ := ba h
    obtain ⟨h2, h⟩ := ba h
    obtain ⟨h3, h⟩ := ba h
    obtain ⟨h4, h⟩ := ba h
    obtain ⟨h5, h⟩ := ba h
    obtain ⟨h6, h7⟩ := ba h
    obtain ⟨p, p2, q, q2, rfl⟩ := dzP_ok hx
    have fr : ∀ x : Str, x ∈ ["dict", "zip"].map Str.ofString → X.mg x = none := fun x hx => by
      rw [ok.mg]
      refine ok.free x ?_
      have : ∀ y ∈ ["dict", "zip"].map Str.ofString, y ∈ ["len", "int", "str", "min", "max", "abs", "list", "tuple", "all", "any", "sum", "divmod", "sorted", "bool", "isinstance", "range", "enumerate", "zip", "dict", "set", "ValueError"].map Str.ofString := by decide +kernel
      exact this x hx
    have st1 := star_cons (es := [y0]) X.env (nb h4)
    have st2 := star_cons (es := []) X.env (nb h6)
    have st3 : starEach [.Call (.Name "zip" p2) [x0, y0] [] q] X.env = (false, eval (.Call (.Name "zip" p2) [x0, y0] [] q) X.env) :: starEach [] X.env := star_cons X.env rfl
    refine PE.imp (pe_dctZ (ok.calm h7) (ok.kindOf h1) (fr _ (by decide +kernel)) (ok.kindOf h2) (fr _ (by decide +kernel)) (pa_cons (sE ok a x0 h3) (pa_cons (sE ok b y0 h5) pa_nil st2) st1) st1 (by rw [st2]; rfl) st3) fun σ H Q ⟨W, env, S, sm, er, q⟩ =>
      Den.step q sm er fun v S1 W1 x H1 e1 l1 s1 n1 r1 p1 => Den.step p1 s1 n1 fun w S2 W2 y H2 e2 l2 s2 n2 r2 p2 => ?_
    have p2 : PostV G Wx σ W2 (dctZV m v w S2) Q := p2
    have r1 := r1.mono l2
    cases v with
    | r n => exact (show False from p2).elim
    | t t =>
      cases t with
      | tup ks =>
        cases w with
        | r n => exact (show False from p2).elim
        | t u =>
          cases u with
          | tup vs =>
            have p2 : PostV G Wx σ W2 (if ks.length = vs.length then (match keysT ks with
              | some qs => mkD m (mergeKV [] ((qs.zip vs).map fun p => (p.1, Val.t p.2))) S2
              | none => .bad) else .bad) Q := p2
            by_cases hl : ks.length = vs.length
            · rw [if_pos hl] at p2
              cases r1 with
              | @tup ad gk _ hk rk =>
              cases r2 with
              | @tup bd gv _ hv rv =>
              cases q4 : keysT ks with
              | none => rw [q4] at p2; exact (show False from p2).elim
              | some qs =>
                rw [q4] at p2
                have ek := keysT_rep q4 rk
                have lq := keysT_len q4
                refine ⟨ad, bd, qs, gv, rfl, ?_, ?_, by rw [lq, hl, rv.length], mkD_post p2 s2 (mergeKV_rel (zip_pair rv) .nil)⟩
                · rw [← ek, ok.K]
                  exact sameT s2.fz hk
                · rw [ok.K]
                  exact sameT s2.fz hv
            · rw [if_neg hl] at p2
              exact (show False from p2).elim
          | _ => exact (show False from p2).elim
      | _ => exact (show False from p2).elim
  | .lenSet a, e, h => by
    obtain ⟨p, p2, y, q, q2, rfl, h1, h2, h3, h4, h5⟩ := iv_lenSet h
    have fr : ∀ x : Str, x ∈ ["len", "set"].map Str.ofString → X.mg x = none := fun x hx => by
      rw [ok.mg]
      refine ok.free x ?_
      have : ∀ y ∈ ["len", "set"].map Str.ofString, y ∈ ["len", "int", "str", "min", "max", "abs", "list", "tuple", "all", "any", "sum", "divmod", "sorted", "bool", "isinstance", "range", "enumerate", "zip", "dict", "set", "ValueError"].map Str.ofString := by decide +kernel
      exact this x hx
    refine PE.imp (RZ.pe_lenSetI (ok.kindOf h1) (fr _ (by decide +kernel)) (ok.kindOf h2) (fr _ (by decide +kernel)) (sE ok a y h3) (ok.calm h5) (star_cons X.env h4)) fun σ H Q ⟨W, env, S, sm, er, q⟩ =>
      Den.step q sm er fun v S1 W1 x H1 e1 l1 s1 n1 r1 p1 => ?_
    have p1 : PostV G Wx σ W1 (lenSetV v S1) Q := p1
    unfold lenSetV at p1
    cases e2 : listV S1 v with
    | none => rw [e2] at p1; exact (show False from p1).elim
    | some ws =>
      rw [e2] at p1
      obtain ⟨l, us, rfl, hs, rp⟩ := listV_rep s1 r1 e2
      cases e3 : allI ws with
      | none =>
        have p1 : PostV G Wx σ W1 (match allI ws with
          | some ns => if nodupI ns && decide (ns.length ≤ 4000) then .ok (.t (.int ns.length)) S1 else .bad
          | none => .bad) Q := p1
        rw [e3] at p1
        exact (show False from p1).elim
      | some ns =>
        have p1 : PostV G Wx σ W1 (match allI ws with
          | some ns => if nodupI ns && decide (ns.length ≤ 4000) then .ok (.t (.int ns.length)) S1 else .bad
          | none => .bad) Q := p1
        rw [e3] at p1
        have p1 : PostV G Wx σ W1 (if nodupI ns && decide (ns.length ≤ 4000) then .ok (.t (.int ns.length)) S1 else .bad) Q := p1
        split at p1
        · rename_i c
          have e4 := allI_rep rp e3
          subst e4
          exact ⟨l, ns, rfl, by rw [ok.K]; exact hs, nodupI_ok (ba c).1, of_decide_eq_true (ba c).2, post_t p1 s1 (.int _)⟩
        · exact (show False from p1).elim
  | .bm b m o es, e, h => by
    obtain ⟨x, ap, ys, q, rfl, h1, h2, h3, h4, h5, h6⟩ := iv_bm h
    obtain ⟨slot, ty⟩ := bm_rule b
    cases ys with
    | nil =>
      cases es with
      | cons _ _ => cases h3
      | nil =>
        refine PE.imp (pe_bm0 PySem.F.plainAttrs_list slot ty (MtR.any X _) (sE ok o x h1) (abase h2) h6) fun σ H Q ⟨W, env, S, sm, er, q⟩ => Den.step q sm er fun v S1 W1 x H1 e1 l1 s1 n1 r1 p1 => ?_
        have p1 : PostV G Wx σ W1 (if cellB v S1 then bmV b v [] S1 else .bad) Q := p1
        split at p1
        · rename_i c
          exact ⟨cell_ty ok.K c s1 r1, bm_any (ws := []) p1 s1 r1 .nil⟩
        · exact (show False from p1).elim
    | cons y ys =>
      refine PE.imp (pe_bm PySem.F.plainAttrs_list slot ty (MtR.any X _) (sE ok o x h1) (sEs ok es (y :: ys) h3 h4) (abase h2) (few_ok h4 (by have := bmA_len h5; omega)) h6 (star_cons X.env (nb (ba h4).1)) (star_any (ba h4).2)) fun σ H Q ⟨W, env, S, sm, er, q⟩ => Den.step q sm er fun v S1 W1 x H1 e1 l1 s1 n1 r1 p1 => ?_
      have p1 : PostV G Wx σ W1 (if cellB v S1 then (dEs G.tab call es env S1).bind fun vs S => bmV b v vs S else .bad) Q := p1
      split at p1
      · rename_i c
        exact ⟨cell_ty ok.K c s1 r1, Den.step p1 s1 n1 fun vs S2 W2 ys H2 e2 l2 s2 n2 r2 p2 => bm_any p2 s2 (r1.mono l2) r2⟩
      · exact (show False from p1).elim
  | .comp m kk src many tg ifs elt, e, h => by
    obtain ⟨x, t, it, xs, scope, p, rfl, h1, h2, h3, h4, h5, h6⟩ := iv_comp h
    have own : (ownOf C.N tg).map (·.2) = tg := by
      unfold ownOf
      rw [List.map_map]
      exact List.map_id tg
    have z := pe_lc (pos := p) (ok.calm h6) ok.nd (sIt ok kk src it t h1) (blkOk_by (by rw [ok.N, ok.sc]; exact h2)) (fun s H c cl fp => sTg (ok.blk h6 s H c cl fp scope) h3) (fun s H c cl fp => sIfs (ok.blk h6 s H c cl fp scope) ifs xs h4) (fun s H c cl fp => sE (ok.blk h6 s H c cl fp scope) elt x h5) (it_noset h1 X.env)
    rw [own] at z
    exact PE.imp z fun σ H Q d => lc_post d
theorem sIfs {C : Ck} {X : Cx} {Wx : WX} (ok : XOk G C X Wx k call) : ∀ (cs : ICs) (es : List Expr), chkIfs C cs es = true → PTs X es (tAndC G Wx call cs)
  | .nil, [], _ => ⟨fun pins s σ H Q I ⟨W, env, S, sm, er, q⟩ => pts_nil.run pins s σ H Q I (Post.ok (rep := fun _ (b k : Bool) => b = k) q sm rfl)⟩
  | .cons c .nil, [x], h => ⟨fun pins s σ H Q I ⟨W, env, S, sm, er, q⟩ => (pts_one (sC ok c x h)).run pins s σ H Q I (by
      refine Den.step q sm er fun v S1 W1 b1 H1 e1 l1 s1 n1 r1 p1 => ?_
      have r1 : b1 = v := r1
      subst r1
      cases b1 <;> exact Post.ok (rep := fun _ (b k : Bool) => b = k) p1 s1 rfl)⟩
  | .nil, _ :: _, h => by cases h
  | .cons _ .nil, [], h => by cases h
  | .cons _ .nil, _ :: _ :: _, h => by cases h
  | .cons _ (.cons _ _), _, h => by cases h
theorem sIt {C : Ck} {X : Cx} {Wx : WX} (ok : XOk G C X Wx k call) : ∀ (kk : ItK) (src : IEs) (it : Expr) (tg : Expr), chkIt C tg kk src it = true → PI X tg it (iSrc G Wx call kk src)
  | .seq, .cons a .nil, it, tg, h => by
    have h : (chkE C a it && !isSet it) = true := h
    refine ⟨fun pins s σ H R I ⟨W, env, S, sm, er, q⟩ => ?_⟩
    have q : Post G (fun W J its => Wlk G W J its) Wx σ W (((dE G.tab call a env S).bind fun v S => .ok [v] S).bind fun vs S => items .seq vs S) R := q
    rw [bind_assoc] at q
    rcases Classical.em (∃ xs S1, dE G.tab call a env S = .ok (.t (.tup xs)) S1) with ⟨us, U1, eu⟩ | nt
    · refine (pi_tup (sE ok a it (ba h).1)).run pins s σ H R I ?_
      refine Den.step q sm er fun v S1 W1 x H1 e1 l1 s1 n1 r1 p1 => ?_
      rw [eu] at e1
      cases e1
      cases r1 with
      | @tup ad vs _ hF rl =>
        refine ⟨ad, rfl, ⟨vs, by rw [ok.K]; exact sameT s1.fz hF⟩, ?_⟩
        rw [ok.K]
        exact Post.ok (rep := fun W J its => Wlk G W J its) p1 s1 (wlk_tup (fun W' S' H' l s => sameT (l.f.trans s.fz) hF) (vals_repL (vs := []) rl))
    · rcases Classical.em (∃ xs S1, dE G.tab call a env S = .ok (.t (.str xs)) S1) with ⟨us, U1, eu⟩ | ns
      · refine (pi_str (sE ok a it (ba h).1)).run pins s σ H R I ?_
        refine Den.step q sm er fun v S1 W1 x H1 e1 l1 s1 n1 r1 p1 => ?_
        rw [eu] at e1
        cases e1
        cases r1
        refine ⟨us, rfl, ?_⟩
        exact Post.ok (rep := fun W J its => Wlk G W J its) p1 s1 (wlk_str us)
      refine (pi_list (sE ok a it (ba h).1)).run pins s σ H R I ?_
      refine Den.step q sm er fun v S1 W1 x H1 e1 l1 s1 n1 r1 p1 => ?_
      cases v with
      | r n =>
        obtain ⟨hn, ex⟩ := r1
        subst ex
        have p1 : Post G (fun W J its => Wlk G W J its) Wx σ W1 (match S1[n]? with
          | some (.lst ws) => .ok (ws, some (n, ws)) S1
          | _ => .bad) R := p1
        cases qn : S1[n]? with
        | none => rw [qn] at p1; exact (show False from p1).elim
        | some c =>
          rw [qn] at p1
          cases c with
          | lst ws =>
            obtain ⟨_, _, o, ho, okc⟩ := s1.live n _ qn (by intro z; cases z)
            cases okc with
            | @lst vs _ hp =>
              refine ⟨_, rfl, ⟨vs, SqL.of ho⟩, ?_⟩
              rw [ok.K]
              exact Post.ok (rep := fun W J its => Wlk G W J its) p1 s1 (wlk_cell hn)
          | _ => exact (show False from p1).elim
      | t t =>
        cases t with
        | lst us =>
          cases r1 with
          | @lst ad vs _ hF rl =>
            refine ⟨ad, rfl, ⟨vs, SqL.of (s1.fz _ _ hF)⟩, ?_⟩
            rw [ok.K]
            exact Post.ok (rep := fun W J its => Wlk G W J its) p1 s1 (wlk_list (fun W' S' H' l s => SqL.of ((l.f.trans s.fz) _ _ hF)) (vals_repL (vs := []) rl))
        | scr ns =>
          cases r1 with
          | @scr ad _ hF =>
            refine ⟨ad, rfl, ⟨_, by rw [ok.K]; exact s1.fz.seq hF⟩, ?_⟩
            rw [ok.K]
            exact Post.ok (rep := fun W J its => Wlk G W J its) p1 s1 (wlk_list (fun W' S' H' l s => (l.f.trans s.fz).seq hF) (vals_ints ns))
        | tup us => exact (nt ⟨us, S1, e1⟩).elim
        | str us => exact (ns ⟨us, S1, e1⟩).elim
        | _ => exact (show False from p1).elim
  | .range, .cons a .nil, it, tg, h => by
    obtain ⟨p, y, q, rfl, h1, h2, h3⟩ := iv_rng1 h
    have hfree : X.mg ("range" : Str) = none := by
      rw [ok.mg]
      exact ok.free _ (by decide +kernel)
    have hn : noStar [y] = true := by show (!isStar y && true) = true; rw [h3]; rfl
    refine ⟨fun pins s σ H R I ⟨W, env, S, sm, er, q⟩ => (pi_range1 (ok.kindOf h1) hfree (pa1 (sE ok a y h2) h3) (star_cons X.env h3)).run pins s σ H R I ?_⟩
    refine Den.step q sm er fun ws S1 W1 xs H1 e1 l1 s1 n1 r1 p1 => ?_
    have hl := dEs_len e1
    cases ws with
    | nil => cases hl
    | cons w ws =>
      cases ws with
      | cons _ _ => cases hl
      | nil =>
        obtain ⟨v, rfl, rv⟩ := one_arg r1
        cases w with
        | r n => exact (show False from p1).elim
        | t t =>
          cases t with
          | int n =>
            cases rv
            have p1 : Post G (fun W J its => Wlk G W J its) Wx σ W1 (if rngOk n then .ok (rng 0 n, none) S1 else .bad) R := p1
            split at p1
            · rename_i c
              obtain ⟨b1, b2⟩ := rngOk_ok c
              refine ⟨n, rfl, b1, b2, ?_⟩
              have z := wlk_rng (G := G) (W := W1) (lo := 0) (hi := n)
              rw [Int.sub_zero] at z
              exact Post.ok (rep := fun W J its => Wlk G W J its) p1 s1 z
            · exact (show False from p1).elim
          | _ => exact (show False from p1).elim
  | .range, .cons a (.cons b .nil), it, tg, h => by
    obtain ⟨p, y, z, q, rfl, h1, h2, h3, h4, h5⟩ := iv_rng2 h
    have hfree : X.mg ("range" : Str) = none := by
      rw [ok.mg]
      exact ok.free _ (by decide +kernel)
    have hn : noStar [y, z] = true := by show (!isStar y && (!isStar z && true)) = true; rw [h4, h5]; rfl
    refine ⟨fun pins s σ H R I ⟨W, env, S, sm, er, q⟩ => (pi_range2 (ok.kindOf h1) hfree (pa2 (sE ok a y h2) (sE ok b z h3) h4 h5) (by rw [star_cons X.env h4, star_cons X.env h5]; rfl) (star_cons X.env h5)).run pins s σ H R I ?_⟩
    refine Den.step q sm er fun ws S1 W1 xs H1 e1 l1 s1 n1 r1 p1 => ?_
    have hl := dEs_len e1
    cases ws with
    | nil => cases hl
    | cons w ws =>
      cases ws with
      | nil => cases hl
      | cons w2 ws =>
        cases ws with
        | cons _ _ => cases hl
        | nil =>
          obtain ⟨v, u, rfl, rv, ru⟩ := two_args r1
          cases w with
          | r n => exact (show False from p1).elim
          | t t =>
            cases t with
            | int m =>
              cases w2 with
              | r n => exact (show False from p1).elim
              | t t2 =>
                cases t2 with
                | int n =>
                  cases rv
                  cases ru
                  have p1 : Post G (fun W J its => Wlk G W J its) Wx σ W1 (if rngOk m && rngOk n then .ok (rng m n, none) S1 else .bad) R := p1
                  split at p1
                  · rename_i c
                    obtain ⟨b1, b2⟩ := rngOk_ok (ba c).1
                    obtain ⟨b3, b4⟩ := rngOk_ok (ba c).2
                    exact ⟨m, n, rfl, ⟨b1, b2, b3, b4⟩, Post.ok (rep := fun W J its => Wlk G W J its) p1 s1 wlk_rng⟩
                  · exact (show False from p1).elim
                | _ => exact (show False from p1).elim
            | _ => exact (show False from p1).elim
  | .zip, .cons a (.cons b .nil), it, tg, h => by
    obtain ⟨p, y, z, q, es, kk, tp, rfl, rfl, h1, h2, h3, h4, h5⟩ := iv_zip h
    have hfree : X.mg ("zip" : Str) = none := by
      rw [ok.mg]
      exact ok.free _ (by decide +kernel)
    refine ⟨fun pins s σ H R I ⟨W, env, S, sm, er, q⟩ => (pi_zipA (ok.kindOf h1) hfree (pa2 (sE ok a y h2) (sE ok b z h3) h4 h5) (by rw [star_cons X.env h4, star_cons X.env h5]) (by rw [star_cons X.env h5]; rfl)).run pins s σ H R I ?_⟩
    refine Den.step q sm er fun ws S1 W1 xs H1 e1 l1 s1 n1 r1 p1 => ?_
    have hl := dEs_len e1
    cases ws with
    | nil => cases hl
    | cons w1 ws =>
      cases ws with
      | nil => cases hl
      | cons w2 ws =>
        cases ws with
        | cons _ _ => cases hl
        | nil =>
          obtain ⟨v1, v2, rfl, ra, rb⟩ := two_args r1
          have no : ∀ {P : Prop}, Post G (fun W J its => Wlk G W J its) Wx σ W1 .bad R → P := fun z => (show False from z).elim
          cases w1 with
          | r n => exact no p1
          | t t1 =>
            cases t1 with
            | str x =>
              cases w2 with
              | r n => exact no p1
              | t t2 =>
                cases t2 with
                | tup ys =>
                  cases ra
                  cases rb with
                  | @tup ad vs _ hF rl =>
                    refine ⟨x, ad, vs, rfl, .inl ⟨by rw [ok.K]; exact sameT s1.fz hF, ?_⟩⟩
                    rw [ok.K]
                    exact Post.ok (rep := fun W J its => Wlk G W J its) p1 s1 (wlk_zip (fun W' S' H' l s => sameT (l.f.trans s.fz) hF) (vals_repL (vs := []) rl))
                | lst ys =>
                  cases ra
                  cases rb with
                  | @lst ad vs _ hF rl =>
                    refine ⟨x, ad, vs, rfl, .inr ⟨by rw [ok.K]; exact SqL.of (s1.fz _ _ hF), ?_⟩⟩
                    rw [ok.K]
                    exact Post.ok (rep := fun W J its => Wlk G W J its) p1 s1 (wlk_zipL (fun W' S' H' l s => SqL.of ((l.f.trans s.fz) _ _ hF)) (vals_repL (vs := []) rl))
                | _ => exact no p1
            | _ => exact no p1
  | .seq, .nil, _, _, h => by cases h
  | .seq, .cons _ (.cons _ _), _, _, h => by cases h
  | .range, .nil, _, _, h => by cases h
  | .range, .cons _ (.cons _ (.cons _ _)), _, _, h => by cases h
  | .enum, .cons a .nil, it, tg, h => by
    obtain ⟨p, y, q, es, kk, tp, rfl, rfl, h1, h2, h3⟩ := iv_enum h
    have hfree : X.mg ("enumerate" : Str) = none := by
      rw [ok.mg]
      exact ok.free _ (by decide +kernel)
    refine ⟨fun pins s σ H R I ⟨W, env, S, sm, er, q⟩ => (pi_enum (ok.kindOf h1) hfree (pa1 (sE ok a y h2) h3) (star_cons X.env h3)).run pins s σ H R I ?_⟩
    refine Den.step q sm er fun ws S1 W1 xs H1 e1 l1 s1 n1 r1 p1 => ?_
    have hl := dEs_len e1
    have no : ∀ {P : Prop}, Post G (fun W J its => Wlk G W J its) Wx σ W1 .bad R → P := fun z => (show False from z).elim
    cases ws with
    | nil => cases hl
    | cons w ws =>
      cases ws with
      | cons _ _ => cases hl
      | nil =>
        obtain ⟨v, rfl, rv⟩ := one_arg r1
        cases w with
        | r n => exact no p1
        | t t =>
          cases t with
          | lst ys =>
            cases rv with
            | @lst ad vs _ hF rl =>
              refine ⟨ad, vs, rfl, by rw [ok.K]; exact SqL.of (s1.fz _ _ hF), ?_⟩
              rw [ok.K]
              exact Post.ok (rep := fun W J its => Wlk G W J its) p1 s1 (wlk_enum (fun W' S' H' l s => SqL.of ((l.f.trans s.fz) _ _ hF)) (vals_repL (vs := []) rl))
          | _ => exact no p1
  | .enum, .nil, it, _, h => by cases it <;> cases h
  | .enum, .cons _ (.cons _ _), it, _, h => by cases it <;> cases h
  | .zip, .nil, it, _, h => by cases it <;> cases h
  | .zip, .cons _ .nil, it, _, h => by cases it <;> cases h
  | .zip, .cons _ (.cons _ (.cons _ _)), it, _, h => by cases it <;> cases h
theorem sEs {C : Ck} {X : Cx} {Wx : WX} (ok : XOk G C X Wx k call) : ∀ (ies : IEs) (es : List Expr), chkEs C ies es = true → noStar es = true → PA X es (tEs G Wx call ies)
  | .nil, [], _, _ => PA.imp pa_nil fun σ H Q ⟨W, env, S, sm, er, q⟩ => Post.ok (rep := fun W => Paired (RepV G W)) q sm .nil
  | .cons e es, x :: xs, h, hs => PA.imp (pa_cons (sE ok e x (ba h).1) (sEs ok es xs (ba h).2 (ba hs).2) (star_cons X.env (nb (ba hs).1))) fun σ H Q ⟨W, env, S, sm, er, q⟩ =>
      Den.step q sm er fun v S1 W1 x H1 e1 l1 s1 n1 r1 p1 => Den.step p1 s1 n1 fun ws S2 W2 ys H2 e2 l2 s2 n2 r2 p2 => Post.ok (rep := fun W => Paired (RepV G W)) p2 s2 (.cons (r1.mono l2) r2)
  | .nil, _ :: _, h, _ => by cases h
  | .cons _ _, [], h, _ => by cases h
theorem sPP {C : Ck} {X : Cx} {Wx : WX} (ok : XOk G C X Wx k call) (pos : Pos) : ∀ (ies : IEs) (ks : List Key) (keys : List (Option Expr)) (es : List Expr), keysB ks keys = true → chkEs C ies es = true → keys.length = es.length → PPs X pos keys es (trsOf G Wx call ks ies)
  | .nil, ks, keys, [], h1, _, h3 => by
    rw [List.length_eq_zero_iff.mp h3] at h1 ⊢
    cases ks with
    | nil => exact pps_nil
    | cons k ks => cases k <;> cases h1
  | .cons e es, [], [], _ :: _, _, _, h3 => by cases h3
  | .cons e es, [], _ :: _, _, h1, _, _ => by cases h1
  | .cons e es, k :: ks, key :: keys, x :: xs, h1, h2, h3 => by
    obtain ⟨c, rfl, hc, h4⟩ := keysB_cons (X := X) h1
    exact pps_cons hc (sE ok e x (ba h2).1) (sPP ok pos es ks keys xs h4 (ba h2).2 (Nat.succ.inj h3))
  | .cons e es, .inl _ :: _, [], _, h1, _, _ => by cases h1
  | .cons e es, .inr _ :: _, [], _, h1, _, _ => by cases h1
  | .nil, _, _, _ :: _, _, h2, _ => by cases h2
  | .cons _ _, _, _, [], _, h2, _ => by cases h2
theorem sAndE {C : Ck} {X : Cx} {Wx : WX} (ok : XOk G C X Wx k call) : ∀ (ies : IEs) (es : List Expr) (pos : Pos), chkEs C ies es = true → PE X (.BoolOp .And es pos) (Den G (RepV G) Wx (dAndE G.tab call ies))
  | .nil, [], _, _ => ⟨fun pins s σ H Q I ⟨W, env, S, sm, er, q⟩ => (show False from q).elim⟩
  | .cons e .nil, [x], pos, h => pe_one (sE ok e x (ba h).1)
  | .cons e (.cons f fs), x :: y :: ys, pos, h => PE.imp (pe_andT (sE ok e x (ba h).1) (sAndE ok (.cons f fs) (y :: ys) pos (ba h).2)) fun σ H Q ⟨W, env, S, sm, er, q⟩ =>
      Den.step q sm er fun v S1 W1 x H1 e1 l1 s1 n1 r1 p1 => by
        obtain ⟨b, hb, p2⟩ := truV_st p1 s1 r1
        refine ⟨b, by rw [ok.K]; exact hb, ?_⟩
        cases b with
        | true => exact iteT (Den.last p2 s1 n1)
        | false => exact iteF (Post.ok (rep := RepV G) p2 s1 r1)
  | .nil, _ :: _, _, h => by cases h
  | .cons _ .nil, [], _, h => by cases h
  | .cons _ .nil, _ :: _ :: _, _, h => by cases (ba h).2
  | .cons _ (.cons _ _), [], _, h => by cases h
  | .cons _ (.cons _ _), [_], _, h => by cases (ba h).2
theorem sOrE {C : Ck} {X : Cx} {Wx : WX} (ok : XOk G C X Wx k call) : ∀ (ies : IEs) (es : List Expr) (pos : Pos), chkEs C ies es = true → PE X (.BoolOp .Or es pos) (Den G (RepV G) Wx (dOrE G.tab call ies))
  | .nil, [], _, _ => ⟨fun pins s σ H Q I ⟨W, env, S, sm, er, q⟩ => (show False from q).elim⟩
  | .cons e .nil, [x], pos, h => pe_one (sE ok e x (ba h).1)
  | .cons e (.cons f fs), x :: y :: ys, pos, h => PE.imp (pe_orT (sE ok e x (ba h).1) (sOrE ok (.cons f fs) (y :: ys) pos (ba h).2)) fun σ H Q ⟨W, env, S, sm, er, q⟩ =>
      Den.step q sm er fun v S1 W1 x H1 e1 l1 s1 n1 r1 p1 => by
        obtain ⟨b, hb, p2⟩ := truV_st p1 s1 r1
        refine ⟨b, by rw [ok.K]; exact hb, ?_⟩
        cases b with
        | true => exact iteT (Post.ok (rep := RepV G) p2 s1 r1)
        | false => exact iteF (Den.last p2 s1 n1)
  | .nil, _ :: _, _, h => by cases h
  | .cons _ .nil, [], _, h => by cases h
  | .cons _ .nil, _ :: _ :: _, _, h => by cases (ba h).2
  | .cons _ (.cons _ _), [], _, h => by cases h
  | .cons _ (.cons _ _), [_], _, h => by cases (ba h).2
theorem sC {C : Ck} {X : Cx} {Wx : WX} (ok : XOk G C X Wx k call) : ∀ (c : IC) (e : Expr), chkC C c e = true → PT X e (tB G Wx call c)
  | .val ie, e, h => by
    obtain ⟨h1, h2⟩ := ba h
    have gen : isCmpI ie = false → PT X e (tB G Wx call (.val ie)) := fun z => by
      rw [z, Bool.or_false] at h2
      exact PT.imp (pt_truth (sE ok ie e h1) (plainT_ok h2)) fun σ H Q ⟨W, env, S, sm, er, q⟩ => Den.step q sm er fun v S1 W1 x H1 e1 l1 s1 n1 r1 p1 => by rw [ok.K]; exact tru_post p1 s1 r1
    cases ie with
    | cmp op a b =>
      obtain ⟨l, r, p, rfl, h1, h2, h3⟩ := iv_cmp h1
      refine PT.imp (pt_cmpR (OpR.any _) (sE ok a l h1) (sE ok b r h2) (isSet_ok h3)) fun σ H Q ⟨W, env, S, sm, er, q⟩ => ?_
      have q : Post G (fun _ (b k : Bool) => b = k) Wx σ W (((dE G.tab call a env S).bind fun x S => (dE G.tab call b env S).bind fun y S => cmpV op x y S).bind fun v S => truV v S) Q := q
      rw [bind_assoc] at q
      refine Den.step q sm er fun v S1 W1 x H1 e1 l1 s1 n1 r1 p1 => ?_
      rw [bind_assoc] at p1
      refine Den.step p1 s1 n1 fun w S2 W2 y H2 e2 l2 s2 n2 r2 p2 => ?_
      obtain ⟨b1, e3, p3⟩ := cmpV_bind p2
      refine cmp_any (op := op) (a := v) (b := w) (W := W2) (Wx := Wx) (σ := σ) (S := S2) ok.K ok.hu ?_ s2 (r1.mono l2) r2
      rw [e3]
      intro W3 z H3 l3 s3 r3
      cases r3
      exact ⟨b1, rfl, Post.ok (rep := fun _ (b k : Bool) => b = k) (p3.mono l3) s3 rfl⟩
    | eqD neg a b =>
      obtain ⟨l, r, p, rfl, h1, h2, h3⟩ := iv_eqD h1
      refine PT.imp (pt_cmpR (op_same ok.K ok.hu neg) (sE ok a l h1) (sE ok b r h2) (isSet_ok h3)) fun σ H Q ⟨W, env, S, sm, er, q⟩ => ?_
      have q : Post G (fun _ (b k : Bool) => b = k) Wx σ W (((dE G.tab call a env S).bind fun x S => (dE G.tab call b env S).bind fun y S => eqDV neg x y S).bind fun v S => truV v S) Q := q
      rw [bind_assoc] at q
      refine Den.step q sm er fun v S1 W1 x H1 e1 l1 s1 n1 r1 p1 => ?_
      rw [bind_assoc] at p1
      refine Den.step p1 s1 n1 fun w S2 W2 y H2 e2 l2 s2 n2 r2 p2 => ?_
      have p2 : Post G (fun _ (b k : Bool) => b = k) Wx σ W2 ((eqDV neg v w S2).bind fun v S => truV v S) Q := p2
      unfold eqDV at p2
      cases q1 : peekD S2 v with
      | none => rw [q1] at p2; exact (show False from p2).elim
      | some t =>
        cases q2 : peekD S2 w with
        | none => rw [q1, q2] at p2; exact (show False from p2).elim
        | some u =>
          rw [q1, q2] at p2
          have p2 : Post G (fun _ (b k : Bool) => b = k) Wx σ W2 ((if ((!neg || (isDct t && isDct u)) && sameD 3 t u) = true then R.ok (.t (.bl (!neg))) S2 else .bad).bind fun v S => truV v S) Q := p2
          split at p2
          · rename_i c
            exact ⟨t, u, peekD_rep s2 (r1.mono l2) q1, peekD_rep s2 r2 q2, c, _, rfl, Post.ok (rep := fun _ (b k : Bool) => b = k) p2 s2 rfl⟩
          · exact (show False from p2).elim
    | inRg neg a b =>
      obtain ⟨l, p2, y, q, p, rfl, h1, h2, h3, h4⟩ := iv_inRg h1
      have fr : X.mg ("range" : Str) = none := by
        rw [ok.mg]
        exact ok.free _ (by decide +kernel)
      refine PT.imp (pt_cmpR (op_rg neg) (sE ok a l h2) (pe_callTy cr_range1 (ok.kindOf h1) fr (by decide +kernel) (pa_cons (sE ok b y h3) pa_nil (star_cons X.env h4)) (by decide +kernel) (by decide +kernel) (star_cons X.env h4) rfl) (by cases neg <;> rfl)) fun σ H Q ⟨W, env, S, sm, er, q⟩ => ?_
      have q : Post G (fun _ (b k : Bool) => b = k) Wx σ W (((dE G.tab call a env S).bind fun x S => (dE G.tab call b env S).bind fun y S => inRgV neg x y S).bind fun v S => truV v S) Q := q
      rw [bind_assoc] at q
      refine Den.step q sm er fun v S1 W1 x H1 e1 l1 s1 n1 r1 p1 => ?_
      rw [bind_assoc] at p1
      refine Den.step p1 s1 n1 fun w S2 W2 y H2 e2 l2 s2 n2 r2 p2 => ?_
      have p2 : Post G (fun _ (b k : Bool) => b = k) Wx σ W2 ((inRgV neg v w S2).bind fun v S => truV v S) Q := p2
      unfold inRgV at p2
      split at p2
      · cases r1
        cases r2
        refine ⟨_, rfl, fun p hp => ⟨_, _, _, _, rfl, rfl, upd_same, _, rfl, ?_⟩⟩
        exact Post.ok (rep := fun _ (b k : Bool) => b = k) (p2.mono (Wd.le_addF s2 hp _)) (s2.addF hp _) rfl
      · exact (show False from p2).elim
    | cmp2 o p a b c =>
      obtain ⟨l, m, r, pos, rfl, h1, h2, h3, h4, h5⟩ := iv_cmp2 h1
      refine PT.imp (pt_chain (OpR.any _) (OpR.any _) (sE ok a l h1) (sE ok b m h2) (sE ok c r h3) (lm_false h5)) fun σ H Q ⟨W, env, S, sm, er, q⟩ => ?_
      have q : Post G (fun _ (b k : Bool) => b = k) Wx σ W (((dE G.tab call a env S).bind fun x S => (dE G.tab call b env S).bind fun y S => (cmpV o x y S).bind fun z S => (truV z S).bind fun k S =>
        if k then (dE G.tab call c env S).bind fun w S => cmpV p y w S else .ok (.t (.bl false)) S).bind fun v S => truV v S) Q := q
      rw [bind_assoc] at q
      refine Den.step q sm er fun v S1 W1 x H1 e1 l1 s1 n1 r1 p1 => ?_
      rw [bind_assoc] at p1
      refine Den.step p1 s1 n1 fun w S2 W2 y H2 e2 l2 s2 n2 r2 p2 => ?_
      rw [bind_assoc] at p2
      obtain ⟨b1, e3, p3⟩ := cmpV_bind p2
      refine cmp_any (op := o) (a := v) (b := w) (W := W2) (Wx := Wx) (σ := σ) (S := S2) ok.K ok.hu ?_ s2 (r1.mono l2) r2
      rw [e3]
      intro W3 z H3 l3 s3 r3
      cases r3
      refine ⟨b1, rfl, ?_⟩
      have p4 := p3.mono l3
      cases b1 with
      | true =>
        have p4 : Post G (fun _ (b k : Bool) => b = k) Wx σ W3 (((dE G.tab call c env S2).bind fun w2 S => cmpV p w w2 S).bind fun v S => truV v S) Q := p4
        rw [bind_assoc] at p4
        refine iteT (Den.step p4 s3 (n2.mono l3) fun u S4 W4 z H4 e4 l4 s4 n4 r4 p5 => ?_)
        obtain ⟨b2, e6, p6⟩ := cmpV_bind p5
        refine cmp_any (op := p) (a := w) (b := u) (W := W4) (Wx := Wx) (σ := σ) (S := S4) ok.K ok.hu ?_ s4 (r2.mono (l3.trans l4)) r4
        rw [e6]
        intro W7 z H7 l7 s7 r7
        cases r7
        exact ⟨b2, rfl, Post.ok (rep := fun _ (b k : Bool) => b = k) (p6.mono l7) s7 rfl⟩
      | false => exact iteF ⟨false, rfl, Post.ok (rep := fun _ (b k : Bool) => b = k) p4 s3 rfl⟩
    | _ => exact gen rfl
  | .not c, e, h => by
    cases e with
    | UnaryOp o x p =>
      cases o with
      | Not =>
        refine PT.imp (pt_not (sC ok c x h)) fun σ H Q ⟨W, env, S, sm, er, q⟩ => Den.step q sm er fun v S1 W1 b1 H1 e1 l1 s1 n1 r1 p1 => ?_
        have r1 : b1 = v := r1
        subst r1
        exact Post.ok (rep := fun _ (b k : Bool) => b = k) p1 s1 rfl
      | _ => cases h
    | _ => cases h
  | .ands cs, e, h => by
    cases e with
    | BoolOp o vs p =>
      cases o with
      | And => exact (sAnd ok cs vs p (ba h).1 (by intro z; subst z; cases (ba h).2)).pt
      | Or => cases h
    | _ => cases h
  | .ors cs, e, h => by
    cases e with
    | BoolOp o vs p =>
      cases o with
      | Or => exact (sOr ok cs vs p (ba h).1 (by intro z; subst z; cases (ba h).2)).pt
      | And => cases h
    | _ => cases h
theorem sAnd {C : Ck} {X : Cx} {Wx : WX} (ok : XOk G C X Wx k call) : ∀ (cs : ICs) (es : List Expr) (pos : Pos), chkCs C cs es = true → es ≠ [] → PW X (.BoolOp .And es pos) (tAndC G Wx call cs)
  | .nil, [], _, _, hn => absurd rfl hn
  | .cons c .nil, [x], pos, h, _ => PW.imp (pw_and1 (sC ok c x (ba h).1)) fun σ H Q ⟨W, env, S, sm, er, q⟩ => Den.step q sm er fun v S1 W1 b1 H1 e1 l1 s1 n1 r1 p1 => by
      have r1 : b1 = v := r1
      subst r1
      cases b1 <;> exact Post.ok (rep := fun _ (b k : Bool) => b = k) p1 s1 rfl
  | .cons c (.cons d ds), x :: y :: ys, pos, h, _ => PW.imp (pw_and (sC ok c x (ba h).1) (sAnd ok (.cons d ds) (y :: ys) pos (ba h).2 (fun z => nomatch z))) fun σ H Q ⟨W, env, S, sm, er, q⟩ => Den.step q sm er fun v S1 W1 b1 H1 e1 l1 s1 n1 r1 p1 => by
      have r1 : b1 = v := r1
      subst r1
      cases b1 with
      | true => exact iteT (Den.last p1 s1 n1)
      | false => exact iteF (Post.ok (rep := fun _ (b k : Bool) => b = k) p1 s1 rfl)
  | .nil, _ :: _, _, h, _ => by cases h
  | .cons _ .nil, [], _, h, _ => by cases h
  | .cons _ .nil, _ :: _ :: _, _, h, _ => by cases (ba h).2
  | .cons _ (.cons _ _), [], _, h, _ => by cases h
  | .cons _ (.cons _ _), [_], _, h, _ => by cases (ba h).2
theorem sOr {C : Ck} {X : Cx} {Wx : WX} (ok : XOk G C X Wx k call) : ∀ (cs : ICs) (es : List Expr) (pos : Pos), chkCs C cs es = true → es ≠ [] → PW X (.BoolOp .Or es pos) (tOrC G Wx call cs)
  | .nil, [], _, _, hn => absurd rfl hn
  | .cons c .nil, [x], pos, h, _ => PW.imp (pw_or1 (sC ok c x (ba h).1)) fun σ H Q ⟨W, env, S, sm, er, q⟩ => Den.step q sm er fun v S1 W1 b1 H1 e1 l1 s1 n1 r1 p1 => by
      have r1 : b1 = v := r1
      subst r1
      cases b1 <;> exact Post.ok (rep := fun _ (b k : Bool) => b = k) p1 s1 rfl
  | .cons c (.cons d ds), x :: y :: ys, pos, h, _ => PW.imp (pw_or (sC ok c x (ba h).1) (sOr ok (.cons d ds) (y :: ys) pos (ba h).2 (fun z => nomatch z))) fun σ H Q ⟨W, env, S, sm, er, q⟩ => Den.step q sm er fun v S1 W1 b1 H1 e1 l1 s1 n1 r1 p1 => by
      have r1 : b1 = v := r1
      subst r1
      cases b1 with
      | true => exact iteT (Post.ok (rep := fun _ (b k : Bool) => b = k) p1 s1 rfl)
      | false => exact iteF (Den.last p1 s1 n1)
  | .nil, _ :: _, _, h, _ => by cases h
  | .cons _ .nil, [], _, h, _ => by cases h
  | .cons _ .nil, _ :: _ :: _, _, h, _ => by cases (ba h).2
  | .cons _ (.cons _ _), [], _, h, _ => by cases h
  | .cons _ (.cons _ _), [_], _, h, _ => by cases (ba h).2
end
end
end Rw
namespace Rw
open PySem PySem.Spec PyProof.Rows L2
theorem fly_ext {base h h' : Heap} {l : List PySem.Env} {e : Addr} {Z : Obj → Prop} (k : ∀ b o, h.get? b = some o → h'.get? b = some o) (f : HandSPX.FlyingZ base l e Z h) : HandSPX.FlyingZ base l e Z h' := by
  obtain ⟨f1, f2, f3, oe, vs, T, oT, ts, he, hz, hd, h1, hn, hne, hT, hdT, h3⟩ := f
  exact ⟨fun b o q => k _ _ (f1 b o q), f2, Heap.FunFrames.of_keeps (fun b o e _ => ⟨o, k b o e, rfl⟩) f3, oe, vs, T, oT, ts, k _ _ he, hz, hd, h1, hn, hne, k _ _ hT, hdT, h3⟩
theorem up_ext {h h1 h2 : Heap} (u : h.UpToSlots h1) (k : ∀ b o, h1.get? b = some o → h2.get? b = some o) : h.UpToSlots h2 := fun b o e d => by
  obtain ⟨sl, q⟩ := u b o e d
  exact ⟨sl, k _ _ q⟩
def wTup (K : PySem.W.Frag) (cs : List Value) (ts : Addr → Value → Option Addr → TS) (Wout : WX) (D : Ends) : WX := fun cls d σ H =>
  ∃ b, PySem.W.exmAny K cls cs = some b ∧ (b = true → ∀ a, H a = none → ts a cls d D σ H) ∧ (b = false → Wout cls d σ H)
section
variable {X : Cx} {x1 x2 x3 : Str} {c1 c2 c3 : Value} {body suite : List Stmt} {b₀ : Stmt} {p1 p2 p3 tp pos pos' : Pos} {kk : Nat} {tb : WX → TS} {ts : Addr → Value → Option Addr → TS} {Wout : WX}
theorem ps_try_tup3 (hs : X.stack = X.env :: X.outer) (hf : X.env.frame = some X.env.locals) (hc1 : Names X x1 c1) (hc2 : Names X x2 c2) (hc3 : Names X x3 c3) (tk : Takes X Wout)
    (hb : ∀ (W : WX) (pn : List (Addr × Obj)) (xe : Value → Shared → Prop), Takes (X.tr pn xe) W → PassesOwn (model X.prog X.w) X.A X.env xe → PSs (X.tr pn xe) body (tb W))
    (hsu : ∀ (a : Addr) (oe : Obj) (cls : Value) (d : Option Addr) (pn : List (Addr × Obj)), Zc cls d oe → (∃ vs, oe.data = .fields vs) → PSs (X.suite a ((a, oe) :: pn)) (b₀ :: suite) (ts a cls d)) :
    PS X (.Try body [.ExceptHandler (some (.Tuple [.Name x1 p1, .Name x2 p2, .Name x3 p3] kk tp)) none (b₀ :: suite) pos'] [] [] pos) (fun D σ H => tb (wTup X.K [c1, c2, c3] ts Wout D) D σ H) := by
  refine ⟨fun pins s σ H D I h => ?_⟩
  have ok := I.ok
  have hfr : X.A.frames = some (X.env :: X.outer) := by rw [ok.frames, hs]
  refine wpAny_Try_except ?_
  refine wpAny_mono ((hb (wTup X.K [c1, c2, c3] ts Wout D) (X.pn ++ pins) (fun e s₁ => wpAny (model X.prog X.w) X.A (noteFrame e X.env) (fun _ s₂ => wpAny (model X.prog X.w) X.A (setFlight e none) (fun _ s₃ =>
    wpAny (model X.prog X.w) X.A (handleBy e X.env [.ExceptHandler (some (.Tuple [.Name x1 p1, .Name x2 p2, .Name x3 p3] kk tp)) none (b₀ :: suite) pos']) (SP X pins D) X.xe s₃) X.xe s₂) X.xe s₁) (fun u s' xx => ?_) PassesOwn.looking).run [] s σ H D (I.toTry _) h) (fun f s1 hsp => ?_) (fun e s1 he => he)
  · obtain ⟨a, B, sI, pins', σ', H', cls, d, rfl, J', nb, up, sky, na, os, ag, b, hb1, hyes, hno⟩ := xx
    have J : Inv X pins σ' H' sI := J'.ofTry ok
    have sky' : Sky B (X.env :: X.outer) a (Zc cls d) X.env.locals s'.heap := by rw [← hs]; exact sky
    show wpAny (model X.prog X.w) X.A (noteFrame (.ref a) X.env) _ _ _
    refine Sky.land Zc.steady hfr hf sky' fun h3 fl3 up3 => ?_
    have J3 : Inv X pins σ' H' { s' with heap := h3 } := J.landed nb fl3.1 (up.trans up3) os ag
    obtain ⟨oe3, vs3, he3, hz3, hd3⟩ := fl3.there
    have notFr : ∀ {h : Heap} {o : Obj} {vs : Array Value}, h.FunFrames B (X.env :: X.outer) → h.get? a = some o → o.data = .fields vs → a ∉ frs (X.env :: X.outer) := fun {h o vs} ff e dd hm => by
      obtain ⟨_, o', e', hnf⟩ := ff.mem hm
      rw [e] at e'; cases e'
      exact hnf _ dd
    have nfr := notFr fl3.2.2.1 he3 hd3
    have nL : a ≠ X.env.locals := fun z => nfr (List.mem_filterMap.mpr ⟨X.env, List.mem_cons_self, by rw [hf, z]⟩)
    have nF : a ∉ X.fs := fun hm => by
      obtain ⟨e, he, q⟩ := List.mem_filterMap.mp hm
      exact nfr (List.mem_filterMap.mpr ⟨e, List.mem_cons_of_mem _ he, q⟩)
    have S3 := J3.suite he3 hd3 na nL nF
    refine wpAny_handleBy_cons (codeAny_handlers_test ?_) (by intro q; cases q)
    have LT : PySem.W.Looks (model X.prog X.w) h3 (typeOf (.ref a)) cls := fun A Q E s k q => wpAny_typeOf_ref (k _ _ he3) (by rw [hz3.1]; exact q)
    have test : ∀ {x : Str} {np : Pos} {c : Value} (hc : Names X x c) {Q : Value → Shared → Prop} {E : Value → Shared → Prop}, Q c { s' with heap := h3 } → wpAny (model X.prog X.w) (X.A.mark (some (.ref a))) (eval (.Name x np) X.env) Q E { s' with heap := h3 } := fun {x np c} hc {Q E} q => by
      obtain ⟨hg, hdbg, hm | ⟨hm, hv, hnn⟩⟩ := hc
      · exact ld_glob (X := X.suite a ((a, oe3) :: (X.pn ++ pins))) S3 hg hm q hdbg
      · exact ld_blt (X := X.suite a ((a, oe3) :: (X.pn ++ pins))) S3 hg hm hv q hnn hdbg
    have kp : ∀ q o, h3.get? q = some o → (h3.push { cls := .type "tuple", data := .seq [c1, c2, c3].toArray }).get? q = some o := fun _ _ z => Heap.get?_push_of_some _ z
    refine wpAny_Tuple (wpAny_items_cons (test hc1 (wpAny_items_cons (test hc2 (wpAny_items_cons (test hc3 (wpAny_items_nil ⟨by size_fits, ?_⟩)))))))
    have fl3 := fly_ext kp fl3
    have up3 := up_ext up3 kp
    refine (PySem.W.exm_tup3 (M := model X.prog X.w) (J3.kIn.keeps kp) (LT.keeps kp) (Heap.get?_push_size h3 rfl) hb1).here ?_
    cases b with
    | true =>
      refine codeAny_handlers_suite ?_
      refine HandSPX.lands_againZ fl3 fun h4 fl4 up4 => ?_
      have J4 : Inv X pins σ' H' { s' with heap := h4 } := J.landed nb fl4.1 ((up.trans up3).trans up4) os ag
      obtain ⟨oe4, vs4, he4, hz4, hd4⟩ := fl4.there
      have S4 := J4.suite he4 hd4 na nL nF
      refine wpAny_mono ((hsu a oe4 cls d (X.pn ++ pins) hz4 ⟨_, hd4⟩).run [] _ _ H' _ S4 (hyes rfl a na)) (fun f s6 hsp => ?_) (fun _ _ z => False.elim z)
      cases f with
      | next =>
        obtain ⟨σ6, H6, S6, q6⟩ := hsp
        exact ⟨_, _, S6.unsuite ok, q6⟩
      | brk =>
        obtain ⟨σ6, H6, S6, q6⟩ := hsp
        exact ⟨_, _, S6.unsuite ok, q6⟩
      | cont =>
        obtain ⟨σ6, H6, S6, q6⟩ := hsp
        exact ⟨_, _, S6.unsuite ok, q6⟩
      | ret u =>
        obtain ⟨v6, σ6, H6, S6, r6, q6⟩ := hsp
        exact ⟨_, _, _, S6.unsuite ok, r6, q6⟩
    | false =>
      show wpAny _ X.A (handleBy (.ref a) X.env []) _ _ _
      refine wpAny_handleBy_nil ?_
      obtain ⟨k1, k2, k3, oe, vs, T, oT, ts', he, hz, hd, h1, hr⟩ := id fl3
      unfold PySem.passOn
      refine wpAny_bind (wpAny_field he hd h1 ?_)
      rw [if_neg (show ¬ ((Value.ref T == Value.none) = true) from by simp)]
      have fin : wpAny (model X.prog X.w) X.A (setFlight (.ref a) X.env.frame) (fun _ s4 => wpAny (model X.prog X.w) X.A (throw (.ref a) : Sem Flow) (SP X pins D) X.xe s4) X.xe { s' with heap := h3.push { cls := .type "tuple", data := .seq [c1, c2, c3].toArray } } := by
        rw [hf]
        refine HandSPX.setFlight_upZ fl3 fun h4 hh4 up4 => wpAny_throw (tk _ _ ?_)
        exact ⟨a, B, sI, pins, σ', H', cls, d, rfl, J, nb, (up.trans up3).trans up4, .inr (.inr (by rw [hs]; exact hh4)), na, os, ag, hno rfl⟩
      first
        | exact wpAny_bind (wpAny_pure (wpAny_bind fin))
        | exact wpAny_bind fin
  · cases f with
    | next =>
      obtain ⟨σ', H', J', q⟩ := hsp
      exact wpAny_execs_nil ⟨σ', H', J'.ofTry ok, q⟩
    | brk =>
      obtain ⟨σ', H', J', q⟩ := hsp
      exact ⟨σ', H', J'.ofTry ok, q⟩
    | cont =>
      obtain ⟨σ', H', J', q⟩ := hsp
      exact ⟨σ', H', J'.ofTry ok, q⟩
    | ret u =>
      obtain ⟨v, σ', H', J', r, q⟩ := hsp
      exact ⟨v, σ', H', J'.ofTry ok, r, q⟩
end
end Rw
namespace Rw
open PySem PySem.Spec PyProof.Rows L2
def isLc : Expr → Bool
  | .ListComp _ _ _ _ => true
  | .SetComp _ _ _ _ => true
  | .DictComp _ _ _ _ _ => true
  | _ => false
def augOk : Operator → Bool
  | .Add => true
  | .Sub => true
  | _ => false
def isTup : Expr → Bool
  | .Tuple _ _ _ => true
  | _ => false
def tryP : Stmt → Option (List Stmt × Str × Option Str × Stmt × List Stmt)
  | .Try bd [.ExceptHandler (some (.Name y _)) n (s0 :: ss) _] [] [] _ => some (bd, y, n, s0, ss)
  | _ => none
theorem tryP_ok {st : Stmt} {bd : List Stmt} {y : Str} {n : Option Str} {s0 : Stmt} {ss : List Stmt} (h : tryP st = some (bd, y, n, s0, ss)) : ∃ np p1 p2, st = .Try bd [.ExceptHandler (some (.Name y np)) n (s0 :: ss) p1] [] [] p2 := by
  unfold tryP at h
  split at h
  · cases h
    exact ⟨_, _, _, rfl⟩
  · cases h
def tryP3 : Stmt → Option (List Stmt × Str × Str × Str × Stmt × List Stmt)
  | .Try bd [.ExceptHandler (some (.Tuple [.Name y1 _, .Name y2 _, .Name y3 _] _ _)) none (s0 :: ss) _] [] [] _ => some (bd, y1, y2, y3, s0, ss)
  | _ => none
theorem tryP3_ok {st : Stmt} {bd : List Stmt} {y1 y2 y3 : Str} {s0 : Stmt} {ss : List Stmt} (h : tryP3 st = some (bd, y1, y2, y3, s0, ss)) : ∃ q1 q2 q3 kk tp p1 p2, st = .Try bd [.ExceptHandler (some (.Tuple [.Name y1 q1, .Name y2 q2, .Name y3 q3] kk tp)) none (s0 :: ss) p1] [] [] p2 := by
  unfold tryP3 at h
  split at h
  · cases h
    exact ⟨_, _, _, _, _, _, _, rfl⟩
  · cases h
def nmB (C : Ck) (y : Str) (d : Nat) : Bool := glB C.sc y && (okN y && (decide (y = C.nm.exN d) && (C.tab.exc d).isSome))
def slP : Stmt → Option (Expr × Expr × Expr × Expr)
  | .Assign [.Subscript o (.Slice (some l) (some h) none _) _] v _ => some (o, l, h, v)
  | _ => none
theorem slP_ok {st : Stmt} {o l h v : Expr} (e : slP st = some (o, l, h, v)) : ∃ p1 p2 p3, st = .Assign [.Subscript o (.Slice (some l) (some h) none p1) p2] v p3 := by
  unfold slP at e
  split at e
  · cases e
    exact ⟨_, _, _, rfl⟩
  · cases e
theorem pg_slc {X : Cx} {o l h : Expr} {p1 p2 : Pos} {to tl th : TE} (ho : PE X o to) (hl : PE X l tl) (hh : PE X h th) : PG X (.Subscript o (.Slice (some l) (some h) none p1) p2) (fun v σ H Q => to σ H fun x H1 => tl σ H1 fun y H2 => th σ H2 fun z H3 =>
    ∃ a b xs ys i j, x = .ref a ∧ v = .ref b ∧ y = .int i ∧ z = .int j ∧ H3 a = some (.lst xs) ∧ H3 b = some (.lst ys) ∧ a ≠ b ∧ 0 ≤ i ∧ i ≤ j ∧ j ≤ (xs.length : Int) ∧ xs.length + ys.length ≤ sizeLine ∧ Q σ (upd H3 a (.lst (xs.take i.toNat ++ ys ++ xs.drop j.toNat)))) := by
  refine ⟨fun pins s σ H v u Q I r hq => ?_⟩
  rw [assign_Subscript]
  refine wpAny_bind (wpAny_holding (thn (ho.run pins s σ H _ I hq) fun ov s1 ⟨x, H1, I1, r1, q1⟩ => ?_))
  refine wpAny_bind (wpAny_holding (wpAny_Slice ?_))
  rw [evalPart_some]
  refine thn (hl.run pins s1 σ H1 _ I1 q1) fun vl s2 ⟨y, H2, I2, r2, q2⟩ => ?_
  rw [evalPart_some]
  refine thn (hh.run pins s2 σ H2 _ I2 q2) fun vh s3 ⟨z, H3, I3, r3, q3⟩ => ?_
  rw [evalPart_none]
  refine wpAny_pure ?_
  have I4 : Inv X pins σ H3 { s3 with heap := s3.heap.push { cls := .type "slice", data := .fields #[vl, vh, .none] } } := I3.kept (t' := s3.toks) fun b ob q => Heap.get?_push_of_some _ q
  obtain ⟨a, b, xs, ys, i, j, rfl, rfl, rfl, rfl, hA, hB, hne, h0, hij, hj, hz, q⟩ := q3
  cases (show ov = Value.ref a from r1)
  cases (show u = Value.ref b from r)
  refine wpAny_bind (wpAny_standAt (wpAny_bind (wpAny_holding (set_slice (Q := fun _ s5 => wpAny (model X.prog X.w) X.A (release [.ref s3.heap.objs.size, .ref b, .ref a] []) (fun _ s' => ∃ σ' H', Inv X pins σ' H' s' ∧ Q σ' H') X.xe s5) I4 hA hB hne (Heap.IsSliceOf.new ..) r2 r3 h0 hij hj hz fun s5 I5 => ?_))))
  exact wpAny_release ⟨σ, _, I5, q⟩
def tfP : Stmt → Option (List Expr × Expr)
  | .Assign [.Tuple xs _ _] v _ => some (xs, v)
  | _ => none
theorem tfP_ok {st : Stmt} {xs : List Expr} {v : Expr} (h : tfP st = some (xs, v)) : ∃ k p1 p2, st = .Assign [.Tuple xs k p1] v p2 := by
  unfold tfP at h
  split at h
  · cases h
    exact ⟨_, _, _, rfl⟩
  · cases h
def chkAt (C : Ck) : List Nat → List Nat → List Expr → Bool
  | [], [], [] => true
  | i :: is, f :: fs, .Attribute x n _ :: xs => chkE C (.var i) x && (decide (n = C.nm.atN f) && chkAt C is fs xs)
  | _, _, _ => false
abbrev Ck.su (C : Ck) (h : Option Nat) : Ck := { C with calm := false, hs := h }
mutual
def chkS (C : Ck) : IS → Stmt → Bool
  | .pass, .Pass _ => true
  | .expr e, .Expr x _ => chkE C e x && !isLc x
  | .set i e, .Assign [.Name x _] v _ => decide (C.N[i]? = some x) && (C.can x && (chkE C e v && (!isLc v || decide (C.sc.kind = .function))))
  | .setF o f e, .Assign [.Attribute x n _] v _ => chkE C o x && (decide (n = C.nm.atN f) && chkE C e v)
  | .setS o i e, .Assign [.Subscript x y _] v _ => chkE C o x && (chkE C i y && (!isSlc y && chkE C e v))
  | .augF o f op e, .AugAssign (.Attribute x n _) o2 v _ => chkE C o x && (decide (n = C.nm.atN f) && (decide (op = o2) && (augOk o2 && chkE C e v)))
  | .augS o i op e, .AugAssign (.Subscript x y _) o2 v _ => chkE C o x && (chkE C i y && (!isSlc y && (decide (op = o2) && (augOk o2 && chkE C e v))))
  | .setTF is fs e, st => match tfP st with
    | some (xs, v) => chkAt C is fs xs && (chkE C e v && (!isLc v && (!isTup v && C.calm)))
    | none => false
  | .never, _ => true
  | .setT is e, .Assign [t] v _ => chkT C true is t && (chkE C e v && (!isLc v && !isTup v))
  | .setM is es, .Assign [.Tuple ts _ _] (.Tuple vs _ _) _ => decide (4 ≤ vs.length) && (chkTg C is ts && (C.calm && (chkEs C es vs && (noStar vs && decide (is.length ≤ 1000)))))
  | .aug i op e, .AugAssign (.Name x _) o v _ => decide (C.N[i]? = some x) && (C.can x && (chkE C e v && (decide (op = o) && (augOk o && decide (C.hs ≠ some i)))))
  | .ife t a b, .If c x y _ => chkC C t c && (chkSs C a x && chkSs C b y)
  | .for_ k src many tg body, .For t it b [] _ => chkIt C t k src it && (chkT C many tg t && (chkSs C body b && C.calm))
  | .while_ _ t body, .While c b [] _ => chkC C t c && chkSs C body b
  | .ret e, .Return (some x) _ => chkE C e x
  | .retN, .Return none _ => true
  | .raise c _, .Raise (some (.Call (.Name x _) [.Constant (.str _) _ _] [] _)) none _ => glB C.sc x && (okN x && (decide (x = C.nm.exN c) && C.calm))
  | .raiseA c e, .Raise (some (.Call (.Name x _) [y] [] _)) none _ => glB C.sc x && (okN x && (decide (x = C.nm.exN c) && (C.calm && (chkE C e y && (!isStar y && (C.tab.exa c).isSome)))))
  | .setL o lo hi e, st => match slP st with
    | some (x, l, h, v) => chkE C o x && (chkE C lo l && (chkE C hi h && (chkE C e v && !isLc v)))
    | none => false
  | .try_ b cs nm su, st => match tryP st with
    | some (bd, y, n, s0, ss) => C.top && (decide (C.hs = none) && (chkSs C b bd && (glB C.sc y && (okN y && (match cs with
      | [d] => decide (y = C.nm.exN d) && ((C.tab.exc d).isSome && (match nm, n with
        | none, none => chkSs (C.su none) su (s0 :: ss)
        | some i, some z => decide (C.N[i]? = some z) && (decide (C.sc.names.lookup z = some .local) && chkSs (C.su (some i)) su (s0 :: ss))
        | _, _ => false))
      | _ => false)))))
    | none => false
  | .try3 b d1 d2 d3 su, st => match tryP3 st with
    | some (bd, y1, y2, y3, s0, ss) => C.top && (decide (C.hs = none) && (chkSs C b bd && (nmB C y1 d1 && (nmB C y2 d2 && (nmB C y3 d3 && chkSs (C.su none) su (s0 :: ss))))))
    | none => false
  | .cont, .Continue _ => true
  | .brk, .Break _ => true
  | _, _ => false
def chkSs (C : Ck) : ISs → List Stmt → Bool
  | .nil, [] => true
  | .cons s ss, x :: xs => chkS C s x && chkSs C ss xs
  | _, _ => false
end
section
variable {G : Gd} {C : Ck} {X : Cx} {Wx : WX} {k : Nat} {call : Call} {W : Wd} {S : Store} {H : Hp} {σ : L2.St} {env : Env}
abbrev tS (G : Gd) (Wx : WX) (call : Call) (s : IS) : TS := DenS G Wx (dS G.tab call s)
abbrev tSs (G : Gd) (Wx : WX) (call : Call) (ss : ISs) : TS := DenS G Wx (dSs G.tab call ss)
theorem lc_no {v : Expr} {t : Option Expr} {l : Nat} {env : PySem.Env} (h : isLc v = false) : swapsWith v t l env = pure false := by
  cases v <;> first | rfl | cases h
theorem turn_of {w : Wk} {many : Bool} {tg : List Nat} {body : ISs} {v : Val} {vs : List Val} {x : V} {D : Ends} {P : L2.St → Hp → Prop} (h : PostS G Wx W (forL w many tg (fun env S => dSs G.tab call body env S) (v :: vs) env S) D) (hw : okW w S) (s : Sim G W S H) (er : EnvRep G W σ env) (r : RepV G W x v)
    (hP : ∀ (W' : Wd) (env' : Env) (S' : Store) (σ' : L2.St) (H' : Hp), W.le W' → Sim G W' S' H' → EnvRep G W' σ' env' → PostS G Wx W' (forL w many tg (fun env S => dSs G.tab call body env S) vs env' S') D → P σ' H') :
    tTg G many tg x σ H fun σ2 H2 => tSs G Wx call body { D with nx := P, ct := P, bk := D.nx } σ2 H2 := by
  rw [forL_cons hw] at h
  cases e : target many tg v env S with
  | none => rw [e] at h; exact (show False from h).elim
  | some env1 =>
    rw [e] at h
    refine ⟨W, S, env, env1, v, s, er, r, e, fun σ2 er2 _ => ⟨W, env1, S, s, er2, ?_⟩⟩
    have h : PostS G Wx W (match dSs G.tab call body env1 S with
      | .nx env2 S2 => forL w many tg (fun env S => dSs G.tab call body env S) vs env2 S2
      | .ct env2 S2 => forL w many tg (fun env S => dSs G.tab call body env S) vs env2 S2
      | .bk env2 S2 => .nx env2 S2
      | m => m) D := h
    cases q : dSs G.tab call body env1 S with
    | nx env2 S2 =>
      rw [q] at h
      exact fun W' σ' H' l s' e' => hP W' env2 S2 σ' H' l s' e' (PostS.mono h l)
    | ct env2 S2 =>
      rw [q] at h
      exact fun W' σ' H' l s' e' => hP W' env2 S2 σ' H' l s' e' (PostS.mono h l)
    | bk env2 S2 =>
      rw [q] at h
      exact h
    | rt v S2 =>
      rw [q] at h
      exact h
    | ex x env2 S2 =>
      rw [q] at h
      exact h
    | bad =>
      rw [q] at h
      exact h
def Left (G : Gd) (Wx : WX) (call : Call) (W0 : Wd) (many : Bool) (tg : List Nat) (body : ISs) (its : List Val × Wk) (D : Ends) (i : Nat) : L2.St → Hp → Prop := fun σ H =>
  ∃ (W : Wd) (env : Env) (S : Store), W0.le W ∧ Sim G W S H ∧ EnvRep G W σ env ∧ PostS G Wx W (forL its.2 many tg (fun env S => dSs G.tab call body env S) (its.1.drop i) env S) D
theorem left_turn {W0 : Wd} {many : Bool} {tg : List Nat} {body : ISs} {its : List Val × Wk} {D : Ends} {J : It} {i : Nat} {x : V} {H' : Hp} (wl : Wlk G W0 J its) (hi : i < its.1.length) (h : Left G Wx call W0 many tg body its D i σ H) (y : J.yld i H x H') :
    tTg G many tg x σ H' fun σ2 H2 => tSs G Wx call body { D with nx := Left G Wx call W0 many tg body its D (i + 1), ct := Left G Wx call W0 many tg body its D (i + 1), bk := D.nx } σ2 H2 := by
  obtain ⟨W, env, S, l, s, er, q⟩ := h
  have hw : okW its.2 S := Classical.byContradiction fun hw => by
    rw [forL_bad hw] at q
    exact (show False from q).elim
  obtain ⟨W2, v, l2, s2, hv, r2⟩ := wl.yld W S H i x H' hi l.sub s hw y
  have ev : its.1[i] = v := (List.getElem?_eq_some_iff.mp hv).2
  rw [List.drop_eq_getElem_cons hi, ev] at q
  exact turn_of (PostS.mono q l2) hw s2 (er.mono l2) r2 fun W' env' S' σ' H' l' s' e' q' => ⟨W', env', S', (l.trans l2).trans l', s', e', q'⟩
theorem left_end {W0 : Wd} {many : Bool} {tg : List Nat} {body : ISs} {its : List Val × Wk} {D : Ends} {i : Nat} (hi : its.1.length ≤ i) (h : Left G Wx call W0 many tg body its D i σ H) : D.nx σ H := by
  obtain ⟨W, env, S, l, s, er, q⟩ := h
  have hw : okW its.2 S := Classical.byContradiction fun hw => by
    rw [forL_bad hw] at q
    exact (show False from q).elim
  rw [List.drop_of_length_le hi, forL_nil hw] at q
  exact q W σ H (.refl W) s er
theorem left_ok {W0 : Wd} {many : Bool} {tg : List Nat} {body : ISs} {its : List Val × Wk} {D : Ends} {i : Nat} (h : Left G Wx call W0 many tg body its D i σ H) : ∃ W' S', W0.sub W' ∧ Sim G W' S' H ∧ okW its.2 S' := by
  obtain ⟨W, env, S, l, s, er, q⟩ := h
  refine ⟨W, S, l.sub, s, Classical.byContradiction fun hw => ?_⟩
  rw [forL_bad hw] at q
  exact (show False from q).elim
theorem st_assoc {α β : Type} (m : R α) (f : α → Store → R β) (env : Env) (k : β → Store → RS) : (m.st env fun a S => (f a S).st env k) = (m.bind f).st env k := by
  cases m <;> rfl
theorem for_src (ok : XOk G C X Wx k call) (hc : X.calm = true) {kk : ItK} {src : IEs} {many : Bool} {tg : List Nat} {body : ISs} {t it : Expr} {b : List Stmt} {pos : Pos} (h : chkIt C t kk src it = true) (hg : PG X t (tTg G many tg)) (hb : PSs X b (tSs G Wx call body)) :
    PS X (.For t it b [] pos) (tS G Wx call (.for_ kk src many tg body)) := by
  refine PS.imp (ps_for ok.pas hc (sIt ok kk src it t h) hg hb (it_noset h X.env)) fun D σ H ⟨W, env, S, sm, er, q⟩ => ?_
  have q : PostS G Wx W ((dEs G.tab call src env S).st env fun vs S => (items kk vs S).st env fun its S => forL its.2 many tg (fun env S => dSs G.tab call body env S) its.1 env S) D := q
  rw [st_assoc] at q
  refine Den.stepS (f := fun env S => (dEs G.tab call src env S).bind fun vs S => items kk vs S) q sm er fun its S1 W1 J H1 e1 l1 s1 n1 wl p1 => ?_
  exact L2.for_it (G := fun H' => ∃ W' S', W1.sub W' ∧ Sim G W' S' H' ∧ okW its.2 S') (Y := fun i H' x H2 => J.yld i H' x H2) ⟨fun i H' hi ⟨W', S', l, s, w⟩ => wl.go W' S' H' i hi l s w, fun H' ⟨W', S', l, s, w⟩ => wl.stop W' S' H' l s w, fun i H' x H2 hi _ y => y⟩
    (fun i => Left G Wx call W1 many tg body its D i) ⟨W1, env, S1, .refl W1, s1, n1, p1⟩ (fun i σ' H' hi t => left_ok t) (fun i x σ' H' H2 hi t y => left_turn wl hi t y) fun σ' H' t => left_end (Nat.le_refl _) t
theorem ip_any (op : Operator) : PIp X op (fun x y H Q => ∃ r : TIp, PIp X op r ∧ r x y H Q) := fun pins s σ H x y v u Q I rx ry ⟨_, h, q⟩ => h pins s σ H x y v u Q I rx ry q
theorem ip_str : PIp X .Add (fun x y H Q => ∃ i j, x = .str i ∧ y = .str j ∧ i.length + j.length ≤ sizeLine ∧ Q (.str (i ++ j)) H) := iop_add_str
theorem aug_any {op : Operator} {x y : V} {a b : Val} {Q : VK} (hop : augOk op = true) (h : PostV G Wx σ W (binA op a b S) Q) (s : Sim G W S H) (rx : RepV G W x a) (ry : RepV G W y b) : ∃ r : TIp, PIp X op r ∧ r x y H Q := by
  cases a with
  | r n => exact (show False from h).elim
  | t a =>
    cases b with
    | r n =>
      have h' : PostV G Wx σ W .bad Q := h
      exact (show False from h').elim
    | t b =>
      have rx : Rep G W.F x a := rx
      have ry : Rep G W.F y b := ry
      have h : PostV G Wx σ W (ofT (binT op a b) S) Q := h
      have no : binT op a b = none → False := fun z => by rw [z] at h; exact h
      cases a with
      | int i =>
        cases b with
        | int j =>
          cases rx
          cases ry
          cases op with
          | Add => exact ⟨_, ip_add, i, j, rfl, rfl, post_t h s (.int _)⟩
          | Sub => exact ⟨_, ip_sub, i, j, rfl, rfl, post_t h s (.int _)⟩
          | _ => cases hop
        | _ => exact (no rfl).elim
      | str u =>
        cases b with
        | str v =>
          cases rx
          cases ry
          have h2 : PostV G Wx σ W (ofT (if op = .Add ∧ u.length + v.length ≤ szLine then some (.str (u ++ v)) else none) S) Q := h
          by_cases c : op = .Add ∧ u.length + v.length ≤ szLine
          · rw [if_pos c] at h2
            obtain ⟨c1, c2⟩ := c
            subst c1
            exact ⟨_, ip_str, u, v, rfl, rfl, c2, post_t h2 s (.str _)⟩
          · rw [if_neg c] at h2
            exact (show False from h2).elim
        | int j =>
          cases op with
          | Add => exact (no rfl).elim
          | Sub => exact (no rfl).elim
          | _ => cases hop
        | _ => exact (no rfl).elim
      | _ => exact (no rfl).elim
theorem while_den {t : IC} {body : ISs} {D : Ends} : ∀ (n : Nat) {σ : L2.St} {H : Hp}, DenS G Wx (fun env S => whileL (fun env S => dB G.tab call t env S) (fun env S => dSs G.tab call body env S) n env S) D σ H →
    tB G Wx call t σ H fun b H1 => if b = true then ∃ N : L2.St → Hp → Prop, (∀ σ' H', N σ' H' → ∃ m, m < n ∧ DenS G Wx (fun env S => whileL (fun env S => dB G.tab call t env S) (fun env S => dSs G.tab call body env S) m env S) D σ' H') ∧
      tSs G Wx call body { D with nx := N, ct := N, bk := D.nx } σ H1 else D.nx σ H1
  | 0, σ, H, ⟨W, env, S, sm, er, q⟩ => (show False from q).elim
  | n + 1, σ, H, ⟨W, env, S, sm, er, q⟩ => by
    have q : PostS G Wx W ((dB G.tab call t env S).st env fun k S => if k then (match dSs G.tab call body env S with
      | .nx env2 S2 => whileL (fun env S => dB G.tab call t env S) (fun env S => dSs G.tab call body env S) n env2 S2
      | .ct env2 S2 => whileL (fun env S => dB G.tab call t env S) (fun env S => dSs G.tab call body env S) n env2 S2
      | .bk env2 S2 => .nx env2 S2
      | m => m) else .nx env S) D := q
    refine Den.stepS q sm er fun v S1 W1 b H1 e1 l1 s1 n1 r1 p1 => ?_
    have r1 : b = v := r1
    subst r1
    cases b with
    | false =>
      exact iteF (p1 W1 σ H1 (.refl W1) s1 n1)
    | true =>
      refine iteT ⟨DenS G Wx (fun env S => whileL (fun env S => dB G.tab call t env S) (fun env S => dSs G.tab call body env S) n env S) D, fun σ' H' h => ⟨n, Nat.lt_succ_self n, h⟩, W1, env, S1, s1, n1, ?_⟩
      have p1 : PostS G Wx W1 (match dSs G.tab call body env S1 with
        | .nx env2 S2 => whileL (fun env S => dB G.tab call t env S) (fun env S => dSs G.tab call body env S) n env2 S2
        | .ct env2 S2 => whileL (fun env S => dB G.tab call t env S) (fun env S => dSs G.tab call body env S) n env2 S2
        | .bk env2 S2 => .nx env2 S2
        | m => m) D := p1
      cases q : dSs G.tab call body env S1 with
      | nx env2 S2 =>
        rw [q] at p1
        exact fun W' σ' H' l s' e' => ⟨W', env2, S2, s', e', PostS.mono p1 l⟩
      | ct env2 S2 =>
        rw [q] at p1
        exact fun W' σ' H' l s' e' => ⟨W', env2, S2, s', e', PostS.mono p1 l⟩
      | bk env2 S2 =>
        rw [q] at p1
        exact p1
      | rt v S2 =>
        rw [q] at p1
        exact p1
      | ex x env2 S2 =>
        rw [q] at p1
        exact p1
      | bad =>
        rw [q] at p1
        exact p1
theorem seq_st {m : RS} {f : Env → Store → RS} {D : Ends} (h : PostS G Wx W (m.seq f) D) : PostS G Wx W m { D with nx := DenS G Wx f D } := by
  cases m with
  | nx env S => exact fun W' σ H l s e => ⟨W', env, S, s, e, PostS.mono (show PostS G Wx W (f env S) D from h) l⟩
  | rt v S => exact h
  | bk env S => exact h
  | ct env S => exact h
  | ex x env S => exact h
  | bad => exact h
theorem chkT_tup {tg : List Nat} {e : Expr} (h : chkT C true tg e = true) : ∃ es kk p, e = .Tuple es kk p := by
  cases e with
  | Tuple es kk p => exact ⟨es, kk, p, rfl⟩
  | _ => cases tg <;> cases h
theorem Sim.newH {d : Addr} {o : HO} (s : Sim G W S H) (hd : H d = none) : Sim G W S (upd H d o) := by
  have ne : ∀ {a : Addr} {u : HO}, H a = some u → a ≠ d := fun {a u} e z => by
    rw [z, hd] at e
    cases e
  exact ⟨fun a u e => by rw [upd_ne (ne (s.fz a u e))]; exact s.fz a u e, s.len, fun k c e dd => by
    obtain ⟨h1, h2, u, h3, h4⟩ := s.live k c e dd
    exact ⟨h1, h2, u, by rw [upd_ne (ne h3)]; exact h3, h4⟩, s.inj, fun a u e => by rw [upd_ne (ne (s.fr a u e))]; exact s.fr a u e⟩
theorem iv_raiseA {C : Ck} {c : Nat} {e : IE} {st : Stmt} (h : chkS C (.raiseA c e) st = true) : ∃ x p y q p3, st = .Raise (some (.Call (.Name x p) [y] [] q)) none p3 ∧ glB C.sc x = true ∧ okN x = true ∧ x = C.nm.exN c ∧ C.calm = true ∧ chkE C e y = true ∧ isStar y = false ∧ (C.tab.exa c).isSome = true := by
  cases st with
  | Raise e f p3 =>
    cases e with
    | none => cases h
    | some e =>
      cases e with
      | Call g as kw q =>
        cases g with
        | Name x p =>
          cases as with
          | nil => cases h
          | cons y as =>
            cases as with
            | cons _ _ => cases kw <;> (cases f <;> cases h)
            | nil =>
              cases kw with
              | cons _ _ => cases h
              | nil =>
                cases f with
                | some _ => cases h
                | none =>
                  obtain ⟨h1, h⟩ := ba h
                  obtain ⟨h2, h⟩ := ba h
                  obtain ⟨h3, h⟩ := ba h
                  obtain ⟨h4, h⟩ := ba h
                  obtain ⟨h5, h⟩ := ba h
                  obtain ⟨h6, h7⟩ := ba h
                  exact ⟨_, _, _, _, _, rfl, h1, h2, of_decide_eq_true h3, h4, h5, nb h6, h7⟩
        | _ => cases h
      | _ => cases h
  | _ => cases h
theorem iv_raise {C : Ck} {c : Nat} {es : IEs} {st : Stmt} (h : chkS C (.raise c es) st = true) : ∃ x p m j p2 q p3, st = .Raise (some (.Call (.Name x p) [.Constant (.str m) j p2] [] q)) none p3 ∧ glB C.sc x = true ∧ okN x = true ∧ x = C.nm.exN c ∧ C.calm = true := by
  cases st with
  | Raise e f p3 =>
    cases e with
    | none => cases h
    | some e =>
      cases e with
      | Call g as kw q =>
        cases g with
        | Name x p =>
          cases as with
          | nil => cases h
          | cons a as =>
            cases as with
            | cons _ _ =>
              cases a with
              | Constant k j p2 => cases k <;> (cases kw <;> (cases f <;> cases h))
              | _ => cases h
            | nil =>
              cases a with
              | Constant k j p2 =>
                cases k with
                | str m =>
                  cases kw with
                  | cons _ _ => cases h
                  | nil =>
                    cases f with
                    | some _ => cases h
                    | none =>
                      obtain ⟨h1, h⟩ := ba h
                      obtain ⟨h2, h⟩ := ba h
                      obtain ⟨h3, h4⟩ := ba h
                      exact ⟨x, p, m, j, p2, q, p3, rfl, h1, h2, of_decide_eq_true h3, h4⟩
                | _ => cases h
              | _ => cases h
        | _ => cases h
      | _ => cases h
  | _ => cases h
theorem sw_attr {v o : Expr} {f : Str} {p : Pos} {l : Nat} {env : PySem.Env} : swapsWith v (some (.Attribute o f p)) l env = pure false := by
  cases v <;> rfl
theorem sw_sub {v o i : Expr} {p : Pos} {l : Nat} {env : PySem.Env} : swapsWith v (some (.Subscript o i p)) l env = pure false := by
  cases v <;> rfl
theorem sw_name {elt : Expr} {gs : List Comprehension} {scope : Scope} {pos py : Pos} {y : Str} {l : Nat} {env : PySem.Env} : swapsWith (.ListComp elt gs scope pos) (some (.Name y py)) l env =
    pure (env.blockKind == .function && env.kindOf y == some .local && py.line == pos.line && !(scope.names.any fun (n, k) => n == y && (k == .local || k == .cell))) := rfl
def isCall : Expr → Bool
  | .Call _ _ _ _ => true
  | _ => false
theorem no_isi {C : Ck} {a : IE} {many : Bool} {ts : List Ty} {v : Expr} (hv : isCall v = false) (h : chkE C (.isi a many ts) v = true) : False := by
  rcases iv_isi h with ⟨t, p, y, z, q, r, _, _, rfl, _⟩ | ⟨p, y, zs, kk, z, q, _, rfl, _⟩
  · cases hv
  · cases hv
theorem set_lc (ok : XOk G C X Wx k call) {i : Nat} {x : Str} {px p : Pos} {e : IE} {v : Expr} (h1 : X.N[i]? = some x) (c1 : Loc X.env.scope x) (c2 : X.fn x = true ∨ X.env.scope.names.lookup x = some .local) (hk : X.env.scope.kind = .function) (h : chkE C e v = true) :
    PS X (.Assign [.Name x px] v p) (tAsg (tE G Wx call e) (gName i)) := by
  cases v with
  | ListComp elt gs scope pos =>
    cases hb : (X.env.blockKind == .function && X.env.kindOf x == some .local && px.line == pos.line && !(scope.names.any fun (n, k) => n == x && (k == .local || k == .cell))) with
    | false => exact ps_set (i := i) ok.nd h1 c1 (sE ok e _ h) (by rw [sw_name, hb]) c2
    | true =>
      have hy : X.env.scope.names.lookup x = some .local := by
        simp only [Bool.and_eq_true, beq_iff_eq] at hb
        exact hb.1.1.2
      cases e with
      | comp m kk src many tg ifs ielt =>
        obtain ⟨y, t, it, xs, sc2, p2, e1, h1', h2, h3, h4, h5, h6⟩ := iv_comp h
        cases e1
        have own : (ownOf C.N tg).map (·.2) = tg := by
          unfold ownOf
          rw [List.map_map]
          exact List.map_id tg
        have z := ps_setLc (i := i) (y := x) (py := px) (pos := pos) (spos := p) (ok.calm h6) ok.nd h1 hy (by rw [sw_name, hb]) (sIt ok kk src it t h1') (blkOk_by (by rw [ok.N, ok.sc]; exact h2)) (fun s H c cl fp => sTg (ok.blk h6 s H c cl fp scope) h3) (fun s H c cl fp => sIfs (ok.blk h6 s H c cl fp scope) ifs xs h4) (fun s H c cl fp => sE (ok.blk h6 s H c cl fp scope) ielt elt h5) (it_noset h1' X.env)
        rw [own] at z
        exact PS.imp z fun D σ H d => lc_post d
      | isi a many ts => exact (no_isi rfl h).elim
      | _ => cases h
  | SetComp elt gs scope pos =>
    cases e with
    | isi a many ts => exact (no_isi rfl h).elim
    | _ => cases h
  | DictComp ke va gs scope pos =>
    cases e with
    | isi a many ts => exact (no_isi rfl h).elim
    | _ => cases h
  | _ => exact ps_set (i := i) ok.nd h1 c1 (sE ok e _ h) rfl c2
theorem Gd.hd_none {G : Gd} (h : G.hs = none) : G.hd none = G := by
  cases G
  cases h
  rfl
theorem iv_try3 {C : Ck} {b : ISs} {d1 d2 d3 : Nat} {su : ISs} {st : Stmt} (h : chkS C (.try3 b d1 d2 d3 su) st = true) : ∃ bd y1 y2 y3 s0 ss, tryP3 st = some (bd, y1, y2, y3, s0, ss) ∧ C.top = true ∧ C.hs = none ∧ chkSs C b bd = true ∧ nmB C y1 d1 = true ∧ nmB C y2 d2 = true ∧ nmB C y3 d3 = true ∧ chkSs (C.su none) su (s0 :: ss) = true := by
  have h : (match (generalizing := false) tryP3 st with
    | some (bd, y1, y2, y3, s0, ss) => C.top && (decide (C.hs = none) && (chkSs C b bd && (nmB C y1 d1 && (nmB C y2 d2 && (nmB C y3 d3 && chkSs (C.su none) su (s0 :: ss))))))
    | none => false) = true := by
    cases st <;> exact h
  cases q : tryP3 st with
  | none => rw [q] at h; cases h
  | some r =>
    obtain ⟨bd, y1, y2, y3, s0, ss⟩ := r
    rw [q] at h
    obtain ⟨h1, h⟩ := ba h
    obtain ⟨h2, h⟩ := ba h
    obtain ⟨h3, h⟩ := ba h
    obtain ⟨h4, h⟩ := ba h
    obtain ⟨h5, h⟩ := ba h
    obtain ⟨h6, h7⟩ := ba h
    exact ⟨bd, y1, y2, y3, s0, ss, rfl, h1, of_decide_eq_true h2, h3, h4, h5, h6, h7⟩
theorem iv_try {C : Ck} {b : ISs} {cs : List Nat} {nm : Option Nat} {su : ISs} {st : Stmt} (h : chkS C (.try_ b cs nm su) st = true) : ∃ bd y n s0 ss d, tryP st = some (bd, y, n, s0, ss) ∧ cs = [d] ∧ C.top = true ∧ C.hs = none ∧ chkSs C b bd = true ∧ glB C.sc y = true ∧ okN y = true ∧ y = C.nm.exN d ∧ (C.tab.exc d).isSome = true ∧
    ((nm = none ∧ n = none ∧ chkSs (C.su none) su (s0 :: ss) = true) ∨ ∃ i z, nm = some i ∧ n = some z ∧ C.N[i]? = some z ∧ C.sc.names.lookup z = some .local ∧ chkSs (C.su (some i)) su (s0 :: ss) = true) := by
  have h : (match (generalizing := false) tryP st with
    | some (bd, y, n, s0, ss) => C.top && (decide (C.hs = none) && (chkSs C b bd && (glB C.sc y && (okN y && (match (generalizing := false) cs with
      | [d] => decide (y = C.nm.exN d) && ((C.tab.exc d).isSome && (match (generalizing := false) nm, n with
        | none, none => chkSs (C.su none) su (s0 :: ss)
        | some i, some z => decide (C.N[i]? = some z) && (decide (C.sc.names.lookup z = some .local) && chkSs (C.su (some i)) su (s0 :: ss))
        | _, _ => false))
      | _ => false)))))
    | none => false) = true := by
    cases st <;> exact h
  cases q : tryP st with
  | none => rw [q] at h; cases h
  | some r =>
    obtain ⟨bd, y, n, s0, ss⟩ := r
    rw [q] at h
    obtain ⟨h1, h⟩ := ba h
    obtain ⟨h2, h⟩ := ba h
    obtain ⟨h3, h⟩ := ba h
    obtain ⟨h4, h⟩ := ba h
    obtain ⟨h5, h⟩ := ba h
    cases cs with
    | nil => cases h
    | cons d ds =>
      cases ds with
      | cons _ _ => cases h
      | nil =>
        obtain ⟨h6, h⟩ := ba h
        obtain ⟨h7, h⟩ := ba h
        refine ⟨bd, y, n, s0, ss, d, rfl, rfl, h1, of_decide_eq_true h2, h3, h4, h5, of_decide_eq_true h6, h7, ?_⟩
        cases nm with
        | none =>
          cases n with
          | none => exact .inl ⟨rfl, rfl, h⟩
          | some _ => cases h
        | some i =>
          cases n with
          | none => cases h
          | some z =>
            obtain ⟨h8, h⟩ := ba h
            obtain ⟨h9, h⟩ := ba h
            exact .inr ⟨i, z, rfl, rfl, of_decide_eq_true h8, of_decide_eq_true h9, h⟩
theorem iv_setL {C : Ck} {o lo hi e : IE} {st : Stmt} (h : chkS C (.setL o lo hi e) st = true) : ∃ x l hh v, slP st = some (x, l, hh, v) ∧ chkE C o x = true ∧ chkE C lo l = true ∧ chkE C hi hh = true ∧ chkE C e v = true ∧ isLc v = false := by
  have h : (match (generalizing := false) slP st with
    | some (x, l, h, v) => chkE C o x && (chkE C lo l && (chkE C hi h && (chkE C e v && !isLc v)))
    | none => false) = true := by
    cases st <;> exact h
  cases q : slP st with
  | none => rw [q] at h; cases h
  | some r =>
    obtain ⟨x, l, hh, v⟩ := r
    rw [q] at h
    obtain ⟨h1, h⟩ := ba h
    obtain ⟨h2, h⟩ := ba h
    obtain ⟨h3, h⟩ := ba h
    obtain ⟨h4, h5⟩ := ba h
    exact ⟨x, l, hh, v, rfl, h1, h2, h3, h4, nb h5⟩
theorem roomH_suite {k : Nat} {A : Around} {a : Addr} (r : L2H.RoomH k A) : L2H.RoomH k (A.mark (some (.ref a))) := ⟨r.dp, r.un⟩
theorem XOk.tr {X : Cx} (ok : XOk G C X Wx k call) (hn : C.hs = none) {W' : WX} {pn : List (Addr × Obj)} {xe : Value → Shared → Prop} (tk : Takes (X.tr pn xe) W') (pas : PassesOwn (model X.prog X.w) X.A X.env xe) : XOk G C (X.tr pn xe) W' k call :=
  { prog := ok.prog, w := ok.w, K := ok.K, mg := ok.mg, N := ok.N, nd := ok.nd, sc := ok.sc, room := ok.room, roomH := ok.roomH, fnsH := ok.fnsH, hu := ok.hu, hs := ok.hs, cs := ok.cs,
    hx := fun i a c e => absurd ((congrArg (Option.map fun h => h.1) e).symm.trans (ok.hs.trans hn)) (fun z => nomatch z),
    stk := ok.stk, calm := ok.calm, tk := tk, pas := pas, tab := ok.tab, nm := ok.nm, free := ok.free, gl := ok.gl, cls := ok.cls, fns := ok.fns, okf := ok.okf, con := ok.con, exc := ok.exc, dc := ok.dc, xa := ok.xa, hk := ok.hk, can := ok.can }
theorem XOk.suO {X : Cx} (ok : XOk G C X Wx k call) (hn : C.hs = none) (a : Addr) (pn : List (Addr × Obj)) : XOk G (C.su none) (X.suite a pn) (fun _ _ _ _ => False) k call :=
  { prog := ok.prog, w := ok.w, K := ok.K, mg := ok.mg, N := ok.N, nd := ok.nd, sc := ok.sc, room := fun z => absurd (show false = true from z) Bool.false_ne_true, roomH := roomH_suite ok.roomH, fnsH := ok.fnsH, hu := ok.hu, hs := ok.hs.trans hn, cs := fun _ => rfl,
    hx := fun i a c e => absurd ((congrArg (Option.map fun h => h.1) e).symm.trans (ok.hs.trans hn)) (fun z => nomatch z),
    stk := ok.stk, calm := fun z => absurd (show false = true from z) Bool.false_ne_true, tk := takes0, pas := PassesOwn.never, tab := ok.tab, nm := ok.nm, free := ok.free, gl := ok.gl, cls := ok.cls, fns := fun z => absurd (show false = true from z) Bool.false_ne_true, okf := ok.okf, con := ok.con, exc := ok.exc, dc := ok.dc, xa := ok.xa, hk := ok.hk, can := ok.can }
theorem XOk.suA {X : Cx} (ok : XOk G C X Wx k call) (i : Nat) (a : Addr) (c : HC) (oe : Obj) (pn : List (Addr × Obj)) (hz : Zc (.ref (G.eA c.1)) c.2 oe) (hf : ∃ vs, oe.data = .fields vs) {l : List Nat} (hl : G.tab.exc c.1 = some l) :
    XOk (G.hd (some (i, a, c))) (C.su (some i)) (X.suite a ((a, oe) :: pn)) (fun _ _ _ _ => False) k call :=
  { prog := ok.prog, w := ok.w, K := ok.K, mg := ok.mg, N := ok.N, nd := ok.nd, sc := ok.sc, room := fun z => absurd (show false = true from z) Bool.false_ne_true, roomH := roomH_suite ok.roomH, fnsH := fun f d h1 h2 => let ⟨run, e, F⟩ := ok.fnsH f d h1 h2; ⟨run, e, ⟨F.ex⟩⟩, hu := ok.hu, hs := rfl, cs := fun z => absurd (show false = true from z) Bool.false_ne_true,
    hx := fun i' a' c' e => by
      have e : some (i, a, c) = some (i', a', c') := e
      cases e
      exact ⟨oe, List.mem_cons_self, hz, hf, l, hl⟩
    stk := ok.stk, calm := fun z => absurd (show false = true from z) Bool.false_ne_true, tk := takes0, pas := PassesOwn.never, tab := ok.tab, nm := ok.nm, free := ok.free, gl := ok.gl,
    cls := fun c cl h => let D := ok.cls c cl h; { cls := D.cls, ha := D.ha, hn := D.hn, htk := D.htk, hm := D.hm, isB := fun t ht => by have z := D.isB t ht; cases t <;> exact z, isC := D.isC, isD := D.isD, mg := D.mg, na := D.na, mt := D.mt, mkf := D.mkf }
    fns := fun z => absurd (show false = true from z) Bool.false_ne_true, okf := ok.okf,
    con := fun g t h => by
      obtain ⟨v, u, h1, h2, h3, h4⟩ := ok.con g t h
      exact ⟨v, u, h1, h2, fun F => (h3 F).hd, h4⟩
    exc := fun c l h => let D := ok.exc c l h; { mg := D.mg, ex := D.ex, sub := D.sub, ty := D.ty, isE := D.isE, ve := D.ve, kO := D.kO }
    dc := fun g kvs h => ⟨(ok.dc g kvs h).ex⟩
    xa := fun c g f h => let D := ok.xa c g f h; ⟨D.nf, D.mg, D.T, D.iC, D.tI, D.hno, D.ex⟩
    hk := ok.hk
    can := ok.can }
theorem post_noex {W : Wd} {m : RS} {D : Ends} (h : PostS G Wx W m.noex D) : PostS G (fun _ _ _ _ => False) W m D := by
  cases m with
  | ex x env S => exact (show False from h).elim
  | _ => exact h
theorem post_gone {W : Wd} {m : RS} {D : Ends} {i : Nat} {a : Addr} {c : HC} (hn : G.hs = none) (h : PostS G Wx W (m.gone i) D) :
    PostS (G.hd (some (i, a, c))) (fun _ _ _ _ => False) W m { nx := fun σ' H' => D.nx (σ'.set i none) H', rt := D.rt, bk := fun σ' H' => D.bk (σ'.set i none) H', ct := fun σ' H' => D.ct (σ'.set i none) H' } := by
  have back : ∀ {W' : Wd} {S : Store} {H : Hp}, Sim (G.hd (some (i, a, c))) W' S H → Sim G W' S H := fun s => by
    have z := Sim.hd (G := G.hd (some (i, a, c))) (h := none) s
    rw [show (G.hd (some (i, a, c))).hd none = G.hd none from rfl, Gd.hd_none hn] at z
    exact z
  have backE : ∀ {W' : Wd} {σ : L2.St} {env : Env}, EnvRep (G.hd (some (i, a, c))) W' σ env → EnvRep G W' (σ.set i none) (env.set i none) := fun e => by
    have z := EnvRep.gone e
    rw [Gd.hd_none hn] at z
    exact z
  cases m with
  | nx env S => exact fun W' σ H l s e => h W' (σ.set i none) H l (back s) (backE e)
  | bk env S => exact fun W' σ H l s e => h W' (σ.set i none) H l (back s) (backE e)
  | ct env S => exact fun W' σ H l s e => h W' (σ.set i none) H l (back s) (backE e)
  | rt v S =>
    intro W' x H l s r
    have z := RepV.hd (G := G.hd (some (i, a, c))) (h := none) r
    rw [show (G.hd (some (i, a, c))).hd none = G.hd none from rfl, Gd.hd_none hn] at z
    exact h W' x H l (back s) z
  | ex x env S => exact (show False from h).elim
  | bad => exact (show False from h).elim
theorem try_body {X : Cx} {W : Wd} {S : Store} {env : Env} {b : ISs} {d : Nat} {nm : Option Nat} {su : ISs} {D : Ends} {W2 : WX} (q : PostS G Wx W (dS G.tab call (.try_ b [d] nm su) env S) D)
    (hc : ∀ (x : Exn) (env1 : Env) (S1 : Store), PostS G Wx W (match (generalizing := false) excIn G.tab x.c [d] with
      | some true => (match (generalizing := false) nm with
        | some i => (dSs G.tab call su (env1.set i (some (.t (.exn x.c x.fs)))) S1).gone i
        | none => (dSs G.tab call su env1 S1).noex)
      | some false => .ex x env1 S1
      | none => .bad) D → PostS G W2 W (.ex x env1 S1) D) : PostS G W2 W (dSs G.tab call b env S) D := by
  have q : PostS G Wx W (match (generalizing := false) dSs G.tab call b env S with
    | .ex x env1 S1 => (match (generalizing := false) excIn G.tab x.c [d] with
      | some true => (match (generalizing := false) nm with
        | some i => (dSs G.tab call su (env1.set i (some (.t (.exn x.c x.fs)))) S1).gone i
        | none => (dSs G.tab call su env1 S1).noex)
      | some false => .ex x env1 S1
      | none => .bad)
    | m => m) D := q
  cases z : dSs G.tab call b env S with
  | ex x env1 S1 =>
    rw [z] at q
    exact hc x env1 S1 q
  | nx env1 S1 => rw [z] at q; exact q
  | rt v S1 => rw [z] at q; exact q
  | bk env1 S1 => rw [z] at q; exact q
  | ct env1 S1 => rw [z] at q; exact q
  | bad => rw [z] at q; exact q
theorem excIn_1 {tab : Tab} {c d : Nat} {l : List Nat} (hd : tab.exc d = some l) : excIn tab c [d] = (tab.exc c).map fun l => l.contains d := by
  show (match tab.exc c with
    | some l => if (tab.exc d).isSome then (some false).map fun b => l.contains d || b else none
    | none => none) = _
  rw [hd]
  cases tab.exc c with
  | none => rfl
  | some l => show some (l.contains d || false) = some (l.contains d); rw [Bool.or_false]
theorem excIn_3 {tab : Tab} {c d1 d2 d3 : Nat} {l1 l2 l3 : List Nat} (h1 : tab.exc d1 = some l1) (h2 : tab.exc d2 = some l2) (h3 : tab.exc d3 = some l3) : excIn tab c [d1, d2, d3] = (tab.exc c).map fun l => l.contains d1 || (l.contains d2 || l.contains d3) := by
  cases e : tab.exc c with
  | none => unfold excIn; rw [e]; rfl
  | some l =>
    simp only [excIn, e, h1, h2, h3, Option.isSome_some, if_true, Option.map_some, Bool.or_false]
theorem try3_body {W : Wd} {S : Store} {env : Env} {b : ISs} {d1 d2 d3 : Nat} {su : ISs} {D : Ends} {W2 : WX} (q : PostS G Wx W (dS G.tab call (.try3 b d1 d2 d3 su) env S) D)
    (hc : ∀ (x : Exn) (env1 : Env) (S1 : Store), PostS G Wx W (match (generalizing := false) excIn G.tab x.c [d1, d2, d3] with
      | some true => (dSs G.tab call su env1 S1).noex
      | some false => .ex x env1 S1
      | none => .bad) D → PostS G W2 W (.ex x env1 S1) D) : PostS G W2 W (dSs G.tab call b env S) D := by
  have q : PostS G Wx W (match (generalizing := false) dSs G.tab call b env S with
    | .ex x env1 S1 => (match (generalizing := false) excIn G.tab x.c [d1, d2, d3] with
      | some true => (dSs G.tab call su env1 S1).noex
      | some false => .ex x env1 S1
      | none => .bad)
    | m => m) D := q
  cases z : dSs G.tab call b env S with
  | ex x env1 S1 =>
    rw [z] at q
    exact hc x env1 S1 q
  | nx env1 S1 => rw [z] at q; exact q
  | rt v S1 => rw [z] at q; exact q
  | bk env1 S1 => rw [z] at q; exact q
  | ct env1 S1 => rw [z] at q; exact q
  | bad => rw [z] at q; exact q
def tA1 (G : Gd) (i f : Nat) : TG := fun v σ H Q => ∃ (W : Wd) (S S2 : Store) (env : Env) (d x : Val), Sim G W S H ∧ EnvRep G W σ env ∧ RepV G W v d ∧ env[i]? = some (some x) ∧ setFV G.tab x f d S = some S2 ∧ ∀ W2 H2, W.le W2 → Sim G W2 S2 H2 → Q σ H2
theorem pg_at (ok : XOk G C X Wx k call) {i f : Nat} {x : Expr} {p : Pos} (h : chkE C (.var i) x = true) : PG X (.Attribute x (G.nm.atN f) p) (tA1 G i f) := by
  refine ⟨fun pins s σ H v u Q I r ⟨W, S, S2, env, d, a, sm, er, rd, ea, hs, q⟩ => ?_⟩
  rw [PySem.assign_Attribute]
  refine wpAny_bind (wpAny_holding (thn ((sE ok (.var i) x h).run pins s σ H (fun y H1 => ∃ W1, W.le W1 ∧ Sim G W1 S H1 ∧ RepV G W1 y a) I ⟨W, env, S, sm, er, ?_⟩) fun ov s1 ⟨y, H1, I1, ry, W1, l1, sm1, ra⟩ => ?_))
  · show PostV G Wx σ W (match env[i]? with
      | some (some v) => R.ok v S
      | _ => .bad) _
    rw [ea]
    exact fun W1 y H1 l1 s1 r1 => ⟨W1, l1, s1, r1⟩
  · obtain ⟨ad, c, dx, gs, rfl, z2, z3, z4, z5, z6, _⟩ := setF_any ok hs sm1 ra (rd.mono l1)
    obtain rfl : ov = Value.ref ad := ry
    exact wpAny_bind (wpAny_standAt (wpAny_bind (wpAny_holding (setattr_ok I1 z2 z3 z4 z5 r fun s2 I2 => wpAny_release ⟨σ, _, I2, q W1 _ l1 z6⟩))))
def tAt (G : Gd) (is fs : List Nat) : TGs := fun vs σ H Q => ∃ (W : Wd) (S S2 : Store) (env : Env) (ds : List Val), Sim G W S H ∧ EnvRep G W σ env ∧ Paired (RepV G W) vs ds ∧ setTFs G.tab is fs ds env S = some S2 ∧ ∀ W2 H2, W.le W2 → Sim G W2 S2 H2 → EnvRep G W2 σ env → Q σ H2
theorem pgs_at (ok : XOk G C X Wx k call) : ∀ {is fs : List Nat} {es : List Expr}, chkAt C is fs es = true → PGs X es (tAt G is fs) ∧ (assignEach es X.env).length = is.length ∧ (assignEach es X.env).findIdx? (·.1) = none
  | [], [], [], _ => ⟨PGs.imp pgs_nil (fun vs σ H Q ⟨W, S, S2, env, ds, sm, er, r, e, q⟩ => by
      cases ds with
      | nil =>
        cases r
        cases e
        exact ⟨rfl, q W H (.refl W) sm er⟩
      | cons _ _ => cases e), rfl, rfl⟩
  | i :: is, f :: fs, e :: es, h => by
    cases e with
    | Attribute x n p =>
      obtain ⟨h1, h⟩ := ba h
      obtain ⟨h2, h3⟩ := ba h
      have e1 := of_decide_eq_true h2
      rw [ok.nm] at e1
      subst e1
      obtain ⟨g, l, fi⟩ := pgs_at ok h3
      refine ⟨PGs.imp (pgs_cons (pg_at ok h1) g rfl) ?_, congrArg Nat.succ l, ?_⟩
      · rintro vs σ H Q ⟨W, S, S2, env, ds, sm, er, r, e, q⟩
        cases ds with
        | nil => cases e
        | cons d ds =>
          cases r with
          | cons r rr =>
            have e : (match env[i]? with
              | some (some x) => (setFV G.tab x f d S).bind fun S1 => setTFs G.tab is fs ds env S1
              | _ => none) = some S2 := e
            cases ea : env[i]? with
            | none => rw [ea] at e; cases e
            | some o =>
              cases o with
              | none => rw [ea] at e; cases e
              | some a =>
                rw [ea] at e
                obtain ⟨S1, e1, e2⟩ := Option.bind_eq_some_iff.mp (show ((setFV G.tab a f d S).bind fun S1 => setTFs G.tab is fs ds env S1) = some S2 from e)
                exact ⟨_, _, rfl, W, S, S1, env, d, a, sm, er, r, ea, e1, fun W2 H2 l2 s2 => ⟨W2, S1, S2, env, ds, s2, er.mono l2, RepVs.mono l2 rr, e2, fun W3 H3 l3 s3 e3 => q W3 H3 (l2.trans l3) s3 e3⟩⟩
      · show ((false, assign (.Attribute x _ p) X.env) :: assignEach es X.env).findIdx? (·.1) = none
        rw [List.findIdx?_cons, fi]
        rfl
    | _ => cases h
  | [], [], _ :: _, h => by cases h
  | [], _ :: _, _, h => by cases h
  | _ :: _, [], _, h => by cases h
  | _ :: _, _ :: _, [], h => by cases h
theorem setTFs_len {tab : Tab} : ∀ {is fs : List Nat} {ds : List Val} {env : Env} {S S2 : Store}, setTFs tab is fs ds env S = some S2 → ds.length = is.length
  | [], [], [], _, _, _, _ => rfl
  | i :: is, f :: fs, d :: ds, env, S, S2, e => by
    have e : (match env[i]? with
      | some (some x) => (setFV tab x f d S).bind fun S1 => setTFs tab is fs ds env S1
      | _ => none) = some S2 := e
    split at e
    · obtain ⟨S1, e1, e2⟩ := Option.bind_eq_some_iff.mp e
      exact congrArg Nat.succ (setTFs_len e2)
    · cases e
  | [], [], _ :: _, _, _, _, e => by cases e
  | [], _ :: _, _, _, _, _, e => by cases e
  | _ :: _, [], _, _, _, _, e => by cases e
  | _ :: _, _ :: _, [], _, _, _, e => by cases e
theorem dctB_r {a : Val} (h : dctB a S = true) : ∃ n kvs, a = .r n ∧ S[n]? = some (.dct kvs) := by
  cases a with
  | t _ => cases h
  | r n =>
    have h : (match S[n]? with
      | some (.dct _) => true
      | _ => false) = true := h
    cases hc : S[n]? with
    | none => rw [hc] at h; cases h
    | some c =>
      cases c with
      | dct kvs => exact ⟨n, kvs, rfl, hc⟩
      | _ => rw [hc] at h; cases h
theorem dct_sub {a b : Val} (h : dctB a S = true) : (∃ n kvs u k z, a = .r n ∧ S[n]? = some (.dct kvs) ∧ b = .t u ∧ keyT u = some k ∧ lookK kvs k = some z ∧ subV a b S = .ok z S) ∨ subV a b S = .bad := by
  obtain ⟨n, kvs, rfl, hc⟩ := dctB_r h
  cases b with
  | r m => exact .inr rfl
  | t u =>
    cases u with
    | int i =>
      have e : subV (.r n) (.t (.int i)) S = ofO (lookK kvs (.inl i)) S := by
        show (match S[n]? with
          | some (.lst vs) => ofO (atL vs i) S
          | some (.dct kvs) => ofO (lookK kvs (.inl i)) S
          | _ => .bad) = _
        rw [hc]
      cases q : lookK kvs (.inl i) with
      | none => exact .inr (by rw [e, q]; rfl)
      | some z => exact .inl ⟨n, kvs, _, _, z, rfl, hc, rfl, rfl, q, by rw [e, q]; rfl⟩
    | str x =>
      have e : subV (.r n) (.t (.str x)) S = ofO (lookK kvs (.inr x)) S := by
        show (match S[n]? with
          | some (.dct kvs) => ofO (lookK kvs (.inr x)) S
          | _ => .bad) = _
        rw [hc]
      cases q : lookK kvs (.inr x) with
      | none => exact .inr (by rw [e, q]; rfl)
      | some z => exact .inl ⟨n, kvs, _, _, z, rfl, hc, rfl, rfl, q, by rw [e, q]; rfl⟩
    | _ => exact .inr rfl
theorem dct_setS {n : Nat} {u : T} {k : Key} {v : Val} {S2 : Store} (h : dctB (.r n) S = true) (hk : keyT u = some k) (e : setSV (.r n) (.t u) v S = some S2) : ∃ kvs, S[n]? = some (.dct kvs) ∧ kvs.length < 1000 ∧ S2 = S.set n (.dct (putKV kvs k v)) := by
  obtain ⟨m, kvs, q, hc⟩ := dctB_r h
  cases q
  refine ⟨kvs, hc, ?_⟩
  cases u with
  | int i =>
    cases hk
    have e : (match S[n]? with
      | some (.lst ws) => (ix ws.length i).map fun j => S.set n (.lst (ws.set j v))
      | some (.dct kvs) => if kvs.length < 1000 then some (S.set n (.dct (putKV kvs (.inl i) v))) else none
      | _ => none) = some S2 := e
    rw [hc] at e
    have e : (if kvs.length < 1000 then some (S.set n (.dct (putKV kvs (.inl i) v))) else none) = some S2 := e
    split at e
    · rename_i c
      cases e
      exact ⟨c, rfl⟩
    · cases e
  | str x =>
    cases hk
    have e : (match S[n]? with
      | some (.dct kvs) => if kvs.length < 1000 then some (S.set n (.dct (putKV kvs (.inr x) v))) else none
      | _ => none) = some S2 := e
    rw [hc] at e
    have e : (if kvs.length < 1000 then some (S.set n (.dct (putKV kvs (.inr x) v))) else none) = some S2 := e
    split at e
    · rename_i c
      cases e
      exact ⟨c, rfl⟩
    · cases e
  | _ => cases hk
mutual
theorem sS {G : Gd} {C : Ck} {X : Cx} {Wx : WX} (ok : XOk G C X Wx k call) : ∀ (is : IS) (st : Stmt), chkS C is st = true → PS X st (tS G Wx call is)
  | .pass, st, h => by
    cases st with
    | Pass p => exact PS.imp ps_pass fun D σ H ⟨W, env, S, sm, er, q⟩ => q W σ H (.refl W) sm er
    | _ => cases h
  | .expr e, st, h => by
    cases st with
    | Expr x p =>
      exact PS.imp (ps_expr (sE ok e x (ba h).1) (lc_no (nb (ba h).2))) fun D σ H ⟨W, env, S, sm, er, q⟩ =>
        Den.stepS q sm er fun v S1 W1 b H1 e1 l1 s1 n1 r1 p1 => p1 W1 σ H1 (.refl W1) s1 n1
    | _ => cases h
  | .set i e, st, h => by
    cases st with
    | Assign ts v p =>
      cases ts with
      | nil => cases h
      | cons t ts =>
        cases ts with
        | cons _ _ => cases t <;> cases h
        | nil =>
          cases t with
          | Name x px =>
            obtain ⟨h1, h⟩ := ba h
            obtain ⟨h2, h⟩ := ba h
            obtain ⟨h3, h4⟩ := ba h
            have h1 : X.N[i]? = some x := by rw [ok.N]; exact of_decide_eq_true h1
            obtain ⟨c1, c2⟩ := ok.can i x h1 h2
            have fin : ∀ D σ H, tS G Wx call (.set i e) D σ H → tAsg (tE G Wx call e) (gName i) D σ H := fun D σ H ⟨W, env, S, sm, er, q⟩ =>
              Den.stepS q sm er fun v S1 W1 b H1 e1 l1 s1 n1 r1 p1 => p1 W1 _ H1 (.refl W1) s1 (n1.set r1 i)
            cases hl : isLc v with
            | false => exact PS.imp (ps_set (i := i) ok.nd h1 c1 (sE ok e v h3) (lc_no hl) c2) fin
            | true =>
              rw [hl] at h4
              have hk : X.env.scope.kind = .function := by rw [ok.sc]; exact of_decide_eq_true h4
              exact PS.imp (set_lc ok h1 c1 c2 hk h3) fin
          | _ => cases h
    | _ => cases h
  | .setT is e, st, h => by
    cases st with
    | Assign ts v p =>
      cases ts with
      | nil => cases h
      | cons t ts =>
        cases ts with
        | cons _ _ => cases h
        | nil =>
          obtain ⟨h1, h⟩ := ba h
          obtain ⟨h2, h⟩ := ba h
          obtain ⟨h3, h4⟩ := ba h
          obtain ⟨es, kk, pt, rfl⟩ := chkT_tup h1
          have h4 := nb h4
          have sw : swappedStores [.Tuple es kk pt] v X.env = pure none := by
            cases v <;> first | rfl | cases h4
          refine PS.imp (ps_asg (sE ok e v h2) (sTg ok h1) (show swapsWithSole [.Tuple es kk pt] v p.line X.env = pure false from lc_no (v := v) (t := some (.Tuple es kk pt)) (l := p.line) (env := X.env) (nb h3)) sw rfl) fun D σ H ⟨W, env, S, sm, er, q⟩ =>
            Den.stepS q sm er fun v S1 W1 b H1 e1 l1 s1 n1 r1 p1 => ?_
          have p1 : PostS G Wx W1 (match target true is v env S1 with
            | some env2 => .nx env2 S1
            | none => .bad) D := p1
          cases z : target true is v env S1 with
          | none => rw [z] at p1; exact (show False from p1).elim
          | some env2 =>
            rw [z] at p1
            exact ⟨W1, S1, env, env2, v, s1, n1, r1, z, fun σ2 e2 _ => p1 W1 σ2 H1 (.refl W1) s1 e2⟩
    | _ => cases h
  | .setM is es, st, h => by
    cases st with
    | Assign tl v p =>
      cases tl with
      | nil => cases h
      | cons t0 tl =>
        cases tl with
        | cons _ _ => cases t0 <;> cases h
        | nil =>
          cases t0 with
          | Tuple ts kk pt =>
            cases v with
            | Tuple vs k2 p2 =>
              obtain ⟨h0, h⟩ := ba h
              obtain ⟨h1, h⟩ := ba h
              obtain ⟨h2, h⟩ := ba h
              obtain ⟨h3, h⟩ := ba h
              obtain ⟨h4, h5⟩ := ba h
              have h0 := of_decide_eq_true h0
              have h5 := of_decide_eq_true h5
              obtain ⟨g, l, f⟩ := sTgs ok h1
              have sw : swappedStores [.Tuple ts kk pt] (.Tuple vs k2 p2) X.env = pure none := by
                have c : (!(ts.length == 2 || ts.length == 3) || vs.length != ts.length || X.env.blockKind != .function) = true := by
                  by_cases q : vs.length = ts.length
                  · have e2 : (ts.length == 2) = false := beq_eq_false_iff_ne.mpr (by omega)
                    have e3 : (ts.length == 3) = false := beq_eq_false_iff_ne.mpr (by omega)
                    rw [e2, e3]
                    rfl
                  · have e : (vs.length != ts.length) = true := bne_iff_ne.mpr q
                    rw [e, Bool.or_true, Bool.true_or]
                unfold swappedStores
                show (if (!(ts.length == 2 || ts.length == 3) || vs.length != ts.length || X.env.blockKind != .function) = true then pure none else _) = _
                rw [if_pos c]
              refine PS.imp (ps_asg (pe_tup (sEs ok es vs h3 h4)) (pg_tup (ok.calm h2) g l f) rfl sw rfl) fun D σ H ⟨W, env, S, sm, er, q⟩ =>
                Den.stepS q sm er fun ws S1 W1 xs H1 e1 l1 s1 n1 r1 p1 => ?_
              have p1 : PostS G Wx W1 (match setMany env is ws with
                | some env2 => .nx env2 S1
                | none => .bad) D := p1
              cases z : setMany env is ws with
              | none => rw [z] at p1; exact (show False from p1).elim
              | some env2 =>
                rw [z] at p1
                have hl : xs.length = is.length := (Paired.length r1).trans (setMany_len z)
                refine ⟨by rw [hl, sizeLine_eq]; omega, fun tp htp => ⟨tp, xs, rfl, .inl (.inl upd_same), hl, W1, S1, env, env2, ws, s1.newH htp, n1, r1, z, fun σ2 e2 _ => p1 W1 σ2 _ (.refl W1) (s1.newH htp) e2⟩⟩
            | _ => cases h
          | _ => cases v <;> cases h
    | _ => cases h
  | .never, st, h => PS.imp (ps_never (st := st)) fun D σ H ⟨W, env, S, sm, er, q⟩ => (show False from q)
  | .setTF is fs e, st, h => by
    cases hx : tfP st with
    | none =>
      have h : (match tfP st with
        | some (xs, v) => chkAt C is fs xs && (chkE C e v && (!isLc v && (!isTup v && C.calm)))
        | none => false) = true := h
      rw [hx] at h; cases h
    | some p =>
    obtain ⟨xs, v⟩ := p
    have h : (match tfP st with
      | some (xs, v) => chkAt C is fs xs && (chkE C e v && (!isLc v && (!isTup v && C.calm)))
      | none => false) = true := h
    rw [hx] at h
    obtain ⟨h1, h⟩ := ba h
    obtain ⟨h2, h⟩ := ba h
    obtain ⟨h3, h⟩ := ba h
    obtain ⟨h4, h5⟩ := ba h
    obtain ⟨kk, pt, p, rfl⟩ := tfP_ok hx
    obtain ⟨g, l, f⟩ := pgs_at ok h1
    have h4 := nb h4
    have sw : swappedStores [.Tuple xs kk pt] v X.env = pure none := by
      cases v <;> first | rfl | cases h4
    refine PS.imp (ps_asg (sE ok e v h2) (pg_tup (ok.calm h5) g l f) (show swapsWithSole [.Tuple xs kk pt] v p.line X.env = pure false from lc_no (v := v) (t := some (.Tuple xs kk pt)) (l := p.line) (env := X.env) (nb h3)) sw rfl) fun D σ H ⟨W, env, S, sm, er, q⟩ =>
      Den.stepS q sm er fun v S1 W1 b H1 e1 l1 s1 n1 r1 p1 => ?_
    cases v with
    | r _ => exact (show False from p1).elim
    | t t =>
      cases t with
      | tup ys =>
        have p1 : PostS G Wx W1 (match setTFs G.tab is fs (ys.map .t) env S1 with
          | some S1 => .nx env S1
          | none => .bad) D := p1
        cases r1 with
        | tup hF rl =>
          cases z : setTFs G.tab is fs (ys.map .t) env S1 with
          | none => rw [z] at p1; exact (show False from p1).elim
          | some S2 =>
            rw [z] at p1
            have rp := vals_repL (vs := []) rl
            refine ⟨_, _, rfl, by rw [ok.K]; exact sameT s1.fz hF, ?_, W1, S1, S2, env, _, s1, n1, rp, z, fun W2 H2 l2 s2 n2 => p1 W2 σ H2 l2 s2 n2⟩
            rw [rp.length]
            exact setTFs_len z
      | _ => exact (show False from p1).elim
  | .augS o i op e, st, h => by
    cases st with
    | AugAssign t o2 v p =>
      cases t with
      | Subscript x y px =>
        obtain ⟨h1, h⟩ := ba h
        obtain ⟨h2, h⟩ := ba h
        obtain ⟨h3, h⟩ := ba h
        obtain ⟨h4, h⟩ := ba h
        obtain ⟨h5, h6⟩ := ba h
        have e2 : op = o2 := of_decide_eq_true h4
        subst e2
        have h3 := nb h3
        refine PS.imp (ps_daug (rd := fun x y H Q => ∃ r : TIp, PIp X op r ∧ r x y H Q) (by have := ok.hu; omega) (sE ok o x h1) (sE ok i y h2) (sE ok e v h6) (fun pins s σ H x y u v Q I rx ry h => ip_any op pins s σ H x y u v Q I rx ry h) (by cases y <;> first | (intro _ _ _; rfl) | cases h3)) fun D σ H ⟨W, env, S, sm, er, q⟩ =>
          Den.stepS q sm er fun a S1 W1 xa H1 e1 l1 s1 n1 r1 p1 => Den.stepS p1 s1 n1 fun b S2 W2 yb H2 e2 l2 s2 n2 r2 p2 => ?_
        have p2 : PostS G Wx W2 (if dctB a S2 then (subV a b S2).st env fun z S => (dE G.tab call e env S).st env fun w S3 => (binA op z w S3).st env fun v S3 => if dctB a S3 then (match setSV a b v S3 with
          | some S1 => .nx env S1
          | none => .bad) else .bad else .bad) D := p2
        cases hb : dctB a S2 with
        | false => rw [hb] at p2; exact (show False from p2).elim
        | true =>
        rw [hb, if_pos rfl] at p2
        rcases dct_sub (b := b) hb with ⟨n, kvs, u, kk, z, rfl, hc, rfl, hk, hl, hs⟩ | hs
        · rw [hs] at p2
          have r1' := r1.mono l2
          obtain ⟨hn, ex⟩ := r1'
          subst ex
          obtain ⟨gs, ho, hp⟩ := cell_dct s2 hc
          have ey := keyT_rep hk r2
          subst ey
          obtain ⟨xv, ev, rv⟩ := lookK_rel hp hl
          refine ⟨_, xv, rfl, by rw [← ev]; exact DGet.k ho, Den.stepS (show PostS G Wx W2 ((dE G.tab call e env S2).st env fun w S3 => (binA op z w S3).st env fun v S3 => if dctB (.r n) S3 then (match setSV (.r n) (.t u) v S3 with
            | some S1 => .nx env S1
            | none => .bad) else .bad) D from p2) s2 n2 fun w S3 W3 wv H3 e3 l3 s3 n3 r3 p3 => ?_⟩
          refine aug_any (op := op) (a := z) (b := w) (W := W3) (Wx := Wx) (σ := σ) (S := S3) h5 ?_ s3 (rv.mono l3) r3
          cases zz : binA op z w S3 with
          | ok c S4 =>
            rw [zz] at p3
            intro W4 cv H4 l4 s4 r4
            have p4 : PostS G Wx W3 (if dctB (.r n) S4 then (match setSV (.r n) (.t u) c S4 with
              | some S1 => .nx env S1
              | none => .bad) else .bad) D := p3
            cases hb4 : dctB (.r n) S4 with
            | false => rw [hb4] at p4; exact (show False from p4).elim
            | true =>
            rw [hb4, if_pos rfl] at p4
            cases hq : setSV (.r n) (.t u) c S4 with
            | none => rw [hq] at p4; exact (show False from p4).elim
            | some S5 =>
              rw [hq] at p4
              obtain ⟨kvs4, hc4, hl4, rfl⟩ := dct_setS hb4 hk hq
              have hat : W4.at_ n = W2.at_ n := (l3.trans l4).at_ n hn
              obtain ⟨H5, g1, g2⟩ := put_dct (k := kk) s4 hc4 r4 hl4
              rw [hat] at g1
              exact ⟨H5, g1, p4 W4 σ H5 l4 g2 (n3.mono l4)⟩
          | ex x S4 =>
            rw [zz] at p3
            exact fun W4 cls od H4 l4 s4 r4 => p3 W4 σ cls od H4 l4 s4 (n3.mono l4) r4
          | bad =>
            rw [zz] at p3
            exact (show False from p3).elim
        · rw [hs] at p2
          exact (show False from p2).elim
      | _ => cases h
    | _ => cases h
  | .setF o f e, st, h => by
    cases st with
    | Assign ts v p =>
      cases ts with
      | nil => cases h
      | cons t ts =>
        cases ts with
        | cons _ _ => cases t <;> cases h
        | nil =>
          cases t with
          | Attribute x n px =>
            obtain ⟨h1, h⟩ := ba h
            obtain ⟨h2, h3⟩ := ba h
            have e1 := of_decide_eq_true h2
            rw [ok.nm] at e1
            subst e1
            refine PS.imp (ps_fld (sE ok o x h1) (sE ok e v h3) sw_attr) fun D σ H ⟨W, env, S, sm, er, q⟩ =>
              Den.stepS q sm er fun w S1 W1 y H1 e1 l1 s1 n1 r1 p1 => Den.stepS p1 s1 n1 fun a S2 W2 z H2 e2 l2 s2 n2 r2 p2 => ?_
            have p2 : PostS G Wx W2 (match setFV G.tab a f w S2 with
              | some S1 => .nx env S1
              | none => .bad) D := p2
            cases hq : setFV G.tab a f w S2 with
            | none => rw [hq] at p2; exact (show False from p2).elim
            | some S3 =>
              rw [hq] at p2
              obtain ⟨ad, Cc, dx, gs, z1, z2, z3, z4, z5, z6, _⟩ := setF_any ok hq s2 r2 (r1.mono l2)
              exact ⟨ad, _, dx, gs, z1, z2, z3, z4, z5, p2 W2 σ _ (.refl W2) z6 n2⟩
          | _ => cases h
    | _ => cases h
  | .setS o i e, st, h => by
    cases st with
    | Assign ts v p =>
      cases ts with
      | nil => cases h
      | cons t ts =>
        cases ts with
        | cons _ _ => cases t <;> cases h
        | nil =>
          cases t with
          | Subscript x y px =>
            obtain ⟨h1, h⟩ := ba h
            obtain ⟨h2, h⟩ := ba h
            obtain ⟨h4, h3⟩ := ba h
            have asg : ∀ v, assign (.Subscript x y px) X.env v = (do
              let ov ← holding [v] (eval x X.env)
              let iv ← holding [v, ov] (eval y X.env)
              standAt px
              holding [v, ov, iv] (setItem ov iv v)
              release [v, ov, iv] []) := fun v => by
              have h4 := nb h4
              cases y <;> first | rfl | cases h4
            refine PS.imp (ps_asg (sE ok e v h3) (pg_sub (sE ok o x h1) (sE ok i y h2) (set_both (by have := ok.hu; omega)) asg) (show swapsWithSole [.Subscript x y px] v p.line X.env = pure false from sw_sub (v := v) (o := x) (i := y) (p := px) (l := p.line) (env := X.env)) (by cases v <;> rfl) rfl) fun D σ H ⟨W, env, S, sm, er, q⟩ =>
              Den.stepS q sm er fun w S1 W1 y H1 e1 l1 s1 n1 r1 p1 => Den.stepS p1 s1 n1 fun a S2 W2 z H2 e2 l2 s2 n2 r2 p2 => Den.stepS p2 s2 n2 fun b S3 W3 z3 H3 e3 l3 s3 n3 r3 p3 => ?_
            have p3 : PostS G Wx W3 (match setSV a b w S3 with
              | some S1 => .nx env S1
              | none => .bad) D := p3
            cases hq : setSV a b w S3 with
            | none => rw [hq] at p3; exact (show False from p3).elim
            | some S4 =>
              rw [hq] at p3
              exact setS_any hq s3 (r2.mono l3) r3 (r1.mono (l2.trans l3)) _ fun H2 z6 => p3 W3 σ H2 (.refl W3) z6 n3
          | _ => cases h
    | _ => cases h
  | .setL o lo hi e, st, h => by
    obtain ⟨x, l, hh, v, h0, h1, h2, h3, h4, h5⟩ := iv_setL h
    obtain ⟨p1, p2, p3, rfl⟩ := slP_ok h0
    refine PS.imp (ps_asg (sE ok e v h4) (pg_slc (sE ok o x h1) (sE ok lo l h2) (sE ok hi hh h3)) (show swapsWithSole [.Subscript x (.Slice (some l) (some hh) none p1) p2] v p3.line X.env = pure false from sw_sub (v := v) (o := x) (i := .Slice (some l) (some hh) none p1) (p := p2) (l := p3.line) (env := X.env)) (by cases v <;> rfl) rfl) fun D σ H ⟨W, env, S, sm, er, q⟩ =>
      Den.stepS q sm er fun w S1 W1 y H1 e1 l1 s1 n1 r1 p1 => Den.stepS p1 s1 n1 fun a S2 W2 z H2 e2 l2 s2 n2 r2 p2 => Den.stepS p2 s2 n2 fun b S3 W3 z3 H3 e3 l3 s3 n3 r3 p3 => Den.stepS p3 s3 n3 fun c S4 W4 z4 H4 e4 l4 s4 n4 r4 p4 => ?_
    have p4 : PostS G Wx W4 (match setLV a b c w S4 with
      | some S1 => .nx env S1
      | none => .bad) D := p4
    cases hq : setLV a b c w S4 with
    | none => rw [hq] at p4; exact (show False from p4).elim
    | some S5 =>
      rw [hq] at p4
      unfold setLV at hq
      split at hq
      · rename_i n i j ys
        split at hq
        · rename_i xs hn
          split at hq
          · rename_i c4
            obtain ⟨c0, c1, c2, c3⟩ := c4
            cases hq
            have r1' := r1.mono (l2.trans (l3.trans l4))
            have r2' := r2.mono (l3.trans l4)
            have r3' := r3.mono l4
            cases r3'
            cases r4
            cases r1' with
            | lst hF rl =>
              rename_i vb vs
              obtain ⟨hn2, ex⟩ := r2'
              subst ex
              obtain ⟨f1, f2, o, ho, ok2⟩ := s4.live n _ hn (by intro z; cases z)
              cases ok2 with
              | lst hp =>
                rename_i zs
                have hB := s4.fz _ _ hF
                refine ⟨_, _, _, _, i, j, rfl, rfl, rfl, rfl, ho, hB, fun z => ?_, c0, c1, by rw [hp.length]; exact c2, by rw [hp.length, rl.length]; exact c3, ?_⟩
                · rw [← z, f1] at hF
                  cases hF
                · refine p4 W4 σ _ (.refl W4) (s4.setC hn (by intro z; cases z) (.lst ?_)) n4
                  have pa : Paired (RepV G W4) vs (ys.map Val.t) := vals_repL (vs := vs) rl
                  exact Paired.app' (Paired.drop' j.toNat hp) (Paired.app' pa (Paired.take' i.toNat hp))
          · cases hq
        · cases hq
      · cases hq
  | .aug i op e, st, h => by
    cases st with
    | AugAssign t o v p =>
      cases t with
      | Name x px =>
        obtain ⟨h1, h⟩ := ba h
        obtain ⟨h2, h⟩ := ba h
        obtain ⟨h3, h⟩ := ba h
        obtain ⟨h4, h5⟩ := ba h
        obtain ⟨h5, hns⟩ := ba h5
        have hns := of_decide_eq_true hns
        have e1 : op = o := of_decide_eq_true h4
        subst e1
        have h1 : X.N[i]? = some x := by rw [ok.N]; exact of_decide_eq_true h1
        obtain ⟨c1, c2⟩ := ok.can i x h1 h2
        refine PS.imp (ps_aug (i := i) ok.nd h1 c1 (sE ok e v h3) (ip_any op) c2) fun D σ H ⟨W, env, S, sm, er, q⟩ => ?_
        have q : PostS G Wx W (match env[i]? with
          | some (some x) => (dE G.tab call e env S).st env fun y S => (binA op x y S).st env fun z S => .nx (env.set i (some z)) S
          | _ => .bad) D := q
        cases z : env[i]? with
        | none => rw [z] at q; exact (show False from q).elim
        | some z1 =>
          cases z1 with
          | none => rw [z] at q; exact (show False from q).elim
          | some a =>
            rw [z] at q
            obtain ⟨x, h6, h7⟩ := er.2 i a z
            have h7 : RepV G W x a := by
              rcases h7 with h7 | ⟨a2, c, _, hg, _⟩
              · exact h7
              · have y := ok.hs
                rw [hg] at y
                exact absurd y.symm hns
            refine ⟨x, h6, Den.stepS q sm er fun b S1 W1 y H1 e1 l1 s1 n1 r1 p1 => ?_⟩
            refine aug_any (op := op) (a := a) (b := b) (W := W1) (Wx := Wx) (σ := σ) (S := S1) h5 ?_ s1 (h7.mono l1) r1
            cases zz : binA op a b S1 with
            | ok c S2 =>
              rw [zz] at p1
              exact fun W2 c2 H2 l2 s2 r2 => p1 W2 _ H2 l2 s2 ((n1.mono l2).set r2 i)
            | ex x S2 =>
              rw [zz] at p1
              exact fun W2 cls od H2 l2 s2 r2 => p1 W2 σ cls od H2 l2 s2 (n1.mono l2) r2
            | bad =>
              rw [zz] at p1
              exact (show False from p1).elim
      | _ => cases h
    | _ => cases h
  | .augF o f op e, st, h => by
    cases st with
    | AugAssign t o2 v p =>
      cases t with
      | Attribute x n px =>
        obtain ⟨h1, h⟩ := ba h
        obtain ⟨h2, h⟩ := ba h
        obtain ⟨h3, h⟩ := ba h
        obtain ⟨h4, h5⟩ := ba h
        have e1 := of_decide_eq_true h2
        rw [ok.nm] at e1
        have e2 : op = o2 := of_decide_eq_true h3
        subst e1 e2
        refine PS.imp (ps_fldaug (rd := fun x y H Q => ∃ r : TIp, PIp X op r ∧ r x y H Q) (sE ok o x h1) (sE ok e v h5) (fun pins s σ H x y u v Q I rx ry h => ip_any op pins s σ H x y u v Q I rx ry h)) fun D σ H ⟨W, env, S, sm, er, q⟩ =>
          Den.stepS q sm er fun a S1 W1 y H1 e1 l1 s1 n1 r1 p1 => ?_
        have p1 : PostS G Wx W1 ((fldV G.tab a f S1).st env fun z S => (dE G.tab call e env S).st env fun y S3 => (binA op z y S3).st env fun v S3 => if insC a S == insC a S3 then (match setFV G.tab a f v S3 with
          | some S1 => .nx env S1
          | none => .bad) else .bad) D := p1
        rcases fldV_no (tab := G.tab) (f := f) (a := a) (S := S1) with ⟨w, ew⟩ | ew
        · rw [ew] at p1
          obtain ⟨ad, Cc, dx, gs, yv, z1, z2, z3, z4, z5, z6, z7⟩ := fld_any ok ew s1 r1
          refine ⟨ad, _, dx, gs, yv, z1, z2, z3, z4, z5, Den.stepS p1 s1 n1 fun b S2 W2 zv H2 e2 l2 s2 n2 r2 p2 => ?_⟩
          refine aug_any (op := op) (a := w) (b := b) (W := W2) (Wx := Wx) (σ := σ) (S := S2) h4 ?_ s2 (z6.mono l2) r2
          cases zz : binA op w b S2 with
          | ok c S3 =>
            rw [zz] at p2
            intro W3 cv H3 l3 s3 r3
            have p3 : PostS G Wx W2 (if insC a S1 == insC a S3 then (match setFV G.tab a f c S3 with
              | some S1 => .nx env S1
              | none => .bad) else .bad) D := p2
            cases hi : insC a S1 == insC a S3 with
            | false => rw [hi] at p3; exact (show False from p3).elim
            | true =>
            rw [hi] at p3
            have p3 : PostS G Wx W2 (match setFV G.tab a f c S3 with
              | some S1 => .nx env S1
              | none => .bad) D := p3
            cases hq : setFV G.tab a f c S3 with
            | none => rw [hq] at p3; exact (show False from p3).elim
            | some S4 =>
              rw [hq] at p3
              obtain ⟨ad2, Cc2, dx2, gs2, w1, w2, w3, w4, w5, w6, w7⟩ := setF_any ok hq s3 (r1.mono (l2.trans l3)) r3
              rw [z1] at w1
              cases w1
              have hC : Cc2 = Cc := by
                rw [z7, w7] at hi
                have := eq_of_beq hi
                cases this
                rfl
              subst hC
              exact ⟨dx2, gs2, w2, w5, p3 W3 σ _ l3 w6 (n2.mono l3)⟩
          | ex x S3 =>
            rw [zz] at p2
            exact fun W3 cls od H3 l3 s3 r3 => p2 W3 σ cls od H3 l3 s3 (n2.mono l3) r3
          | bad =>
            rw [zz] at p2
            exact (show False from p2).elim
        · rw [ew] at p1
          exact (show False from p1).elim
      | _ => cases h
    | _ => cases h
  | .ife t a b, st, h => by
    cases st with
    | If c x y p =>
      obtain ⟨h1, h⟩ := ba h
      obtain ⟨h2, h3⟩ := ba h
      refine PS.imp (ps_if (sC ok t c h1) (sSs ok a x h2) (sSs ok b y h3)) fun D σ H ⟨W, env, S, sm, er, q⟩ => Den.stepS q sm er fun v S1 W1 b1 H1 e1 l1 s1 n1 r1 p1 => ?_
      have r1 : b1 = v := r1
      subst r1
      cases b1 with
      | true => exact iteT ⟨W1, env, S1, s1, n1, p1⟩
      | false => exact iteF ⟨W1, env, S1, s1, n1, p1⟩
    | _ => cases h
  | .for_ kk src many tg body, st, h => by
    cases st with
    | For t it b oe p =>
      cases oe with
      | cons _ _ => cases h
      | nil =>
        obtain ⟨h1, h⟩ := ba h
        obtain ⟨h2, h⟩ := ba h
        obtain ⟨h3, h4⟩ := ba h
        exact for_src ok (ok.calm h4) h1 (sTg ok h2) (sSs ok body b h3)
    | _ => cases h
  | .while_ n t body, st, h => by
    cases st with
    | While c b oe p =>
      cases oe with
      | cons _ _ => cases h
      | nil =>
        refine PS.imp (ps_while ok.pas (sC ok t c (ba h).1) (sSs ok body b (ba h).2)) fun D σ H q => ?_
        exact ⟨fun m σ H => DenS G Wx (fun env S => whileL (fun env S => dB G.tab call t env S) (fun env S => dSs G.tab call body env S) m env S) D σ H, ⟨n, q⟩, fun m σ H h => while_den m h⟩
    | _ => cases h
  | .ret e, st, h => by
    cases st with
    | Return v p =>
      cases v with
      | none => cases h
      | some x =>
        exact PS.imp (ps_ret (sE ok e x h)) fun D σ H ⟨W, env, S, sm, er, q⟩ => Den.stepS q sm er fun v S1 W1 b H1 e1 l1 s1 n1 r1 p1 => p1 W1 b H1 (.refl W1) s1 r1
    | _ => cases h
  | .retN, st, h => by
    cases st with
    | Return v p =>
      cases v with
      | some _ => cases h
      | none => exact PS.imp ps_retN fun D σ H ⟨W, env, S, sm, er, q⟩ => q W .non H (.refl W) sm .non
    | _ => cases h
  | .raise c es, st, h => by
    obtain ⟨x, p, m, j, p2, q, p3, rfl, h1, h2, h3, h4⟩ := iv_raise h
    rw [ok.nm] at h3
    subst h3
    refine ⟨fun pins s σ H D I ⟨W, env, S, sm, er, q⟩ => ?_⟩
    have q : PostS G Wx W (if ((G.tab.exc c).isSome && G.tab.exr c) = true then .ex ⟨c, []⟩ env S else .bad) D := q
    cases hc : G.tab.exc c with
    | none => rw [hc] at q; exact (show False from q).elim
    | some l =>
      rw [hc] at q
      cases hr : G.tab.exr c with
      | false => rw [hr] at q; exact (show False from q).elim
      | true =>
      rw [hr] at q
      have q : PostS G Wx W (.ex ⟨c, []⟩ env S) D := q
      have F := ok.exc c l hc
      refine (ps_raise (ok.calm h4) ok.tk (pmk_own (C := G.eA c) PySem.F.excBase_ValueError (by rw [ok.K]; exact (F.ex hr).1) (by rw [ok.mg]; exact F.mg) (by rw [ok.K]; exact (F.ex hr).2) (raises_own (by rw [ok.K]; exact F.sub) (by rw [ok.K]; exact F.ty)) (ok.kindOf h1) (okN_1 h2))).run pins s σ H D I ?_
      exact q W σ _ none H (.refl W) sm er ⟨rfl, .inl ⟨rfl, rfl⟩⟩
  | .raiseA c e, st, h => by
    obtain ⟨x, p, y, q, p3, rfl, h1, h2, h3, h4, h5, h6, h7⟩ := iv_raiseA h
    rw [ok.nm] at h3
    subst h3
    rw [ok.tab] at h7
    obtain ⟨⟨g, f⟩, hx⟩ := Option.isSome_iff_exists.mp h7
    have D0 := ok.xa c g f hx
    obtain ⟨xn, qual, params, body, scope, fd, N, ps, b, sl, at_, C0, mc, FD, Sc, Bd, ip, n0, n1, np, v0, v1, o0, o1, ob, gb, gs, mb, ms, cr, vV⟩ := D0.ex
    refine ⟨fun pins s σ H D I ⟨W, env, S, sm, er, q0⟩ => ?_⟩
    have q0 : PostS G Wx W ((dE G.tab call e env S).st env fun v S1 => (match G.tab.exa c, v with
      | some (_, f), .t (.int i) => if (G.tab.exc c).isSome = true ∧ i.natAbs < 100000000000000000000 then .ex ⟨c, [(f, .int i)]⟩ env S1 else .bad
      | _, _ => .bad)) D := q0
    rw [hx] at q0
    have F1 : FnOk X.prog X.w X.K X.mg X.base (fun _ _ _ _ _ _ => False) 1 (G.fA g) fd ps (spI (G.eA c) (G.nm.atN f)) := by
      rw [ok.K, ok.mg]
      exact init_ok FD Sc ip n0 n1 np v0 v1 o0 o1 ob gb gs mb ms cr vV D0.T D0.hno
    refine (ps_raise (ok.calm h4) ok.tk (pmk_oex (CX := fun _ _ _ _ _ _ => False) (dvs := []) (by rw [ok.K]; exact D0.T) (by rw [ok.K]; exact D0.iC) (by rw [ok.K]; exact D0.tI) F1 ((ok.room h4).mono (by have := ok.hk; omega)) (by rw [ok.K]; exact Bd) .nil (fun _ _ _ _ _ _ _ h => h.elim) (ok.kindOf h1) (by rw [ok.mg]; exact D0.mg) (pa_cons (sE ok e y h5) pa_nil (star_cons X.env h6)) (okN_1 h2) (star_cons X.env h6) rfl)).run pins s σ H D I ?_
    refine Den.stepS q0 sm er fun v S1 W1 vb H1 e1 l1 s1 n1 r1 p1 => ?_
    cases v with
    | r n => exact (show False from p1).elim
    | t t => cases t with
      | int i =>
        cases r1
        have p1 : PostS G Wx W1 (if (G.tab.exc c).isSome = true ∧ i.natAbs < 100000000000000000000 then .ex ⟨c, [(f, .int i)]⟩ env S1 else .bad) D := p1
        split at p1
        · rename_i cc
          refine ⟨by show 1 ≤ 1000; decide, fun a ha => ⟨a, i, rfl, cc.2, upd_same, fun d hd hne => ⟨rfl, d, [(G.nm.atN f, .int i)], upd_same, ?_, ?_, ?_⟩⟩⟩
          · rw [upd_ne hne]
            exact upd_same
          · rw [upd_ne hne] at hd
            exact hd
          · rw [upd_ne hne] at hd
            have e2 : upd (del (upd (upd (upd H1 a (exo a (G.eA c) none)) d (exd d [(G.nm.atN f, .int i)])) a (exo a (G.eA c) (some d))) a) d (.xd [(G.nm.atN f, .int i)]) = upd H1 d (.xd [(G.nm.atN f, .int i)]) := by
              funext z
              by_cases zd : z = d
              · rw [zd, upd_same, upd_same]
              · rw [upd_ne zd, upd_ne zd]
                by_cases za : z = a
                · rw [za, del_same, ha]
                · rw [del_ne za, upd_ne za, upd_ne zd, upd_ne za]
            rw [e2]
            exact p1 _ σ _ (some d) _ (Wd.le_addF s1 hd _) (s1.addF hd _) (n1.mono (Wd.le_addF s1 hd _)) ⟨rfl, .inr ⟨g, f, .int i, d, .int i, rfl, rfl, hx, upd_same, .int i⟩⟩
        · exact (show False from p1).elim
      | _ => exact (show False from p1).elim
  | .try_ b cs nm su, st, h => by
    obtain ⟨bd, y, n, s0, ss, d, h0, rfl, h1, h2, h3, h4, h5, h6, h7, h8⟩ := iv_try h
    obtain ⟨np, p1, p2, rfl⟩ := tryP_ok h0
    obtain ⟨hst, hfr⟩ := ok.stk h1
    rw [ok.nm] at h6
    subst h6
    rw [ok.tab] at h7
    obtain ⟨ld, hld⟩ := Option.isSome_iff_exists.mp h7
    have hG : G.hs = none := by
      have z := ok.hs
      rw [h2] at z
      exact Option.map_eq_none_iff.mp z
    have hN : Names X (G.nm.exN d) (.ref (G.eA d)) := ⟨ok.kindOf h4, okN_1 h5, .inl (by rw [ok.mg]; exact (ok.exc d ld hld).mg)⟩
    have one : ∀ {x : Exn} {H' : Hp} {cls : Value} {od : Option Addr} {lx : List Nat}, G.tab.exc x.c = some lx → ExRep G H' cls od x → PySem.W.exmOne X.K cls (.ref (G.eA d)) = some (lx.contains d) := fun {x H' cls od lx} e r => by
      rw [r.c, ok.K]
      exact ((ok.exc x.c lx e).kO lx e d ld hld).2
    rcases h8 with ⟨rfl, rfl, h8⟩ | ⟨i, z, rfl, rfl, h9, h10, h8⟩
    · refine PS.imp (ps_try_only (ts := fun _ _ _ => tSs G (fun _ _ _ _ => False) call su) (tb := fun W => tSs G W call b) hst hfr hN ok.tk (fun W' pn xe tk pas => sSs (ok.tr h2 tk pas) b bd h3)
        (fun a oe cls od pn _ _ => sSs (ok.suO h2 a ((a, oe) :: pn)) su (s0 :: ss) h8)) fun D σ H ⟨W, env, S, sm, er, q⟩ => ⟨W, env, S, sm, er, try_body (X := X) q fun x env1 S1 q2 => ?_⟩
      rw [excIn_1 hld] at q2
      cases e : G.tab.exc x.c with
      | none => rw [e] at q2; exact (show False from q2).elim
      | some lx =>
        rw [e] at q2
        intro W' σ' cls od H' l s' e' r'
        refine ⟨lx.contains d, one e r', fun hb a ha => ?_, fun hb => ?_⟩
        · have q2 : PostS G Wx W (match some (lx.contains d) with
            | some true => (dSs G.tab call su env1 S1).noex
            | some false => .ex x env1 S1
            | none => .bad) D := q2
          rw [hb] at q2
          exact ⟨W', env1, S1, s', e', PostS.mono (post_noex q2) l⟩
        · have q2 : PostS G Wx W (match some (lx.contains d) with
            | some true => (dSs G.tab call su env1 S1).noex
            | some false => .ex x env1 S1
            | none => .bad) D := q2
          rw [hb] at q2
          exact q2 W' σ' cls od H' l s' e' r'
    · have hi : X.N[i]? = some z := by rw [ok.N]; exact h9
      have hk : X.env.kindOf z = some .local := by
        show X.env.scope.names.lookup z = _
        rw [ok.sc]
        exact h10
      refine PS.imp (ps_try_as (ts := fun a cls od D σ H => ∃ c l, cls = .ref (G.eA c) ∧ G.tab.exc c = some l ∧ tSs (G.hd (some (i, a, (c, od)))) (fun _ _ _ _ => False) call su D σ H) (tb := fun W => tSs G W call b) hst hfr ok.nd hi hk hN ok.tk (fun W' pn xe tk pas => sSs (ok.tr h2 tk pas) b bd h3)
        (fun a oe cls od pn hz hf => ⟨fun pins s σ H D I ⟨c, l, e1, hl, q⟩ => by
          subst e1
          exact (sSs (ok.suA i a (c, od) oe pn hz hf hl) su (s0 :: ss) h8).run pins s σ H D I q⟩)) fun D σ H ⟨W, env, S, sm, er, q⟩ => ⟨W, env, S, sm, er, try_body (X := X) q fun x env1 S1 q2 => ?_⟩
      rw [excIn_1 hld] at q2
      cases e : G.tab.exc x.c with
      | none => rw [e] at q2; exact (show False from q2).elim
      | some lx =>
        rw [e] at q2
        intro W' σ' cls od H' l s' e' r'
        refine ⟨lx.contains d, one e r', fun hb a ha => ?_, fun hb => ?_⟩
        · have q2 : PostS G Wx W (match some (lx.contains d) with
            | some true => (dSs G.tab call su (env1.set i (some (.t (.exn x.c x.fs)))) S1).gone i
            | some false => .ex x env1 S1
            | none => .bad) D := q2
          rw [hb] at q2
          exact ⟨x.c, lx, r'.c, e, W', _, S1, s'.hd, e'.held hG i a (x.c, od) r'.f, PostS.mono (post_gone hG q2) l⟩
        · have q2 : PostS G Wx W (match some (lx.contains d) with
            | some true => (dSs G.tab call su (env1.set i (some (.t (.exn x.c x.fs)))) S1).gone i
            | some false => .ex x env1 S1
            | none => .bad) D := q2
          rw [hb] at q2
          exact q2 W' σ' cls od H' l s' e' r'
  | .try3 b d1 d2 d3 su, st, h => by
    obtain ⟨bd, y1, y2, y3, s0, ss, h0, h1, h2, h3, n1, n2, n3, h8⟩ := iv_try3 h
    obtain ⟨q1, q2, q3, kk, tp, p1, p2, rfl⟩ := tryP3_ok h0
    obtain ⟨hst, hfr⟩ := ok.stk h1
    have nn : ∀ {y : Str} {d : Nat}, nmB C y d = true → Names X y (.ref (G.eA d)) ∧ ∃ ld, G.tab.exc d = some ld := fun {y d} n => by
      obtain ⟨m1, n⟩ := ba n
      obtain ⟨m2, n⟩ := ba n
      obtain ⟨m3, m4⟩ := ba n
      have m3 := of_decide_eq_true m3
      rw [ok.nm] at m3
      subst m3
      rw [ok.tab] at m4
      obtain ⟨ld, hld⟩ := Option.isSome_iff_exists.mp m4
      exact ⟨⟨ok.kindOf m1, okN_1 m2, .inl (by rw [ok.mg]; exact (ok.exc d ld hld).mg)⟩, ld, hld⟩
    obtain ⟨N1, l1, e1⟩ := nn n1
    obtain ⟨N2, l2, e2⟩ := nn n2
    obtain ⟨N3, l3, e3⟩ := nn n3
    have one : ∀ {x : Exn} {H' : Hp} {cls : Value} {od : Option Addr} {lx : List Nat}, G.tab.exc x.c = some lx → ExRep G H' cls od x → PySem.W.exmAny X.K cls [.ref (G.eA d1), .ref (G.eA d2), .ref (G.eA d3)] = some (lx.contains d1 || (lx.contains d2 || lx.contains d3)) := fun {x H' cls od lx} e r => by
      have o : ∀ {d : Nat} {ld : List Nat}, G.tab.exc d = some ld → PySem.W.exmOne X.K cls (.ref (G.eA d)) = some (lx.contains d) := fun {d ld} hd => by
        rw [r.c, ok.K]
        exact ((ok.exc x.c lx e).kO lx e d ld hd).2
      simp only [PySem.W.exmAny, o e1, o e2, o e3, Bool.or_false]
    refine PS.imp (ps_try_tup3 (ts := fun _ _ _ => tSs G (fun _ _ _ _ => False) call su) (tb := fun W => tSs G W call b) hst hfr N1 N2 N3 ok.tk (fun W' pn xe tk pas => sSs (ok.tr h2 tk pas) b bd h3)
      (fun a oe cls od pn _ _ => sSs (ok.suO h2 a ((a, oe) :: pn)) su (s0 :: ss) h8)) fun D σ H ⟨W, env, S, sm, er, q⟩ => ⟨W, env, S, sm, er, try3_body q fun x env1 S1 q2 => ?_⟩
    rw [excIn_3 e1 e2 e3] at q2
    cases e : G.tab.exc x.c with
    | none => rw [e] at q2; exact (show False from q2).elim
    | some lx =>
      rw [e] at q2
      intro W' σ' cls od H' l s' e' r'
      have q2 : PostS G Wx W (match some (lx.contains d1 || (lx.contains d2 || lx.contains d3)) with
        | some true => (dSs G.tab call su env1 S1).noex
        | some false => .ex x env1 S1
        | none => .bad) D := q2
      refine ⟨_, one e r', fun hb a ha => ?_, fun hb => ?_⟩
      · rw [hb] at q2
        exact ⟨W', env1, S1, s', e', PostS.mono (post_noex q2) l⟩
      · rw [hb] at q2
        exact q2 W' σ' cls od H' l s' e' r'
  | .cont, st, h => by
    cases st with
    | Continue p => exact PS.imp ps_continue fun D σ H ⟨W, env, S, sm, er, q⟩ => q W σ H (.refl W) sm er
    | _ => cases h
  | .brk, st, h => by
    cases st with
    | Break p => exact PS.imp ps_break fun D σ H ⟨W, env, S, sm, er, q⟩ => q W σ H (.refl W) sm er
    | _ => cases h
theorem sSs {G : Gd} {C : Ck} {X : Cx} {Wx : WX} (ok : XOk G C X Wx k call) : ∀ (is : ISs) (sts : List Stmt), chkSs C is sts = true → PSs X sts (tSs G Wx call is)
  | .nil, [], _ => PSs.imp pss_nil fun D σ H ⟨W, env, S, sm, er, q⟩ => q W σ H (.refl W) sm er
  | .cons s ss, x :: xs, h => PSs.imp (pss_cons (sS ok s x (ba h).1) (sSs ok ss xs (ba h).2)) fun D σ H ⟨W, env, S, sm, er, q⟩ => ⟨W, env, S, sm, er, seq_st q⟩
  | .nil, _ :: _, h => by cases h
  | .cons _ _, [], h => by cases h
end
end
end Rw
namespace Rw
open PySem PySem.Spec PyProof.Rows L2 PySem.W
structure Tk {α : Type} (t : Sem α) : Prop where
  run : ∀ (M : Model) (Γ : PySem.Ctx) (Q : α → Pos → Shared → Prop) (E : Value → Pos → Shared → Prop) (p : Pos) (s : Shared), Sem.wp M Γ t Q E p s → Sem.wp M Γ t (fun a p' s' => 1 ≤ s'.toks ∧ Q a p' s') E p s
section
variable {α β : Type} {t : Sem α} {k : α → Sem β}
theorem Tk.bindL (h : Tk t) : Tk (t >>= k) := ⟨fun M Γ Q E p s q => by
  rw [Sem.wp_bind'] at q ⊢
  refine Sem.wp_mono M Γ _ (fun a p1 s1 h1 => ?_) (fun _ _ _ h => h) _ _ (h.run M Γ _ _ p s q)
  exact Sem.wp_mono M Γ _ (fun _ _ _ h => h) (fun _ _ _ h => h.2) _ _ (Sem.wp_toks M Γ 1 _ _ _ _ _ h1.1 h1.2)⟩
theorem Tk.bindR (h : ∀ a, Tk (k a)) : Tk (t >>= k) := ⟨fun M Γ Q E p s q => by
  rw [Sem.wp_bind'] at q ⊢
  exact Sem.wp_mono M Γ _ (fun a p1 s1 h1 => (h a).run M Γ Q E p1 s1 h1) (fun _ _ _ h => h) _ _ q⟩
theorem Tk.holding (vs : List Value) (h : Tk t) : Tk (holding vs t) := ⟨fun M Γ Q E p s q => by
  rw [Sem.wp_holding] at q ⊢
  exact h.run M Γ Q E p s q⟩
theorem Tk.any {M : Model} {A : Around} {Q : α → Shared → Prop} {E : Value → Shared → Prop} {s : Shared} (h : Tk t) (q : wpAny M A t Q E s) : wpAny M A t (fun a s' => 1 ≤ s'.toks ∧ Q a s') E s := fun Γ p hΓ => h.run M Γ _ _ p s (q Γ p hΓ)
end
theorem tk_fresh : Tk PySem.fresh := ⟨fun M Γ Q E p s q => by
  rw [Sem.wp_cmd_fresh] at q ⊢
  exact ⟨Nat.le_add_left _ _, q⟩⟩
theorem tk_int (i : Int) : Tk (mkInt i) := Tk.bindL tk_fresh
theorem tk_text (x : Str) : Tk (mkText x) := Tk.bindL tk_fresh
mutual
def mkE : Expr → Bool
  | .Constant (.int _) _ _ => true
  | .Constant (.str _) _ _ => true
  | .Call (.Name _ _) es [] _ => mkEs es && noStar es
  | _ => false
def mkEs : List Expr → Bool
  | [] => false
  | e :: es => mkE e || mkEs es
end
theorem tk_evalArgs {f : Value} {b : Bool} {x : Sem Value} {args : List (Bool × Sem Value)} {kw : List (Option Str × Sem Value)} (h : Tk (spliced ((false, x) :: args))) : Tk (evalArgs f b ((false, x) :: args) kw) := by
  unfold evalArgs
  cases b with
  | false => exact Tk.bindL h
  | true => exact Tk.bindL h
theorem tk_callWith {pos : Pos} {f : Value} {x : Sem Value} {args : List (Bool × Sem Value)} {kw : List (Option Str × Sem Value)} (h : Tk (spliced ((false, x) :: args))) : Tk (callWith pos f [] ((false, x) :: args) kw) := by
  unfold callWith
  exact Tk.bindL (Tk.holding _ (tk_evalArgs h))
theorem tk_spL {x : Sem Value} {args : List (Bool × Sem Value)} (h : Tk x) : Tk (spliced ((false, x) :: args)) := by
  unfold spliced
  exact Tk.bindL h
theorem tk_spR {x : Sem Value} {args : List (Bool × Sem Value)} (h : Tk (spliced args)) : Tk (spliced ((false, x) :: args)) := by
  unfold spliced
  refine Tk.bindR fun v => ?_
  rw [if_neg Bool.false_ne_true]
  exact Tk.bindR fun here => Tk.bindL (Tk.holding _ h)
mutual
theorem mkE_ok (env : PySem.Env) : ∀ e : Expr, mkE e = true → Tk (eval e env)
  | .Constant (.int i) _ _, _ => tk_int i
  | .Constant (.str x) _ _, _ => tk_text x
  | .Call (.Name n p) es [] pos, h => by
    obtain ⟨h1, h2⟩ := ba h
    have z := mkEs_ok env pos es h1 h2
    cases es with
    | nil => cases h1
    | cons e es =>
      rw [arm_eval_Call_Name']
      refine Tk.bindR fun f => ?_
      rw [star_cons env (nb (ba h2).1)] at z ⊢
      exact tk_callWith z
theorem mkEs_ok (env : PySem.Env) (pos : Pos) : ∀ es : List Expr, mkEs es = true → noStar es = true → Tk (spliced (backTo pos (starEach es env)))
  | [], h, _ => by cases h
  | e :: es, h, h2 => by
    have z1 := mkE_ok env e
    have z2 := mkEs_ok env pos es
    rw [star_cons env (nb (ba h2).1)]
    rcases Bool.or_eq_true_iff.mp (show (mkE e || mkEs es) = true from h) with h | h
    · exact tk_spL (x := eval e env) (args := backTo pos (starEach es env)) (z1 h)
    · exact tk_spR (x := eval e env) (args := backTo pos (starEach es env)) (z2 h (ba h2).2)
end
def mkB : Stmt → Bool
  | .Assign [.Name _ _] v _ => mkE v && !isLc v
  | _ => false
theorem mkB_ok {st : Stmt} (env : PySem.Env) (h : mkB st = true) : Tk (exec st env) := by
  cases st with
  | Assign ts v p =>
    match ts, h with
    | [.Name x px], h =>
      obtain ⟨h1, h2⟩ := ba h
      rw [arm_exec_Assign]
      have ev := mkE_ok env v h1
      refine Tk.bindR fun _ => Tk.bindR fun c => ?_
      cases c with
      | false => exact Tk.bindL ev
      | true =>
        refine Tk.bindL ?_
        cases v with
        | ListComp _ _ _ _ => cases h2
        | Constant c _ _ => exact ⟨fun _ _ _ _ _ _ q => q.elim⟩
        | Call f es kw p2 => exact ⟨fun _ _ _ _ _ _ q => q.elim⟩
        | _ => cases h1
  | _ => cases h
def rpP : Expr → Option (Expr × Str × Str)
  | .Call (.Attribute a n ap) [.Constant (.str y) _ _, .Constant (.str z) _ _] [] cp => if decide (n = ("replace" : Str)) && (ap.endLine == cp.line) then some (a, y, z) else none
  | _ => none
theorem rpP_ok {e a : Expr} {y z : Str} (h : rpP e = some (a, y, z)) : ∃ ap j c0 k c1 cp, e = .Call (.Attribute a "replace" ap) [.Constant (.str y) j c0, .Constant (.str z) k c1] [] cp ∧ (ap.endLine == cp.line) = true := by
  unfold rpP at h
  split at h
  · split at h
    · rename_i c
      obtain ⟨c1, c2⟩ := Bool.and_eq_true_iff.mp c
      have c1 := of_decide_eq_true c1
      subst c1
      cases h
      exact ⟨_, _, _, _, _, _, rfl, c2⟩
    · cases h
  · cases h
def clP : Expr → Option (Str × Expr × List Expr)
  | .Call (.Name x _) (y :: ys) [] _ => some (x, y, ys)
  | _ => none
theorem clP_ok {e y : Expr} {x : Str} {ys : List Expr} (h : clP e = some (x, y, ys)) : ∃ p q, e = .Call (.Name x p) (y :: ys) [] q := by
  unfold clP at h
  split at h
  · cases h
    exact ⟨_, _, rfl⟩
  · cases h
def chkET (C : Ck) : Nat → IE → Expr → Bool
  | 0, _, _ => false
  | n + 1, ie, e => chkE C ie e || (match ie with
    | .repl a y z => (match rpP e with
      | some (o, y2, z2) => decide (y = y2) && (decide (z = z2) && (!(y == z) && (!isSup o && chkET C n a o)))
      | none => false)
    | .call f (.cons a es) => (match clP e with
      | some (x, y, ys) => glB C.sc x && (okN x && (decide (x = C.nm.fnN f) && (chkET C n a y && (chkEs C es ys && (noStar (y :: ys) && (arity C.tab f (y :: ys).length && (C.glF f && C.calm)))))))
      | none => false)
    | _ => false)
theorem PET.imp {X : Cx} {e : Expr} {t t' : TE} (h : PET X e t) (f : ∀ σ H Q, t' σ H Q → t σ H Q) : PET X e t' := fun pins s σ H Q h0 I q => h pins s σ H Q h0 I (f σ H Q q)
theorem PAT.imp {X : Cx} {es : List Expr} {t t' : TA} (h : PAT X es t) (f : ∀ σ H Q, t' σ H Q → t σ H Q) : PAT X es t' := fun pos pins s σ H Q h0 I q => h pos pins s σ H Q h0 I (f σ H Q q)
theorem PAT.of {X : Cx} {es : List Expr} {t : TA} (h : PA X es t) : PAT X es t := fun pos pins s σ H Q _ I q => h.run pos pins s σ H Q I q
section
variable {G : Gd} {C : Ck} {X : Cx} {Wx : WX} {k : Nat} {call : Call} {W : Wd} {S : Store} {H : Hp} {σ : L2.St} {env : Env} {Q : VK}
theorem pet_def (ok : XOk G C X Wx k call) (hc : C.calm = true) {f : Nat} {e : Expr} {es : List Expr} {p pos : Pos} {ies : IEs} (hg : Gl X (G.nm.fnN f)) (hgl : C.glF f = true) (har : arity C.tab f (e :: es).length = true) (ha : PAT X (e :: es) (tEs G Wx call ies)) (hs : noStar (e :: es) = true)
    (hl : ies.len = (e :: es).length) (n2 : (G.nm.fnN f == ("__debug__" : Str)) = false) :
    PET X (.Call (.Name (G.nm.fnN f) p) (e :: es) [] pos) (tE G Wx call (.call f ies)) := by
  intro pins s σ H Q h0 I ⟨W, env, S, sm, er, h⟩
  have h : PostV G Wx σ W ((dEs G.tab call ies env S).bind fun vs S => call f vs S) Q := h
  unfold arity at har
  rw [ok.tab] at har
  cases hd : G.tab.fn f with
  | none => rw [hd] at har; cases har
  | some d =>
    rw [hd] at har
    obtain ⟨har, a0⟩ := ba har
    obtain ⟨a1, a2⟩ := ba har
    obtain ⟨run, hcall, ⟨fd, ps, F, B⟩⟩ := ok.fns hc f d hd (nb a0)
    obtain ⟨ds, dvs, hb, hv, hr⟩ := B _ (of_decide_eq_true a1) (of_decide_eq_true a2)
    obtain ⟨g1, g2⟩ := ok.gl f hgl
    have F' : FnOk X.prog X.w X.K X.mg X.base (L2.CX X.prog X.w) k (G.fA f) fd ps (spR G d.np run) := by
      rw [ok.prog, ok.w, ok.K, ok.mg]
      exact F
    refine wpAny_Call_Name_kw (ld_glob I hg (by rw [ok.mg]; exact g1) ?_ n2)
    refine PySem.W.callWith_K (h₀ := X.base) I.ok.mod.kin (by rw [ok.K]; exact g2) (thn (ha pos pins s σ H _ h0 I (Den.step h sm er fun vs S1 W1 xs H1 e1 l1 s1 n1 r1 p1 => (show (fun xs H1 => spR G d.np run (xs ++ dvs) H1 Q (fun c o H => WE Wx σ c o H)) xs H1 from ?_))) fun us s1 ⟨vs, H1, I1, r, q⟩ => ⟨I1.kIn, run_fnSD F' ((ok.room hc).mono (Nat.le_succ k)) (by rw [ok.K]; exact hb) hv (passAt ok.tk σ) I1 r q⟩) (star_cons X.env (nb (ba hs).1)) (star_any (ba hs).2)
    rw [hcall] at p1
    have hlen : vs.length = (e :: es).length := (dEs_len e1).trans hl
    rw [hlen] at p1
    have rr : Paired (RepV G W1) (xs ++ dvs) (vs ++ dflV d (e :: es).length) := by
      have app : ∀ {as : List V} {bs : List Val}, Paired (RepV G W1) as bs → Paired (RepV G W1) (as ++ dvs) (bs ++ dflV d (e :: es).length) := fun {as bs} h => by
        induction h with
        | nil => exact hr W1
        | cons r _ ih => exact .cons r ih
      exact app r1
    refine ⟨W1, S1, _, s1, rr, ?_, post_E p1⟩
    unfold dflV
    rw [List.length_append, hlen, List.length_map, List.length_drop]
    have := of_decide_eq_true a1
    have := of_decide_eq_true a2
    omega
theorem replV_ok {v : Val} {x : V} {y z : Str} (r : RepV G W x v) (s : Sim G W S H) (p : PostV G Wx σ W (replV v y z S) Q) : ∃ t, x = .str t ∧ t.length + (t.length + 1) * z.length ≤ 16777216 ∧ Q (.str (Txt.replace t y z)) H := by
  cases v with
  | r n => exact (show False from p).elim
  | t u =>
    cases u with
    | str t =>
      have r : Rep G W.F x (.str t) := r
      cases r
      have p : PostV G Wx σ W (if t.length + (t.length + 1) * z.length ≤ 16777216 then R.ok (.t (.str (Txt.replace t y z))) S else .bad) Q := p
      split at p
      · rename_i c
        exact ⟨t, rfl, c, post_t p s (.str _)⟩
      · exact (show False from p).elim
    | _ => exact (show False from p).elim
theorem sET (ok : XOk G C X Wx k call) : ∀ (n : Nat) (ie : IE) (e : Expr), chkET C n ie e = true → PET X e (tE G Wx call ie)
  | 0, _, _, h => by cases h
  | n + 1, ie, e, h => by
    unfold chkET at h
    rcases Bool.or_eq_true_iff.mp h with h | h
    · exact fun pins s σ H Q _ I q => (sE ok ie e h).run pins s σ H Q I q
    cases ie with
    | repl a y z =>
      have h : (match rpP e with
        | some (o, y2, z2) => decide (y = y2) && (decide (z = z2) && (!(y == z) && (!isSup o && chkET C n a o)))
        | none => false) = true := h
      cases q : rpP e with
      | none => rw [q] at h; cases h
      | some p =>
        obtain ⟨o, y2, z2⟩ := p
        rw [q] at h
        obtain ⟨h1, h⟩ := ba h
        obtain ⟨h2, h⟩ := ba h
        obtain ⟨h3, h⟩ := ba h
        obtain ⟨h4, h5⟩ := ba h
        have h1 := of_decide_eq_true h1
        have h2 := of_decide_eq_true h2
        subst h1
        subst h2
        obtain ⟨ap, j, c0, kk, c1, cp, rfl, hl⟩ := rpP_ok q
        exact PET.imp (CwR.pet_replT (sET ok n a o h5) (nb h3) rfl (abase (nb h4)) hl) fun σ H Q ⟨W, env, S, sm, er, q⟩ => Den.step q sm er fun v S1 W1 x H1 e1 l1 s1 n1 r1 p1 => replV_ok r1 s1 p1
    | call f es =>
      cases es with
      | nil => cases h
      | cons a es =>
        have h : (match clP e with
          | some (x, y, ys) => glB C.sc x && (okN x && (decide (x = C.nm.fnN f) && (chkET C n a y && (chkEs C es ys && (noStar (y :: ys) && (arity C.tab f (y :: ys).length && (C.glF f && C.calm)))))))
          | none => false) = true := h
        cases q : clP e with
        | none => rw [q] at h; cases h
        | some p =>
          obtain ⟨x, y, ys⟩ := p
          rw [q] at h
          obtain ⟨h1, h⟩ := ba h
          obtain ⟨h2, h⟩ := ba h
          obtain ⟨h3, h⟩ := ba h
          obtain ⟨h4, h⟩ := ba h
          obtain ⟨h5, h⟩ := ba h
          obtain ⟨h6, h⟩ := ba h
          obtain ⟨h7, h⟩ := ba h
          obtain ⟨h8, h9⟩ := ba h
          obtain ⟨p, q, rfl⟩ := clP_ok q
          have h3 := of_decide_eq_true h3
          rw [ok.nm] at h3
          subst h3
          have ha : PAT X (y :: ys) (tEs G Wx call (.cons a es)) := PAT.imp (pat_cons (sET ok n a y h4) (PAT.of (sEs ok es ys h5 (ba h6).2)) (star_cons X.env (nb (ba h6).1))) fun σ H Q ⟨W, env, S, sm, er, q⟩ =>
            Den.step q sm er fun v S1 W1 x H1 e1 l1 s1 n1 r1 p1 => Den.step p1 s1 n1 fun ws S2 W2 ys H2 e2 l2 s2 n2 r2 p2 => Post.ok (rep := fun W => Paired (RepV G W)) p2 s2 (.cons (r1.mono l2) r2)
          have hlen : (IEs.cons a es).len = (y :: ys).length := by
            have z := chkEs_len h5
            show es.len + 1 = ys.length + 1
            omega
          exact pet_def ok h9 (ok.kindOf h1) h8 h7 ha h6 hlen (okN_1 h2)
    | _ => cases h
def ifP : Stmt → Option (Expr × List Stmt × List Stmt)
  | .If (.UnaryOp .Not e _) a b _ => some (e, a, b)
  | _ => none
theorem ifP_ok {st : Stmt} {e : Expr} {a b : List Stmt} (h : ifP st = some (e, a, b)) : ∃ p q, st = .If (.UnaryOp .Not e p) a b q := by
  unfold ifP at h
  split at h
  · cases h
    exact ⟨_, _, rfl⟩
  · cases h
def chkST (C : Ck) (s : IS) (st : Stmt) : Bool := chkS C s st || (match s with
  | .ife (.not (.val e)) a b => (match ifP st with
    | some (x, sa, sb) => chkET C 6 e x && (plainT x && (chkSs C a sa && chkSs C b sb))
    | none => false)
  | _ => false)
def chkSsT (C : Ck) : ISs → List Stmt → Bool
  | .nil, [] => true
  | .cons s ss, x :: xs => chkST C s x && chkSsT C ss xs
  | _, _ => false
def chkB (C : Ck) (ss : ISs) (xs : List Stmt) : Bool := chkSs C ss xs || (match ss, xs with
  | .cons s ss, x :: xs => chkS C s x && (mkB x && chkSsT C ss xs)
  | _, _ => false)
theorem PST.imp {st : Stmt} {t t' : TS} (h : PST X st t) (f : ∀ D σ H, t' D σ H → t D σ H) : PST X st t' := fun pins s σ H D h0 I q => h pins s σ H D h0 I (f D σ H q)
theorem PSsT.imp {st : List Stmt} {t t' : TS} (h : PSsT X st t) (f : ∀ D σ H, t' D σ H → t D σ H) : PSsT X st t' := fun pins s σ H D h0 I q => h pins s σ H D h0 I (f D σ H q)
def PTT (X : Cx) (e : Expr) (t : TT) : Prop := ∀ (pins : List (Addr × Obj)) (s : Shared) (σ : L2.St) (H : Hp) (Q : Bool → Hp → Prop), 1 ≤ s.toks → Inv X pins σ H s → t σ H Q → wpAny (model X.prog X.w) X.A (isTrue e X.env (eval e X.env)) (TP X pins σ Q) X.xe s
theorem PTT.imp {e : Expr} {t t' : TT} (h : PTT X e t) (f : ∀ σ H Q, t' σ H Q → t σ H Q) : PTT X e t' := fun pins s σ H Q h0 I q => h pins s σ H Q h0 I (f σ H Q q)
theorem ptt_truth {a : Expr} {ta : TE} (ha : PET X a ta) (he : ∀ whole, isTrue a X.env whole = (do let v ← whole; standAt a.pos; PySem.holding [v] (truthy v))) : PTT X a (fun σ H Q => ta σ H fun x H' => ∃ k, TruV X.K x H' k ∧ Q k H') := by
  intro pins s σ H Q h0 I h
  exact isTrue_plain (thn (ha pins s σ H _ h0 I h) fun v s1 ⟨x, H1, I1, r1, q1⟩ => tru_ok pins s1 σ H1 x v Q I1 r1 q1) (he _)
theorem ptt_not {a : Expr} {pos : Pos} {t : TT} (ha : PTT X a t) : PTT X (.UnaryOp .Not a pos) (tNot t) := by
  intro pins s σ H Q h0 I h
  exact isTrue_not (ha pins s σ H (fun c H1 => Q (!c) H1) h0 I h)
theorem pst_ifT {c : Expr} {a b : List Stmt} {pos : Pos} {tc : TT} {t u : TS} (hc : PTT X c tc) (ha : PSs X a t) (hb : PSs X b u) : PST X (.If c a b pos) (tIfS tc t u) := by
  intro pins s σ H D h0 I h
  refine wpAny_If (thn (hc pins s σ H _ h0 I h) fun d s1 ⟨H1, I1, q1⟩ => ?_)
  cases d with
  | true => exact ha.run pins s1 σ H1 D I1 q1
  | false => exact hb.run pins s1 σ H1 D I1 q1
theorem sST (ok : XOk G C X Wx k call) (s : IS) (st : Stmt) (h : chkST C s st = true) : PST X st (tS G Wx call s) := by
  unfold chkST at h
  rcases Bool.or_eq_true_iff.mp h with h | h
  · exact PST.of (sS ok s st h)
  cases s with
  | ife t a b =>
    cases t with
    | not t =>
      cases t with
      | val e =>
        have h : (match ifP st with
          | some (x, sa, sb) => chkET C 6 e x && (plainT x && (chkSs C a sa && chkSs C b sb))
          | none => false) = true := h
        cases q : ifP st with
        | none => rw [q] at h; cases h
        | some p =>
          obtain ⟨x, sa, sb⟩ := p
          rw [q] at h
          obtain ⟨h1, h⟩ := ba h
          obtain ⟨h2, h⟩ := ba h
          obtain ⟨h3, h4⟩ := ba h
          obtain ⟨p, q, rfl⟩ := ifP_ok q
          have hc : PTT X x (tB G Wx call (.val e)) := PTT.imp (ptt_truth (sET ok 6 e x h1) (plainT_ok h2)) fun σ H Q ⟨W, env, S, sm, er, q⟩ => Den.step q sm er fun v S1 W1 x H1 e1 l1 s1 n1 r1 p1 => by rw [ok.K]; exact tru_post p1 s1 r1
          have hn : PTT X (.UnaryOp .Not x p) (tB G Wx call (.not (.val e))) := PTT.imp (ptt_not hc) fun σ H Q ⟨W, env, S, sm, er, q⟩ => Den.step q sm er fun v S1 W1 b1 H1 e1 l1 s1 n1 r1 p1 => by
            have r1 : b1 = v := r1
            subst r1
            exact Post.ok (rep := fun _ (b k : Bool) => b = k) p1 s1 rfl
          refine PST.imp (pst_ifT hn (sSs ok a sa h3) (sSs ok b sb h4)) fun D σ H ⟨W, env, S, sm, er, q⟩ => Den.stepS q sm er fun v S1 W1 b1 H1 e1 l1 s1 n1 r1 p1 => ?_
          have r1 : b1 = v := r1
          subst r1
          cases b1 with
          | true => exact iteT ⟨W1, env, S1, s1, n1, p1⟩
          | false => exact iteF ⟨W1, env, S1, s1, n1, p1⟩
      | _ => cases h
    | _ => cases h
  | _ => cases h
theorem sSsT (ok : XOk G C X Wx k call) : ∀ (is : ISs) (sts : List Stmt), chkSsT C is sts = true → PSsT X sts (tSs G Wx call is)
  | .nil, [], _ => PSsT.of (sSs ok .nil [] rfl)
  | .cons s ss, x :: xs, h => PSsT.imp (psst_cons (sST ok s x (ba h).1) (sSsT ok ss xs (ba h).2)) fun D σ H ⟨W, env, S, sm, er, q⟩ => ⟨W, env, S, sm, er, seq_st q⟩
  | .nil, _ :: _, h => by cases h
  | .cons _ _, [], h => by cases h
theorem pss_mk {st : Stmt} {rest : List Stmt} {t u : TS} (h1 : PS X st t) (hm : Tk (exec st X.env)) (h2 : PSsT X rest u) : PSs X (st :: rest) (tSeq t u) := by
  refine ⟨fun pins s σ H D I h => ?_⟩
  refine wpAny_execs_cons (thn (hm.any (h1.run pins s σ H { D with nx := u D } I h)) (fun f s1 q => ?_))
  obtain ⟨hk, q⟩ := q
  cases f with
  | next =>
    obtain ⟨σ', H', I', q⟩ := q
    exact h2 pins s1 σ' H' D hk I' q
  | ret v => exact q
  | brk => exact q
  | cont => exact q
theorem sBody (ok : XOk G C X Wx k call) (is : ISs) (sts : List Stmt) (h : chkB C is sts = true) : PSs X sts (tSs G Wx call is) := by
  unfold chkB at h
  rcases Bool.or_eq_true_iff.mp h with h | h
  · exact sSs ok is sts h
  cases is with
  | nil => cases h
  | cons s ss =>
    cases sts with
    | nil => cases h
    | cons x xs =>
      obtain ⟨h1, h⟩ := ba h
      obtain ⟨h2, h3⟩ := ba h
      exact PSs.imp (pss_mk (sS ok s x h1) (mkB_ok X.env h2) (sSsT ok ss xs h3)) fun D σ H ⟨W, env, S, sm, er, q⟩ => ⟨W, env, S, sm, er, seq_st q⟩
end
end Rw
namespace Rw
open PySem PySem.Spec PyProof.Rows L2
theorem locB_ok {sc : Scope} {x : Str} (h : locB sc x = true) : L2.Loc sc x := by
  unfold locB at h
  unfold L2.Loc
  cases q : sc.names.lookup x with
  | none => rw [q] at h; cases h
  | some k =>
    rw [q] at h
    cases k with
    | «local» => exact .inl rfl
    | cell => exact .inr rfl
    | _ => cases h
def ckOf (hot : Bool) (N : List Str) (sc : Scope) (nm : Nm) (tab : Tab) (glF : Nat → Bool) : Ck := ⟨N, sc, nm, tab, glF, !hot, locB sc, true, if hot then some 0 else none⟩
structure GOk (G : Gd) (glF : Nat → Bool) : Prop where
  free : ∀ x : Str, x ∈ ["len", "int", "str", "min", "max", "abs", "list", "tuple", "all", "any", "sum", "divmod", "sorted", "bool", "isinstance", "range", "enumerate", "zip", "dict", "set", "ValueError"].map Str.ofString → G.mg x = none
  gl : ∀ f, glF f = true → G.mg (G.nm.fnN f) = some (.ref (G.fA f)) ∧ PySem.W.keepIn G.K (.ref (G.fA f)) = true
  cls : ∀ (c : Nat) (cl : Cl), G.tab.cl c = some cl → ClsFact G c cl
  okf : ∀ f g, f < G.nAt → g < G.nAt → G.nm.atN f = G.nm.atN g → f = g
  con : ∀ g t, G.tab.con g = some t → ∃ v u, G.mg (G.nm.coN g) = some u ∧ RelV v u ∧ (∀ F, Rep G F v t) ∧ ∀ ts, t = .tup ts → ∃ p o, v = .ref p ∧ G.K.lookup p = some o ∧ o.cls = .type "tuple" ∧ o.dict = none
  exc : ∀ c l, G.tab.exc c = some l → ExcFact G c
  dc : ∀ g kvs, G.tab.dc g = some kvs → DcFact G g kvs
  xa : ∀ c g f, G.tab.exa c = some (g, f) → InitX G c g f
theorem env_start {G : Gd} {W : Wd} {N : List Str} {vs : List V} {ds : List Val} {np ns : Nat} (r : Paired (RepV G W) vs ds) (hl : ds.length = np) (hn : N.length = ns) : EnvRep G W (L2.start N vs) (ds.map some ++ List.replicate (ns - np) none) := by
  have l2 := Paired.length r
  refine ⟨?_, fun i v e => ?_⟩
  · unfold L2.start
    rw [List.length_append, List.length_map, List.length_replicate, List.length_append, List.length_map, List.length_replicate, l2, hn, hl]
  · have hi : i < ds.length := by
      by_cases hi : i < ds.length
      · exact hi
      · rw [List.getElem?_append_right (by simpa using hi), List.getElem?_replicate] at e
        split at e <;> cases e
    rw [List.getElem?_append_left (by simpa using hi), List.getElem?_map] at e
    cases q : ds[i]? with
    | none => rw [q] at e; cases e
    | some d =>
      rw [q] at e
      cases e
      obtain ⟨x, h1, h2⟩ := Paired.get r q
      refine ⟨x, ?_, .inl h2⟩
      unfold L2.start
      rw [List.getElem?_append_left (by rw [List.length_map, l2]; exact hi), List.getElem?_map, h1]
      rfl
section
variable {G : Gd} {W W1 : Wd} {S S1 : Store} {H H1 : Hp}
def Wd.inner (W : Wd) (H : Hp) : Wd := ⟨W.F, H, 0, fun _ => 0⟩
theorem Sim.inner (s : Sim G W S H) : Sim G (W.inner H) [] H where
  fz := s.fz
  len := rfl
  live := fun k c e => by simp at e
  inj := fun j k c d e => by simp at e
  fr := Same.refl _
def Wd.outer (W : Wd) (F : Hp) : Wd := { W with F := F }
theorem outer_le (s : Sim G W S H) (l : (W.inner H).le W1) {F : Hp} (hF : Same W1.F F) (hn : ∀ a o, F a = some o → W1.F a = some o ∨ H a = none) : W.le (W.outer F) where
  f := fun a o e => hF a o (l.f a o e)
  new := fun a o e => by
    rcases hn a o e with h | h
    · rcases l.new a o h with h | h
      · exact .inl h
      · exact .inr (s.fr.free h)
    · exact .inr (s.fr.free h)
  b := rfl
  n := Nat.le_refl _
  at_ := fun _ _ => rfl
theorem outer_sim (s : Sim G W S H) (l : (W.inner H).le W1) (s1 : Sim G W1 S1 H1) {F : Hp} (hF : Same W1.F F) (hn : ∀ a o, F a = some o → W1.F a = some o ∨ H a = none) (hH : Same F H1) : Sim G (W.outer F) S H1 where
  fz := hH
  len := s.len
  live := fun k c e d => by
    obtain ⟨h1, h2, o, h3, h4⟩ := s.live k c e d
    refine ⟨?_, h2, o, s1.fr _ _ (by rw [l.b]; exact h3), h4.mono (outer_le s l hF hn)⟩
    show F (W.at_ k) = none
    cases q : F (W.at_ k) with
    | none => rfl
    | some u =>
      rcases hn _ _ q with z | z
      · rcases l.new _ _ z with z | z
        · have z : W.F (W.at_ k) = some u := z
          rw [h1] at z
          cases z
        · have z : H (W.at_ k) = none := z
          rw [h3] at z
          cases z
      · rw [h3] at z
        cases z
  inj := s.inj
  fr := fun a o e => s1.fr a o (by rw [l.b]; exact s.fr a o e)
end
section
variable {G : Gd} {W : Wd} {S : Store} {H : Hp} {Q : VK} {E : XK} {d : Fn} {call : Call} {vs : List V} {ds : List Val} {N : List Str}
theorem run_body0 {σ : L2.St} (h : Post G (RepV G) (fun c o _ H => E c o H) [] W (runFn G.tab call d ds S) Q) (s : Sim G W S H) (hl : ds.length = d.np) (er : EnvRep G W σ (ds.map some ++ List.replicate (d.ns - d.np) none))
    (er2 : ∀ xs, allT ds = some xs → EnvRep G (W.inner H) σ (ds.map some ++ List.replicate (d.ns - d.np) none)) :
    tSs G (fun c o _ H => E c o H) call d.body { nx := fun _ H' => Q .non H', rt := Q } σ H := by
  unfold runFn at h
  rw [if_pos hl] at h
  cases hp : d.pure with
  | false =>
    rw [hp] at h
    refine ⟨W, _, S, s, er, ?_⟩
    have h : Post G (RepV G) (fun c o _ H => E c o H) [] W (match dSs G.tab call d.body (ds.map some ++ List.replicate (d.ns - d.np) none) S with
      | .nx _ S1 => .ok (.t .non) S1
      | .rt v S1 => .ok v S1
      | .ex x _ S1 => .ex x S1
      | _ => .bad) Q := h
    cases q : dSs G.tab call d.body (ds.map some ++ List.replicate (d.ns - d.np) none) S with
    | nx env S1 =>
      rw [q] at h
      exact fun W' σ H' l s' _ => h W' .non H' l s' .non
    | rt v S1 =>
      rw [q] at h
      exact fun W' x H' l s' r' => h W' x H' l s' r'
    | ex x env S1 =>
      rw [q] at h
      exact fun W' σ cls od H' l s' _ e' => h W' cls od H' l s' e'
    | bk env S1 => rw [q] at h; exact h.elim
    | ct env S1 => rw [q] at h; exact h.elim
    | bad => rw [q] at h; exact h.elim
  | true =>
    rw [hp] at h
    cases ha : allT ds with
    | none => rw [ha] at h; exact (show False from h).elim
    | some xs =>
      rw [ha] at h
      have h : Post G (RepV G) (fun c o _ H => E c o H) [] W (match dSs G.tab call d.body (ds.map some ++ List.replicate (d.ns - d.np) none) [] with
        | .nx _ _ => .ok (.t .non) S
        | .rt v S1 => (match toT S1 v with
          | some (x, _) => .ok (.t x) S
          | none => .bad)
        | .ex x _ _ => .ex x S
        | _ => .bad) Q := h
      refine ⟨W.inner H, _, [], s.inner, er2 xs ha, ?_⟩
      cases q : dSs G.tab call d.body (ds.map some ++ List.replicate (d.ns - d.np) none) [] with
      | nx env S1 =>
        rw [q] at h
        exact fun W' σ H' l s' _ => h (W.outer W'.F) .non H' (outer_le s l (Same.refl _) fun a o e => .inl e) (outer_sim s l s' (Same.refl _) (fun a o e => .inl e) s'.fz) .non
      | rt v S1 =>
        rw [q] at h
        have h : Post G (RepV G) (fun c o _ H => E c o H) [] W (match toT S1 v with
          | some (x, _) => .ok (.t x) S
          | none => .bad) Q := h
        intro W' x H' l s' r'
        cases v with
        | t t => exact h (W.outer W'.F) x H' (outer_le s l (Same.refl _) fun a o e => .inl e) (outer_sim s l s' (Same.refl _) (fun a o e => .inl e) s'.fz) r'
        | r n =>
          obtain ⟨hn2, ex⟩ := r'
          subst ex
          cases q2 : toT S1 (.r n) with
          | none => rw [q2] at h; exact h.elim
          | some p =>
            obtain ⟨t, S2⟩ := p
            rw [q2] at h
            obtain ⟨o, ho, l2, s2, rt, hb⟩ := toT_bury s' q2
            have hB : H (W'.at_ n) = none := by
              have z : W'.B (W'.at_ n) = none := hb
              rw [l.b] at z
              exact z
            have hn3 : ∀ a u, upd W'.F (W'.at_ n) o a = some u → W'.F a = some u ∨ H a = none := fun a u e => by
              by_cases z : a = W'.at_ n
              · exact .inr (by rw [z]; exact hB)
              · rw [upd_ne z] at e
                exact .inl e
            exact h (W.outer (upd W'.F (W'.at_ n) o)) _ H' (outer_le s l l2.f hn3) (outer_sim s l s' l2.f hn3 s2.fz) rt
      | ex x env S1 =>
        rw [q] at h
        exact fun W' σ cls od H' l s' _ e' => h (W.outer W'.F) cls od H' (outer_le s l (Same.refl _) fun a o e => .inl e) (outer_sim s l s' (Same.refl _) (fun a o e => .inl e) s'.fz) e'
      | bk env S1 => rw [q] at h; exact h.elim
      | ct env S1 => rw [q] at h; exact h.elim
      | bad => rw [q] at h; exact h.elim
theorem run_body (h : Post G (RepV G) (fun c o _ H => E c o H) [] W (runFn G.tab call d ds S) Q) (s : Sim G W S H) (r : Paired (RepV G W) vs ds) (hl : ds.length = d.np) (hn : N.length = d.ns) :
    tSs G (fun c o _ H => E c o H) call d.body { nx := fun _ H' => Q .non H', rt := Q } (L2.start N vs) H :=
  run_body0 h s hl (env_start r hl hn) fun xs ha => by
    have r2 : Paired (RepV G (W.inner H)) vs ds := by
      have rl := allT_rep r ha
      have go : ∀ {vs : List V} {ds : List Val} {xs : List T}, Paired (RepV G W) vs ds → allT ds = some xs → Paired (RepV G (W.inner H)) vs ds := fun {vs ds xs} r => by
        induction r generalizing xs with
        | nil => exact fun _ => .nil
        | @cons a b l1 l2 ra _ ih =>
          intro e
          cases b with
          | r n => cases e
          | t x =>
            obtain ⟨ys, e2, _⟩ := Option.map_eq_some_iff.mp (show (allT l2).map (x :: ·) = some xs from e)
            exact .cons (show Rep G W.F a x from ra) (ih e2)
      exact go r ha
    exact env_start r2 hl hn
theorem env_hot {G : Gd} {W : Wd} {N : List Str} {a : Addr} {c : HC} {ns : Nat} {fs : List (Nat × T)} (hG : G.hs = some (0, a, c)) (hf : ExF G W.F c.1 c.2 fs) (hn : N.length = ns) : EnvRep G W (L2.start N [.ref a]) ([Val.t (.exn c.1 fs)].map some ++ List.replicate (ns - 1) none) := by
  refine ⟨?_, fun i v e => ?_⟩
  · unfold L2.start
    rw [List.length_append, List.length_map, List.length_replicate, List.length_append, List.length_map, List.length_replicate, hn]
    rfl
  · cases i with
    | succ i =>
      rw [List.getElem?_append_right (by simp)] at e
      rw [List.getElem?_replicate] at e
      split at e <;> cases e
    | zero =>
      cases e
      exact ⟨.ref a, rfl, .inr ⟨a, c, fs, hG, rfl, rfl, hf⟩⟩
end
structure DefOk (G : Gd) (glF : Nat → Bool) (f : Nat) (d : Fn) : Prop where
  ex : ∃ (x qual : Str) (params : Arguments) (body : List Stmt) (scope : Scope) (dvs : List V) (fd : FuncData) (N ps : List Str), FunD G.K x qual params body scope dvs [] (G.fA f) fd ∧ FnScope N ps scope ∧
    ps.length = d.np ∧ N.length = d.ns ∧ chkB (ckOf d.hot N scope G.nm G.tab glF) d.body body = true ∧
    ∀ m, m ≤ d.np → d.np - m ≤ d.dfl.length → ∃ (ds : List Value) (es : List V), Binds G.K fd ps ds ∧ Vals es ds ∧ ∀ W, Paired (RepV G W) es (dflV d m)
structure Callees (G : Gd) (base : Heap) (k : Nat) (call : Call) : Prop where
  a : ∀ (f : Nat) (d : Fn), G.tab.fn f = some d → d.hot = false → ∃ run : List Val → Store → R Val, (∀ vs S, call f vs S = run (vs ++ dflV d vs.length) S) ∧ FnFact G base k f d run
  b : ∀ (f : Nat) (d : Fn), G.tab.fn f = some d → d.hot = true → ∃ run : List Val → Store → R Val, (∀ vs S, call f vs S = run (vs ++ dflV d vs.length) S) ∧ HotFact G base k f d run
theorem fn_ok_of {G : Gd} (hG : G.hs = none) {glF : Nat → Bool} {base : Heap} {k : Nat} {call : Call} {d : Fn} {x qual : Str} {params : Arguments} {body : List Stmt} {scope : Scope} {dvs : List V} {fd : FuncData} {N ps : List Str} {f : Addr} (g : GOk G glF) (F : FunD G.K x qual params body scope dvs [] f fd) (Sc : FnScope N ps scope)
    (hk : 0 < k) (hps : ps.length = d.np) (hN : N.length = d.ns) (hc : chkB (ckOf false N scope G.nm G.tab glF) d.body body = true) (fns : Callees G base k call) :
    FnOk G.prog G.w G.K G.mg base (L2.CX G.prog G.w) (k + 2) f fd ps (spR G d.np (runFn G.tab call d)) := by
  refine F.ok (CX := L2.CX G.prog G.w) (N := N) (k := k + 1) Sc (fun vs H Q E ⟨W, S, ds, s, r, hl, _⟩ => by rw [Paired.length r, hl, hps]) fun cdv A outer s H vs Q E hr ⟨W, S, ds, sm, r, hl, p⟩ => ?_
  refine ⟨tSs G (fun c o _ H => E c o H) call d.body, ?_, run_body p sm r hl hN⟩
  refine sBody (C := ckOf false N scope G.nm G.tab glF) (k := k) ?_ d.body body hc
  exact { prog := rfl, w := rfl, K := rfl, mg := rfl, N := rfl, nd := Sc.nd, sc := rfl, room := fun _ => hr, roomH := L2H.roomH_of hr, fnsH := fns.b, hu := hr.units, hs := by rw [hG]; rfl, cs := fun _ => rfl, hx := fun i a c e => by rw [hG] at e; cases e
          stk := fun _ => ⟨rfl, rfl⟩, calm := fun _ => rfl, tk := takes_of rfl rfl rfl rfl, pas := passes_of rfl, tab := rfl, nm := rfl, free := g.free, gl := g.gl, cls := g.cls, okf := g.okf, con := g.con, exc := g.exc, dc := g.dc, xa := g.xa, hk := hk, fns := fun _ => fns.a,
          can := fun i x hi hx => ⟨locB_ok hx, .inl rfl⟩ }
theorem fn_fact {G : Gd} (hG : G.hs = none) {glF : Nat → Bool} {base : Heap} {k : Nat} {call : Call} {f : Nat} {d : Fn} (g : GOk G glF) (hk : 0 < k) (hh : d.hot = false) (D : DefOk G glF f d) (fns : Callees G base k call) : FnFact G base (k + 2) f d (runFn G.tab call d) := by
  obtain ⟨x, qual, params, body, scope, dvs, fd, N, ps, F, Sc, hps, hN, hc, hb⟩ := D.ex
  rw [hh] at hc
  exact ⟨fd, ps, fn_ok_of hG g F Sc hk hps hN hc fns, hb⟩
theorem GOk.hd {G : Gd} {glF : Nat → Bool} (g : GOk G glF) (h : Option (Nat × Addr × HC)) : GOk (G.hd h) glF where
  free := g.free
  gl := g.gl
  cls := fun c cl h => let D := g.cls c cl h; { cls := D.cls, ha := D.ha, hn := D.hn, htk := D.htk, hm := D.hm, isB := fun t ht => by have z := D.isB t ht; cases t <;> exact z, isC := D.isC, isD := D.isD, mg := D.mg, na := D.na, mt := D.mt, mkf := D.mkf }
  okf := g.okf
  con := fun g' t h => by
    obtain ⟨v, u, h1, h2, h3, h4⟩ := g.con g' t h
    exact ⟨v, u, h1, h2, fun F => (h3 F).hd, h4⟩
  exc := fun c l h => let D := g.exc c l h; { mg := D.mg, ex := D.ex, sub := D.sub, ty := D.ty, isE := D.isE, ve := D.ve, kO := D.kO }
  dc := fun g' kvs h => ⟨(g.dc g' kvs h).ex⟩
  xa := fun c g' f h => let D := g.xa c g' f h; ⟨D.nf, D.mg, D.T, D.iC, D.tI, D.hno, D.ex⟩
theorem binds_np {G : Gd} {d : Fn} {fd : FuncData} {ps : List Str} (hb : ∀ m, m ≤ d.np → d.np - m ≤ d.dfl.length → ∃ (ds : List Value) (es : List V), Binds G.K fd ps ds ∧ Vals es ds ∧ ∀ W, Paired (RepV G W) es (dflV d m)) : Binds G.K fd ps [] := by
  obtain ⟨ds, es, z, v, w⟩ := hb d.np (Nat.le_refl _) (by omega)
  have w := w ⟨fun _ => none, fun _ => none, 0, fun _ => 0⟩
  have e : dflV d d.np = [] := by
    unfold dflV
    rw [Nat.sub_self, Nat.sub_zero, List.drop_length]
    rfl
  rw [e] at w
  cases w
  cases v
  exact z
theorem fn_hot {G : Gd} {glF : Nat → Bool} {base : Heap} {k : Nat} {call : Call} {f : Nat} {d : Fn} (g : GOk G glF) (hk : 0 < k) (hh : d.hot = true) (D : DefOk G glF f d) (fns : Callees G base k call) : HotFact G base (k + 2) f d (runFn G.tab call d) := by
  refine ⟨fun h1 => ?_⟩
  obtain ⟨x, qual, params, body, scope, dvs, fd, N, ps, F, Sc, hps, hN, hc, hb⟩ := D.ex
  rw [hh] at hc
  obtain ⟨q, rfl⟩ : ∃ q, ps = [q] := by
    rw [h1] at hps
    cases ps with
    | nil => cases hps
    | cons q ps =>
      cases ps with
      | nil => exact ⟨q, rfl⟩
      | cons _ _ => cases hps
  have hbd := binds_np hb
  refine ⟨fd, q, hbd, fun h A outer s H args W S a oe c fs l Q hr hpin e0 bt hz hf hl hex sm p => ?_⟩
  obtain ⟨oc, od, dV, kV, doc, pm, an, cdv, ct, osl, rfl, lk, hcd, _, _⟩ := F.ex
  have KX : G.K.In s.heap := e0.mod.kin.keeps fun b o e => (e0.bs b o e).1
  have lim : s.heap.NoLimit := e0.mod.nolimit.keeps fun b o e => (e0.bs b o e).1
  have hkind : ∀ y ∈ [(q, Value.ref a)], scope.names.lookup y.1 = some .local ∨ (scope.names.lookup y.1 = some .cell ∧ ((cellsFrom (s.heap.objs.size + 1) scope.names []).lookup y.1).isSome = true) := fun y hy => by
    rw [List.mem_singleton] at hy
    subst hy
    rcases Sc.par q List.mem_cons_self with z | z
    · exact .inl z
    · exact .inr ⟨z, PySem.W.cellsFrom_some _ _ _ (.inl z)⟩
  refine codeAny_call_function hr.depth (KX _ _ lk) rfl Sc.co Sc.gen rfl (PySem.W.codeRec_of KX hcd) (bt _ _ _ _ ?_)
  refine wpAny_newFunctionEnv_cells Sc.kind hkind fun env he s1 xc => ?_
  subst he
  refine ⟨lim.keeps xc.toInCall.keep, codeAny_func ?_⟩
  have hrD := hr.deeper (envOfC qual scope s.heap.objs.size ((G.fA f)) cdv)
  have ok : XOk (G.hd (some (0, a, c))) (ckOf true N scope G.nm G.tab glF) (L2H.cxH (L2.CX G.prog G.w) G.prog G.w G.K G.mg base N qual scope (G.fA f) cdv A outer s H (fun _ _ _ => False) (a, oe)) (fun _ _ _ _ => False) k call :=
    have g' := g.hd (some (0, a, c))
    { prog := rfl, w := rfl, K := rfl, mg := rfl, N := rfl, nd := Sc.nd, sc := rfl, room := fun z => absurd (show false = true from z) Bool.false_ne_true, roomH := hrD, hu := (by have z := hrD.un; show (A.deeper (envOfC qual scope s.heap.objs.size (G.fA f) cdv)).units + 64 < cLine; omega), hs := rfl, cs := fun z => absurd (show false = true from z) Bool.false_ne_true,
      hx := fun i a' c' e => by
        have e : some (0, a, c) = some (i, a', c') := e
        cases e
        exact ⟨oe, List.mem_cons_self, hz, hf, l, hl⟩
      stk := fun _ => ⟨rfl, rfl⟩, calm := fun z => absurd (show false = true from z) Bool.false_ne_true, tk := takes_of rfl rfl rfl rfl, pas := passes_of rfl, tab := rfl, nm := rfl, free := g'.free, gl := g'.gl, cls := g'.cls, okf := g'.okf, con := g'.con, exc := g'.exc, dc := g'.dc, xa := g'.xa, hk := hk,
      fns := fun z => absurd (show false = true from z) Bool.false_ne_true, fnsH := fun f d h1 h2 => let ⟨run, e, F⟩ := fns.b f d h1 h2; ⟨run, e, ⟨F.ex⟩⟩,
      can := fun i x hi hx => ⟨locB_ok hx, .inl rfl⟩ }
  have back : ∀ {W' : Wd} {S : Store} {H : Hp}, Sim (G.hd (some (0, a, c))) W' S H → Sim (G.hd h) W' S H := fun s => Sim.hd (G := G.hd (some (0, a, c))) (h := h) s
  have p2 : Post (G.hd (some (0, a, c))) (RepV (G.hd (some (0, a, c)))) (fun _ _ _ _ => False) [] W (runFn G.tab call d [.t (.exn c.1 fs)] S) Q := by
    cases hr2 : runFn G.tab call d [.t (.exn c.1 fs)] S with
    | ok v S1 =>
      rw [hr2] at p
      exact fun W' b H' l' s' r' => p W' b H' l' (back s') (RepV.hd (G := G.hd (some (0, a, c))) (h := h) r')
    | ex x S1 =>
      rw [hr2] at p
      exact fun W' cls od H' l' s' e' => p W' cls od H' l' (back s') ⟨e'.c, ExF.hd (G := G.hd (some (0, a, c))) (k := h) e'.f⟩
    | bad => rw [hr2] at p; exact p
  have ht := sBody ok d.body body hc
  have hq := run_body0 (G := G.hd (some (0, a, c))) (E := fun _ _ _ => False) (call := call) (d := d) (σ := L2.start N [.ref a]) p2 (Sim.hd (G := G.hd h) (h := some (0, a, c)) sm) h1.symm (by rw [h1]; exact env_hot rfl (ExF.hd (G := G.hd h) (k := some (0, a, c)) hex) hN) (fun _ _ => by rw [h1]; exact env_hot rfl (ExF.hd (G := G.hd h) (k := some (0, a, c)) hex) hN)
  have I : Inv (L2H.cxH (L2.CX G.prog G.w) G.prog G.w G.K G.mg base N qual scope (G.fA f) cdv A outer s H (fun _ _ _ => False) (a, oe)) [] (L2.start N [.ref a]) H s1 := L2H.inv_startH Sc hpin e0 rfl (.cons rfl .nil) xc
  refine wpAny_mono (ht.run [] s1 (L2.start N [.ref a]) H _ I hq) (fun fl s' hs => ?_) fun e s' hs => hs
  have fin : ∀ {σ' : L2.St} {H' : Hp} {v : V} {u : Value}, Inv (L2H.cxH (L2.CX G.prog G.w) G.prog G.w G.K G.mg base N qual scope (G.fA f) cdv A outer s H (fun _ _ _ => False) (a, oe)) [] σ' H' s' → RelV v u → Q v H' → CE outer G.prog G.w H s Q u s' :=
    fun {σ' H' v u} J rv q => ⟨v, H', J.os, J.bare, J.base, J.hok, rv, q⟩
  cases fl with
  | ret u =>
    obtain ⟨v, σ', H', J, rv, q⟩ := hs
    exact fin J rv q
  | next =>
    obtain ⟨σ', H', J, q⟩ := hs
    exact fin (v := V.non) (u := Value.none) J rfl q
  | brk =>
    obtain ⟨_, _, _, q⟩ := hs
    exact False.elim q
  | cont =>
    obtain ⟨_, _, _, q⟩ := hs
    exact False.elim q
theorem all_facts {G : Gd} (hG : G.hs = none) {glF : Nat → Bool} {base : Heap} (g : GOk G glF) (hd : ∀ f d, G.tab.fn f = some d → DefOk G glF f d) : ∀ n, Callees G base (2 * n + 1) (callF G.tab n)
  | 0 => ⟨fun f d hf _ => by
    refine ⟨fun _ _ => .bad, fun _ _ => rfl, ?_⟩
    obtain ⟨x, qual, params, body, scope, dvs, fd, N, ps, F, Sc, hps, hN, hc, hb⟩ := (hd f d hf).ex
    exact ⟨fd, ps, ⟨fun vs H Q E ⟨W, S, ds, s, r, hl, _⟩ => by rw [Paired.length r, hl, hps], fun A outer s H args us vs Q E _ _ _ _ ⟨W, S, ds, _, _, _, p⟩ => (show False from p).elim⟩, hb⟩, fun f d hf h => by
    refine ⟨fun _ _ => .bad, fun _ _ => rfl, ⟨fun h1 => ?_⟩⟩
    obtain ⟨x, qual, params, body, scope, dvs, fd, N, ps, F, Sc, hps, hN, hc, hb⟩ := (hd f d hf).ex
    obtain ⟨q, rfl⟩ : ∃ q, ps = [q] := by
      rw [h1] at hps
      cases ps with
      | nil => cases hps
      | cons q ps =>
        cases ps with
        | nil => exact ⟨q, rfl⟩
        | cons _ _ => cases hps
    exact ⟨fd, q, binds_np hb, fun h A outer s H args W S a oe c fs l Q _ _ _ _ _ _ _ _ _ p => (show False from p).elim⟩⟩
  | n + 1 => by
    have cl : ∀ (f : Nat) (d : Fn), G.tab.fn f = some d → ∀ vs S, callF G.tab (n + 1) f vs S = runFn G.tab (callF G.tab n) d (vs ++ dflV d vs.length) S := fun f d hf vs S => by
      show (match G.tab.fn f with
        | none => R.bad
        | some d => runFn G.tab (callF G.tab n) d (vs ++ (d.dfl.drop (d.dfl.length - (d.np - vs.length))).map Val.t) S) = _
      rw [hf]
      rfl
    exact ⟨fun f d hf h => ⟨_, cl f d hf, fn_fact hG g (Nat.succ_pos _) h (hd f d hf) (all_facts hG g hd n)⟩, fun f d hf h => ⟨_, cl f d hf, fn_hot g (Nat.succ_pos _) h (hd f d hf) (all_facts hG g hd n)⟩⟩
end Rw
namespace Rw
open PySem PySem.Spec PyProof.Rows L2
theorem seqItems_none : seqItems? Value.none = (pure none : Sem (Option (Array Value))) := rfl
theorem zip_lookup {β : Type} : ∀ {ps : List Str} {us : List β}, us.length = ps.length → ∀ n ∈ ps, ((ps.zip us).lookup n).isSome = true
  | [], _, _, n, h => by cases h
  | p :: ps, u :: us, hl, n, h => by
    rw [List.zip_cons_cons, List.lookup_cons]
    cases q : n == p with
    | true => rfl
    | false =>
      rcases List.mem_cons.mp h with e | h
      · rw [e, beq_self_eq_true] at q
        cases q
      · exact zip_lookup (by simpa using hl) n h
  | _ :: _, [], hl, _, _ => by cases hl
theorem fm_congr {α β : Type} {f g : α → Option β} : ∀ {l : List α}, (∀ x ∈ l, f x = g x) → l.filterMap f = l.filterMap g
  | [], _ => rfl
  | x :: l, h => by
    rw [List.filterMap_cons, List.filterMap_cons, h x List.mem_cons_self, fm_congr fun y hy => h y (List.mem_cons_of_mem _ hy)]
theorem zip_binds {β : Type} : ∀ {ps : List Str} {us : List β}, ps.Nodup → us.length = ps.length → (ps.filterMap fun n => ((ps.zip us).lookup n).map (n, ·)) = ps.zip us
  | [], [], _, _ => rfl
  | p :: ps, u :: us, hn, hl => by
    obtain ⟨h1, h2⟩ := List.nodup_cons.mp hn
    have ih := zip_binds (us := us) h2 (by simpa using hl)
    rw [List.zip_cons_cons, List.filterMap_cons, List.lookup_cons, beq_self_eq_true]
    show (p, u) :: _ = _
    refine congrArg ((p, u) :: ·) ?_
    refine Eq.trans (fm_congr fun n hm => ?_) ih
    rw [List.lookup_cons]
    have q : (n == p) = false := by
      rw [beq_eq_false_iff_ne]
      intro e
      rw [e] at hm
      exact h1 hm
    rw [q]
  | _ :: _, [], _, hl => by cases hl
  | [], _ :: _, _, hl => by cases hl
def argsB (a : Arguments) (ps : List Str) : Bool := a.posonlyargs.isEmpty && (a.kwonlyargs.isEmpty && (a.vararg.isNone && (a.kwarg.isNone && decide (a.args.map (·.arg) = ps))))
theorem bind_plain {x qual : Str} {a : Arguments} {body : List Stmt} {sc : Scope} {kV doc pm cdv ct : Value} {an : Option Addr} {ps : List Str} {us : List Value} (h : argsB a ps = true) (hn : ps.Nodup) (hl : us.length = ps.length) :
    bindArgs (PySem.W.fnOf x qual a body sc .none kV doc pm an cdv ct) ⟨us, []⟩ = pure (ps.zip us) := by
  obtain ⟨po, as, va, ko, kd, kw, df⟩ := a
  obtain ⟨h1, h⟩ := ba h
  obtain ⟨h2, h⟩ := ba h
  obtain ⟨h3, h⟩ := ba h
  obtain ⟨h4, h5⟩ := ba h
  have e1 : po = [] := List.isEmpty_iff.mp h1
  have e2 : ko = [] := List.isEmpty_iff.mp h2
  have e3 : va = none := Option.isNone_iff_eq_none.mp h3
  have e4 : kw = none := Option.isNone_iff_eq_none.mp h4
  have e5 : as.map (·.arg) = ps := of_decide_eq_true h5
  subst e1 e2 e3 e4
  have m0 : (ps.take ps.length).filter (fun n => ((ps.zip us).lookup n).isNone) = [] := by
    rw [List.take_length]
    refine List.filter_eq_nil_iff.mpr fun n hm => ?_
    have z := zip_lookup hl n hm
    cases q : (ps.zip us).lookup n with
    | none => rw [q] at z; cases z
    | some _ => simp
  unfold bindArgs
  simp only [List.map_nil, List.nil_append, e5, seqItems_none, pure_bind, Option.getD_none, Array.toList_empty, List.forIn_nil, hl, List.drop_nil, List.length_nil, Nat.sub_zero, List.zip_nil_right, m0, List.isEmpty_nil, List.append_nil, zip_binds hn hl,
    gt_iff_lt, Nat.lt_irrefl, decide_false, Bool.false_and, Bool.not_true, if_false, Bool.false_eq_true]
theorem lookup_zip {β : Type} : ∀ {ps : List Str} {us : List β} {n : Str} {i : Nat}, ps.Nodup → ps[i]? = some n → (ps.zip us).lookup n = us[i]?
  | [], _, _, _, _, h => by simp at h
  | p :: ps, [], n, i, _, h => by simp
  | p :: ps, u :: us, n, 0, _, h => by
    simp at h
    subst h
    rw [List.zip_cons_cons, List.lookup_cons, beq_self_eq_true]
    rfl
  | p :: ps, u :: us, n, i + 1, hn, h => by
    obtain ⟨h1, h2⟩ := List.nodup_cons.mp hn
    have h : ps[i]? = some n := by simpa using h
    have q : (n == p) = false := by
      rw [beq_eq_false_iff_ne]
      intro e
      exact h1 (by rw [← e]; exact List.mem_of_getElem? h)
    rw [List.zip_cons_cons, List.lookup_cons, q]
    show (ps.zip us).lookup n = _
    rw [lookup_zip h2 h]
    rfl
theorem lookup_app {β : Type} (n : Str) : ∀ (s t : List (Str × β)), (s ++ t).lookup n = (s.lookup n).or (t.lookup n)
  | [], t => rfl
  | (m, v) :: s, t => by
    rw [List.cons_append, List.lookup_cons, List.lookup_cons]
    cases n == m with
    | true => rfl
    | false => exact lookup_app n s t
theorem lookup_fil {β : Type} (P : Str → Bool) (n : Str) : ∀ (l : List (Str × β)), (l.filter fun p => P p.1).lookup n = if P n = true then l.lookup n else none
  | [] => by split <;> rfl
  | (m, v) :: l => by
    have ih := lookup_fil P n l
    by_cases hm : P m = true
    · rw [List.filter_cons_of_pos (by exact hm), List.lookup_cons, List.lookup_cons, ih]
      cases q : n == m with
      | true =>
        have e : n = m := beq_iff_eq.mp q
        subst e
        exact (if_pos hm).symm
      | false => rfl
    · rw [List.filter_cons_of_neg (by exact hm), List.lookup_cons, ih]
      cases q : n == m with
      | true =>
        have e : n = m := beq_iff_eq.mp q
        rw [e, if_neg hm, if_neg hm]
      | false => rfl
theorem dfl_loop : ∀ (l s : List (Str × Value)), (l.map (·.1)).Nodup →
    (forIn l s fun x r => if (List.lookup x.fst r).isNone = true then (pure (ForInStep.yield (r ++ [(x.fst, x.snd)])) : Sem (ForInStep (List (Str × Value)))) else pure (ForInStep.yield r)) = pure (s ++ l.filter fun p => (s.lookup p.1).isNone)
  | [], s, _ => by
    rw [List.forIn_nil, List.filter_nil, List.append_nil]
  | (n, d) :: l, s, hn => by
    obtain ⟨h1, h2⟩ := List.nodup_cons.mp (show (n :: l.map (·.1)).Nodup from hn)
    rw [List.forIn_cons]
    by_cases q : (s.lookup n).isNone = true
    · rw [if_pos (by exact q), pure_bind]
      show (forIn l (s ++ [(n, d)]) _) = _
      rw [dfl_loop l _ h2, List.filter_cons_of_pos (by exact q), List.append_assoc]
      refine congrArg (fun z => pure (s ++ ((n, d) :: z))) (List.filter_congr fun p hp => ?_)
      rw [lookup_app]
      have e : (p.1 == n) = false := by
        rw [beq_eq_false_iff_ne]
        intro e
        exact h1 (by rw [← e]; exact List.mem_map_of_mem hp)
      have e2 : List.lookup p.1 [(n, d)] = none := by
        rw [List.lookup_cons, e]
        rfl
      rw [e2, Option.or_none]
    · rw [if_neg (by exact q), pure_bind]
      show (forIn l s _) = _
      rw [dfl_loop l s h2, List.filter_cons_of_neg (by exact q)]
theorem bind_dfl {x qual : Str} {a : Arguments} {body : List Stmt} {sc : Scope} {kV doc pm cdv ct : Value} {an : Option Addr} {ps : List Str} {us its : List Value} {Ta : Addr} (h : argsB a ps = true) (hn : ps.Nodup) (hle : us.length ≤ ps.length) (hd : ps.length ≤ us.length + its.length) (hd2 : its.length ≤ ps.length) :
    ∃ k, bindArgs (PySem.W.fnOf x qual a body sc (.ref Ta) kV doc pm an cdv ct) ⟨us, []⟩ = seqItems? (.ref Ta) >>= k ∧ k (some its.toArray) = pure (ps.zip (us ++ its.drop (us.length - (ps.length - its.length)))) := by
  obtain ⟨po, as, va, ko, kd, kw, df⟩ := a
  obtain ⟨h1, h⟩ := ba h
  obtain ⟨h2, h⟩ := ba h
  obtain ⟨h3, h⟩ := ba h
  obtain ⟨h4, h5⟩ := ba h
  have e1 : po = [] := List.isEmpty_iff.mp h1
  have e2 : ko = [] := List.isEmpty_iff.mp h2
  have e3 : va = none := Option.isNone_iff_eq_none.mp h3
  have e4 : kw = none := Option.isNone_iff_eq_none.mp h4
  have e5 : as.map (·.arg) = ps := of_decide_eq_true h5
  subst e1 e2 e3 e4
  unfold bindArgs
  simp only [List.map_nil, List.nil_append, e5, pure_bind, List.forIn_nil]
  refine ⟨_, rfl, ?_⟩
  simp only [Option.getD_some, List.toList_toArray]
  have g1 : ¬ us.length > ps.length := by omega
  simp only [g1, decide_false, Bool.false_and, Bool.false_eq_true, if_false]
  rw [show its.length - ps.length = 0 by omega, List.drop_zero]
  generalize hj : ps.length - its.length = j0
  have look : ∀ (i : Nat) (n : Str), ps[i]? = some n → (ps.zip us).lookup n = us[i]? := fun i n h => lookup_zip hn h
  have mis : (ps.take j0).filter (fun n => ((ps.zip us).lookup n).isNone) = [] := by
    refine List.filter_eq_nil_iff.mpr fun n hm => ?_
    obtain ⟨i, hi⟩ := List.getElem?_of_mem hm
    have hi2 : i < j0 := by
      have := (List.getElem?_eq_some_iff.mp hi).1
      rw [List.length_take] at this
      omega
    rw [List.getElem?_take_of_lt hi2] at hi
    rw [look i n hi, List.getElem?_eq_getElem (by omega)]
    exact Bool.false_ne_true
  rw [mis]
  simp only [List.isEmpty_nil, Bool.not_true, Bool.false_eq_true, if_false, List.append_nil]
  have nd : (((ps.drop j0).zip its).map (·.1)).Nodup := by
    rw [List.map_fst_zip (by rw [List.length_drop]; omega)]
    exact hn.sublist (List.drop_sublist _ _)
  rw [dfl_loop _ _ nd, pure_bind]
  refine congrArg pure (Eq.trans (fm_congr fun n hm => ?_) (zip_binds (us := us ++ its.drop (us.length - j0)) hn (by rw [List.length_append, List.length_drop]; omega)))
  refine congrArg (Option.map _) ?_
  obtain ⟨i, hi⟩ := List.getElem?_of_mem hm
  have hil := (List.getElem?_eq_some_iff.mp hi).1
  rw [lookup_app, lookup_fil fun m => ((ps.zip us).lookup m).isNone, look i n hi, lookup_zip (us := us ++ its.drop (us.length - j0)) hn hi]
  by_cases hu : i < us.length
  · rw [List.getElem?_append_left hu, List.getElem?_eq_getElem hu]
    rfl
  · rw [List.getElem?_append_right (by omega), List.getElem?_eq_none (by omega)]
    show (none : Option Value).or (if (none : Option Value).isNone = true then _ else none) = _
    rw [if_pos (show (none : Option Value).isNone = true from rfl), Option.none_or, lookup_zip (i := i - j0) (hn.sublist (List.drop_sublist _ _)) (by rw [List.getElem?_drop]; rw [show j0 + (i - j0) = i by omega]; exact hi), List.getElem?_drop]
    congr 1
    omega
structure DefX where
  at_ : Str × Option Str
  name : Str
  qual : Str
  st : Stmt
  N : List Str
  ps : List Str
  fn : Fn
structure LawD where
  defs : List DefX
  cls : List (Str × Cl)
  con : List (Str × T)
  ats : List Str
  exc : List (Str × List Nat) := []
  exi : List Nat := []
  dcs : List (Str × List (Str × T)) := []
  exa : List (Nat × (Nat × Nat)) := []
def LawD.tab (L : LawD) : Tab := ⟨fun i => (L.defs[i]?).map (·.fn), fun i => (L.cls[i]?).map (·.2), fun i => (L.con[i]?).map (·.2), fun i => (L.exc[i]?).map (·.2), fun i => !L.exi.contains i, fun i => if (L.exc[i]?).isSome then L.exa.lookup i else none, fun i => (L.dcs[i]?).map (·.2)⟩
def LawD.nm (L : LawD) : Nm := ⟨fun i => ((L.defs[i]?).map (·.at_.1)).getD Str.empty, fun i => ((L.cls[i]?).map (·.1)).getD Str.empty, fun i => ((L.con[i]?).map (·.1)).getD Str.empty, fun i => L.ats.getD i Str.empty, fun i => ((L.exc[i]?).map (·.1)).getD Str.empty, fun i => ((L.dcs[i]?).map (·.1)).getD Str.empty⟩
def LawD.glF (L : LawD) (f : Nat) : Bool := match L.defs[f]? with
  | some d => d.at_.2.isNone
  | none => false
def dvT : T → He.Dv
  | .bl b => .bl b
  | .int i => .int i
  | .str z => .str z
  | _ => .non
def dvOk : T → Bool
  | .non => true
  | .bl _ => true
  | .int _ => true
  | .str _ => true
  | _ => false
def DefX.dd (x : DefX) : He.DefD := ⟨x.at_, x.name, x.qual, defArgs x.st, defBody x.st, defScope x.st, x.fn.dfl.map dvT, []⟩
def nodupB : List Str → Bool
  | [] => true
  | x :: xs => !xs.contains x && nodupB xs
theorem nodupB_ok : ∀ {l : List Str}, nodupB l = true → l.Nodup
  | [], _ => List.nodup_nil
  | x :: xs, h => by
    obtain ⟨h1, h2⟩ := ba h
    refine List.nodup_cons.mpr ⟨fun hm => ?_, nodupB_ok h2⟩
    have z := nb h1
    rw [List.contains_iff_mem.mpr hm] at z
    cases z
def scB (N P : List Str) (sc : Scope) : Bool := decide (sc.kind = .function) && (!sc.isCoroutine && (!sc.isGenerator && (nodupB N && (decide (N.take P.length = P) && (P.all (locB sc) && sc.names.all fun y => decide (y.2 ≠ .free))))))
theorem scB_ok {N P : List Str} {sc : Scope} (h : scB N P sc = true) : FnScope N P sc := by
  obtain ⟨h1, h⟩ := ba h
  obtain ⟨h2, h⟩ := ba h
  obtain ⟨h3, h⟩ := ba h
  obtain ⟨h4, h⟩ := ba h
  obtain ⟨h5, h⟩ := ba h
  obtain ⟨h6, h7⟩ := ba h
  exact ⟨of_decide_eq_true h1, nb h2, nb h3, nodupB_ok h4, of_decide_eq_true h5, fun x hx => locB_ok (List.all_eq_true.mp h6 x hx), fun y hy => of_decide_eq_true (List.all_eq_true.mp h7 y hy)⟩
def defB (L : LawD) (x : DefX) : Bool := scB x.N x.ps (defScope x.st) && (decide (x.ps.length = x.fn.np) && (decide (x.N.length = x.fn.ns) && (chkB (ckOf x.fn.hot x.N (defScope x.st) L.nm L.tab L.glF) x.fn.body (defBody x.st) && (argsB (defArgs x.st) x.ps && (x.fn.dfl.all dvOk && decide (x.fn.dfl.length ≤ x.fn.np))))))
def freeN : List Str := ["len", "int", "str", "min", "max", "abs", "list", "tuple", "all", "any", "sum", "divmod", "sorted", "bool", "isinstance", "range", "enumerate", "zip", "dict", "set", "ValueError"].map Str.ofString
def tysA : List Ty := [Ty.int, Ty.bool, Ty.str, Ty.list, Ty.tuple, Ty.dict]
def tysS : List String := ["NoneType", "bool", "int", "str", "tuple", "list", "dict"]
def tyC0 : Ty → Value
  | .int => .type "int" | .bool => .type "bool" | .str => .type "str" | .list => .type "list" | .tuple => .type "tuple" | .dict => .type "dict" | .cls _ => .none
def eqB (a b : Option Bool) : Bool := decide (a = b)
def mAdB (L : LawD) (K : PySem.W.Frag) (x m : Str) (g : Nat) : Bool := match L.defs[g]? with
  | some d => decide (He.ma K (He.ga K x) m = He.fAd K d.at_)
  | none => false
def vB : T → Value → Bool
  | .str x, .str y _ => decide (x = y)
  | .int i, .int j _ => decide (i = j)
  | .bl b, .bool c => b == c
  | .non, .none => true
  | _, _ => false
def vsB : List T → List Value → Bool
  | [], [] => true
  | x :: xs, v :: vs => vB x v && vsB xs vs
  | _, _ => false
def tupF (K : PySem.W.Frag) (x : Str) (ts : List T) : Bool := match PySem.W.nsIn K mainGlobals x with
  | some (some (.ref a)) => (match K.lookup a with
    | some o => decide (o.cls = .type "tuple") && (o.dict.isNone && match o.data with
      | .seq its _ => decide (its.size ≤ sizeLine) && vsB ts its.toList
      | _ => false)
    | none => false)
  | _ => false
theorem vB_ok {G : Gd} {F : Hp} {x : T} {u : Value} (h : vB x u = true) : ∃ v, RelV v u ∧ Rep G F v x := by
  cases x with
  | str a =>
    cases u with
    | str b t =>
      have e : a = b := of_decide_eq_true h
      subst e
      exact ⟨.str a, ⟨t, rfl⟩, .str a⟩
    | _ => cases h
  | int a =>
    cases u with
    | int b t =>
      have e : a = b := of_decide_eq_true h
      subst e
      exact ⟨.int a, ⟨t, rfl⟩, .int a⟩
    | _ => cases h
  | bl a =>
    cases u with
    | bool b =>
      have e : a = b := eq_of_beq h
      subst e
      exact ⟨.bl a, rfl, .bl a⟩
    | _ => cases h
  | non =>
    cases u with
    | none => exact ⟨.non, rfl, .non⟩
    | _ => cases h
  | _ => cases h
theorem vsB_ok {G : Gd} : ∀ {xs : List T} {us : List Value}, vsB xs us = true → ∃ vs, Vals vs us ∧ ∀ F, RepL G F vs xs
  | [], [], _ => ⟨[], .nil, fun _ => .nil⟩
  | x :: xs, u :: us, h => by
    obtain ⟨h1, h2⟩ := ba h
    obtain ⟨vs, a1, a2⟩ := vsB_ok (G := G) h2
    obtain ⟨v, b1, b2⟩ := vB_ok (G := G) (F := fun _ => none) h1
    refine ⟨v :: vs, .cons b1 a1, fun F => .cons (Rep.mono (fun a o e => by cases e) x v b2) (a2 F)⟩
  | [], _ :: _, h => by cases h
  | _ :: _, [], h => by cases h
theorem tup_ok {K : PySem.W.Frag} {x : Str} {ts : List T} (h : tupF K x ts = true) : ∃ a o its n, PySem.W.nsIn K mainGlobals x = some (some (.ref a)) ∧ K.lookup a = some o ∧ o.cls = .type "tuple" ∧ o.data = .seq its n ∧ its.size ≤ sizeLine ∧ vsB ts its.toList = true ∧ o.dict = none := by
  unfold tupF at h
  split at h
  · rename_i a e
    split at h
    · rename_i o e2
      obtain ⟨h1, h2⟩ := ba h
      obtain ⟨h0, h2⟩ := ba h2
      split at h2
      · rename_i its n e3
        obtain ⟨h3, h4⟩ := ba h2
        exact ⟨a, o, its, n, e, e2, of_decide_eq_true h1, e3, of_decide_eq_true h3, h4, Option.isNone_iff_eq_none.mp h0⟩
      · cases h2
    · cases h
  · cases h
def conF (K : PySem.W.Frag) (x : Str × T) : Bool := match x.2 with
  | .tup ts => tupF K x.1 ts
  | .int i => (He.Fa.int x.1 i).ok K
  | .str z => (He.Fa.str x.1 z).ok K
  | _ => false
def clsB (L : LawD) (K : PySem.W.Frag) (x : Str × Cl) : Bool := (He.Fa.cls x.1).ok K && ((He.Fa.glo x.1).ok K && (He.eqO (PySem.W.findIn K (.ref (He.ga K x.1)) "__class__") (some (some (.builtin "object.__class__"))) &&
  (He.eqO (PySem.W.specialIn K (.builtin "object.__class__") "__get__") (some (some (.builtin "getset_descriptor.__get__"))) && (eqB (PySem.W.takesIn K (.builtin "object.__class__")) (some true) && (eqB (PySem.W.mroIn K (He.ga K x.1) (.type "object")) (some true) &&
  (tysA.all (fun t => eqB (PySem.W.kitOne K (.ref (He.ga K x.1)) (tyC0 t)) (some false)) && (L.cls.zipIdx.all (fun y => eqB (PySem.W.kitOne K (.ref (He.ga K x.1)) (.ref (He.ga K y.1.1))) (some (x.2.sup.contains y.2))) &&
  (tysS.all (fun t => eqB (PySem.W.kitOne K (.type t) (.ref (He.ga K x.1))) (some false)) && (x.2.flds.all (fun f => decide (f < L.ats.length) && (He.Fa.noat x.1 (L.nm.atN f)).ok K) && (x.2.meths.all (fun p => decide (p.1 < L.ats.length) && ((He.Fa.meth x.1 (L.nm.atN p.1)).ok K && mAdB L K x.1 (L.nm.atN p.1) p.2)) && (match x.2.init with
    | some f => (He.Fa.mkr x.1).ok K && mAdB L K x.1 (Str.ofString "__init__") f
    | none => PySem.W.makesIn K (He.ga K x.1) && (He.eqO (PySem.W.findIn K (.ref (He.ga K x.1)) "__init__") (some (some (.builtin "object.__init__"))) && PySem.W.keepIn K (.ref (He.ga K x.1))))))))))))))
def crB (K : PySem.W.Frag) (C0 : Addr) : Bool := PySem.W.readsIn K C0 (.type "type") && (He.eqO (PySem.W.specialIn K (.ref C0) "__getattribute__") (some (some (.builtin "type.__getattribute__"))) && (match PySem.W.findCls K (.ref C0) (.type "type") "__init__" with
  | some (.val (.builtin n)) => n == "ValueError.__init__"
  | _ => false))
def ipB (L : LawD) (K : PySem.W.Frag) (d : DefX) (n : Str) : Bool := match initP (defBody d.st) with
  | some (b, s, a, f) => decide (f = n) && (decide (d.N[0]? = some s) && (decide (d.N[1]? = some a) && (decide (d.ps.length = 2) && (visB (defScope d.st) s && (visB (defScope d.st) a && (okN s && (okN a && (okN b && (glB (defScope d.st) b && (glB (defScope d.st) "str" && ((He.Fa.glo b).ok K && crB K (He.ga K b))))))))))))
  | none => false
def xaB (L : LawD) (K : PySem.W.Frag) (x : Str × List Nat) (g f : Nat) : Bool := match L.defs[g]?, L.ats[f]? with
  | some d, some n => oexB K (He.ga K x.1) && (He.eqO (PySem.W.findIn K (.ref (He.ga K x.1)) "__setattr__") (some (some (.builtin "object.__setattr__"))) && (PySem.W.keepIn K (.ref (He.ga K x.1)) && (He.eqO (PySem.W.findIn K (.ref (He.ga K x.1)) "__init__") (some (some (.ref (He.fAd K d.at_)))) && (decide (PySem.W.typeIn K (.ref (He.fAd K d.at_)) = some (.type "function")) &&
    (He.eqO (PySem.W.findIn K (.ref (He.ga K x.1)) n) (some none) && (d.fn.dfl.isEmpty && ipB L K d n))))))
  | _, _ => false
def xaO (L : LawD) (K : PySem.W.Frag) (x : Str × List Nat) (i : Nat) : Bool := match L.exa.lookup i with
  | some (g, f) => xaB L K x g f
  | none => true
def excB (L : LawD) (K : PySem.W.Frag) (x : Str × List Nat) (i : Nat) : Bool := xaO L K x i && ((L.exi.contains i || (He.Fa.exc x.1).ok K) && ((He.Fa.glo x.1).ok K && (eqB (PySem.W.subIn K (.ref (He.ga K x.1)) (.type "BaseException")) (some true) && (decide (PySem.W.typeIn K (.ref (He.ga K x.1)) = some (.type "type")) &&
  (He.eqO (PySem.W.findIn K (.ref (He.ga K x.1)) "__getattribute__") (some (some (.builtin "BaseException.__getattribute__"))) && (He.eqO (PySem.W.findIn K (.ref (He.ga K x.1)) "__getattr__") (some none) && (PySem.W.hasDictIn K (He.ga K x.1) &&
  (He.eqO (PySem.W.findIn K (.ref (He.ga K x.1)) "__class__") (some (some (.builtin "object.__class__"))) && (He.eqO (PySem.W.specialIn K (.builtin "object.__class__") "__get__") (some (some (.builtin "getset_descriptor.__get__"))) && (eqB (PySem.W.takesIn K (.builtin "object.__class__")) (some true) &&
  (eqB (PySem.W.mroIn K (He.ga K x.1) (.type "object")) (some true) && (eqB (PySem.W.kitOne K (.ref (He.ga K x.1)) (.type "ValueError")) (some true) &&
  L.exc.zipIdx.all (fun y => eqB (PySem.W.kitOne K (.ref (He.ga K x.1)) (.ref (He.ga K y.1.1))) (some (x.2.contains y.2)) && eqB (PySem.W.exmOne K (.ref (He.ga K x.1)) (.ref (He.ga K y.1.1))) (some (x.2.contains y.2)))))))))))))))
def esB : List (Str × T) → List DictEntry → Bool
  | [], [] => true
  | (k, t) :: kvs, e :: es => (match e.key with
      | .str x _ => decide (x = k)
      | _ => false) && (vB t e.val && esB kvs es)
  | _, _ => false
def dcB (K : PySem.W.Frag) (x : Str × List (Str × T)) : Bool := (He.Fa.glo x.1).ok K && (match K.lookup (He.ga K x.1) with
  | some ⟨_, _, .dict es _, _⟩ => esB x.2 es.toList
  | _ => false)
def factsB (L : LawD) (K : PySem.W.Frag) : Bool := L.dcs.all (dcB K) && (freeN.all (fun x => (He.Fa.free x).ok K) && (L.defs.all (fun d => d.at_.2.isSome || (He.Fa.glo d.at_.1).ok K) && (L.cls.all (clsB L K) && (nodupB L.ats && (L.con.all (conF K) && L.exc.zipIdx.all fun x => excB L K x.1 x.2)))))
abbrev AlR : Type := He.AlD × (Bool × List (Option (List (Option (Str × Int)))))
def obsR (L : LawD) (K : PySem.W.Frag) : AlR := (He.obsD [] (L.defs.map DefX.dd) K, factsB L K, L.dcs.map fun x => He.dicW K (He.ga K x.1))
def valR (L : LawD) (w : World) : AlR := (He.valD (L.defs.map DefX.dd), true, L.dcs.map fun x => some (He.keysIn w.params (x.2.map (·.1))))
def obsRG (n : Nat) (L : LawD) (g : Addr → Option Obj) : AlR := obsR L (He.frG g (He.asD g n))
def hookR (n : Nat) (L : LawD) : PySem.W.Hook where
  α := AlR
  obs := fun s => obsRG n L s.heap.get?
  val := fun w => valR L w
  says := fun w h => ∃ K : PySem.W.Frag, K.In h ∧ obsR L K = valR L w
  of := fun _ _ e => ⟨_, He.frG_in, e⟩
  keeps := fun _ _ _ ⟨K, hK, c⟩ k => ⟨K, PySem.W.Frag.In.keeps hK k, c⟩
def obsLG (as : List Addr) (L : LawD) (g : Addr → Option Obj) : AlR := obsR L (He.frG g as)
def hookL (as : List Addr) (L : LawD) : PySem.W.Hook where
  α := AlR
  obs := fun s => obsLG as L s.heap.get?
  val := fun w => valR L w
  says := fun w h => ∃ K : PySem.W.Frag, K.In h ∧ obsR L K = valR L w
  of := fun _ _ e => ⟨_, He.frG_in, e⟩
  keeps := fun _ _ _ ⟨K, hK, c⟩ k => ⟨K, PySem.W.Frag.In.keeps hK k, c⟩
theorem obsLG_eq {as : List Addr} {L : LawD} {g : Addr → Option Obj} {s : Shared} (h : ∀ a, g a = s.heap.get? a) : obsLG as L g = (hookL as L).obs s := by
  have e : g = s.heap.get? := funext h
  rw [e]
  rfl
theorem obsR_of {L : LawD} {K : PySem.W.Frag} {w : World} (h1 : He.obsD [] (L.defs.map DefX.dd) K = He.valD (L.defs.map DefX.dd)) (h2 : (freeN.all fun x => (He.Fa.free x).ok K) = true) (h3 : (L.defs.all fun d => d.at_.2.isSome || (He.Fa.glo d.at_.1).ok K) = true)
    (h4 : L.cls.all (clsB L K) = true) (h5 : nodupB L.ats = true) (h6 : L.con.all (conF K) = true) (h7 : (L.exc.zipIdx.all fun x => excB L K x.1 x.2) = true) (h8 : L.dcs.all (dcB K) = true) (h9 : (L.dcs.map fun x => He.dicW K (He.ga K x.1)) = L.dcs.map fun x => some (He.keysIn w.params (x.2.map (·.1)))) : obsR L K = valR L w := by
  unfold obsR valR factsB
  rw [h1, h2, h3, h4, h5, h6, h7, h8, h9]
  rfl
theorem all_cut {α : Type} {l : List α} {p : α → Bool} (n : Nat) (h1 : (l.take n).all p = true) (h2 : (l.drop n).all p = true) : l.all p = true := by
  rw [← List.take_append_drop n l, List.all_append, h1, h2]
  rfl
theorem vB_fl {t : T} {u : Value} (h : vB t u = true) : ∃ v, RelV v u ∧ flV t = some v := by
  cases t with
  | str a => cases u with
    | str b k =>
      have e : a = b := of_decide_eq_true h
      subst e
      exact ⟨.str a, ⟨k, rfl⟩, rfl⟩
    | _ => cases h
  | int a => cases u with
    | int b k =>
      have e : a = b := of_decide_eq_true h
      subst e
      exact ⟨.int a, ⟨k, rfl⟩, rfl⟩
    | _ => cases h
  | bl a => cases u with
    | bool b =>
      have e : a = b := eq_of_beq h
      subst e
      exact ⟨.bl a, rfl, rfl⟩
    | _ => cases h
  | non => cases u with
    | none => exact ⟨.non, rfl, rfl⟩
    | _ => cases h
  | _ => cases h
theorem es_find : ∀ {kvs : List (Str × T)} {l : List DictEntry}, esB kvs l = true → l.any (·.refKey) = false ∧ ∀ z : Str, (match kvs.lookup z with
    | none => l.find? (·.key.isStr z) = none
    | some t => ∃ e v, l.find? (·.key.isStr z) = some e ∧ RelV v e.val ∧ flV t = some v)
  | [], [], _ => ⟨rfl, fun z => rfl⟩
  | [], _ :: _, h => by cases h
  | _ :: _, [], h => by cases h
  | (k, t) :: kvs, e :: l, h => by
    obtain ⟨h1, h⟩ := ba h
    obtain ⟨h2, h3⟩ := ba h
    obtain ⟨i1, i2⟩ := es_find h3
    obtain ⟨eh, ek, ev⟩ := e
    cases ek with
    | str x tk =>
      have ex : x = k := of_decide_eq_true h1
      subst ex
      refine ⟨?_, fun z => ?_⟩
      · rw [List.any_cons, i1]
        rfl
      · by_cases c : z = x
        · subst c
          have e1 : ((z, t) :: kvs).lookup z = some t := by simp [List.lookup]
          rw [e1]
          obtain ⟨v, r1, r2⟩ := vB_fl h2
          refine ⟨_, v, ?_, r1, r2⟩
          rw [List.find?_cons_of_pos (by show (z == z) = true; exact beq_self_eq_true z)]
        · have c2 : (z == x) = false := beq_eq_false_iff_ne.mpr c
          have c3 : (x == z) = false := beq_eq_false_iff_ne.mpr (Ne.symm c)
          have e1 : ((x, t) :: kvs).lookup z = kvs.lookup z := by simp [List.lookup, c2]
          have e2 : (DictEntry.mk eh (.str x tk) ev :: l).find? (·.key.isStr z) = l.find? (·.key.isStr z) := List.find?_cons_of_neg (by
            show ¬ (x == z) = true
            rw [c3]
            decide)
          rw [e1, e2]
          exact i2 z
    | _ => cases h1
def gdOf (L : LawD) (P : Program) (w : World) (K : PySem.W.Frag) (mg : Str → Option Value) : Gd where
  prog := P
  w := w
  K := K
  mg := mg
  fA := fun i => match L.defs[i]? with
    | some d => He.fAd K d.at_
    | none => 0
  cA := fun i => He.ga K (L.nm.clN i)
  eA := fun i => He.ga K (L.nm.exN i)
  nm := L.nm
  tab := L.tab
  nAt := L.ats.length
section
variable {L : LawD} {P : Program} {w : World} {K : PySem.W.Frag} {mg : Str → Option Value} {h : Heap}
theorem eqB_ok {a b : Option Bool} (h : eqB a b = true) : a = b := of_decide_eq_true h
theorem tab_fn {f : Nat} {d : Fn} (e : L.tab.fn f = some d) : ∃ x, L.defs[f]? = some x ∧ x.fn = d := Option.map_eq_some_iff.mp e
theorem tab_cl {c : Nat} {d : Cl} (e : L.tab.cl c = some d) : ∃ x, L.cls[c]? = some x ∧ x.2 = d := Option.map_eq_some_iff.mp e
theorem mem_of_look {α : Type} {f : Nat} {g : α} : ∀ {l : List (Nat × α)}, l.lookup f = some g → (f, g) ∈ l
  | [], h => by cases h
  | (k, v) :: l, h => by
    by_cases z : f = k
    · subst z
      have e : ((f, v) :: l).lookup f = some v := by simp [List.lookup]
      rw [e] at h
      cases h
      exact List.mem_cons_self
    · have e : ((k, v) :: l).lookup f = l.lookup f := by
        have : (f == k) = false := beq_eq_false_iff_ne.mpr z
        simp [List.lookup, this]
      rw [e] at h
      exact List.mem_cons_of_mem _ (mem_of_look h)
theorem nodup_at {l : List Str} (h : l.Nodup) {f g : Nat} (hf : f < l.length) (hg : g < l.length) (e : l.getD f Str.empty = l.getD g Str.empty) : f = g := by
  induction l generalizing f g with
  | nil => cases hf
  | cons x l ih =>
    obtain ⟨h1, h2⟩ := List.nodup_cons.mp h
    have mem : ∀ {i : Nat}, i < l.length → l.getD i Str.empty ∈ l := fun {i} hi => by
      rw [show l.getD i Str.empty = l[i] by simp [hi]]
      exact List.getElem_mem hi
    cases f with
    | zero =>
      cases g with
      | zero => rfl
      | succ g =>
        have e : x = l.getD g Str.empty := e
        exact absurd (by rw [e]; exact mem (Nat.lt_of_succ_lt_succ hg)) h1
    | succ f =>
      cases g with
      | zero =>
        have e : l.getD f Str.empty = x := e
        exact absurd (by rw [← e]; exact mem (Nat.lt_of_succ_lt_succ hf)) h1
      | succ g => exact congrArg Nat.succ (ih h2 (Nat.lt_of_succ_lt_succ hf) (Nat.lt_of_succ_lt_succ hg) e)
theorem mAd_ok {x m : Str} {g : Nat} (h : mAdB L K x m g = true) : He.ma K (He.ga K x) m = (gdOf L P w K mg).fA g ∧ ((gdOf L P w K mg).tab.fn g).isSome = true := by
  unfold mAdB at h
  cases q : L.defs[g]? with
  | none => rw [q] at h; cases h
  | some d =>
    rw [q] at h
    refine ⟨(of_decide_eq_true h).trans ?_, ?_⟩
    · show _ = (match L.defs[g]? with
        | some d => He.fAd K d.at_
        | none => 0)
      rw [q]
    · show ((L.defs[g]?).map (·.fn)).isSome = true
      rw [q]
      rfl
theorem gOk_of (X : K.In h) (Gn : h.Ns mainGlobals mg) (c : obsR L K = valR L w) (hxa : ∀ i g f, (gdOf L P w K mg).tab.exa i = some (g, f) → InitX (gdOf L P w K mg) i g f) : GOk (gdOf L P w K mg) L.glF := by
  have hf : factsB L K = true := congrArg (fun z : AlR => z.2.1) c
  have hdc : (L.dcs.map fun x => He.dicW K (He.ga K x.1)) = L.dcs.map fun x => some (He.keysIn w.params (x.2.map (·.1))) := congrArg (fun z : AlR => z.2.2) c
  have hd : He.SaysD [] (L.defs.map DefX.dd) K := congrArg (fun z : AlR => z.1) c
  obtain ⟨h0, hf⟩ := ba hf
  obtain ⟨h1, h2⟩ := ba hf
  obtain ⟨h2, h3⟩ := ba h2
  obtain ⟨h3, h4⟩ := ba h3
  obtain ⟨h4, h5⟩ := ba h4
  obtain ⟨h5, h6⟩ := ba h5
  refine ⟨fun x hx => He.free_ok X Gn (List.all_eq_true.mp h1 x hx), fun f hg => ?_, fun i cl hi => ?_, fun f g hf hg e => ?_, fun g t hg => ?_, fun c l hc => ?_, fun g kvs hg => ?_, hxa⟩
  · unfold LawD.glF at hg
    cases q : L.defs[f]? with
    | none => rw [q] at hg; cases hg
    | some d =>
      rw [q] at hg
      have e : d.at_ = (d.at_.1, none) := by
        have hg : d.at_.2.isNone = true := hg
        exact Prod.ext rfl (Option.isNone_iff_eq_none.mp hg)
      have hA : (gdOf L P w K mg).fA f = He.ga K d.at_.1 := by
        show (match L.defs[f]? with
          | some d => He.fAd K d.at_
          | none => 0) = _
        rw [q]
        show He.fAd K d.at_ = _
        rw [e]
        rfl
      have hN : (gdOf L P w K mg).nm.fnN f = d.at_.1 := by
        show ((L.defs[f]?).map (·.at_.1)).getD Str.empty = _
        rw [q]
        rfl
      rw [hA, hN]
      have z := List.all_eq_true.mp h2 d (List.mem_of_getElem? q)
      rw [show d.at_.2 = none from by rw [e]] at z
      refine ⟨He.glo_ok X Gn z, ?_⟩
      obtain ⟨fd, F⟩ := hd.def_ f (d := d.dd) (by rw [List.getElem?_map, q]; rfl)
      have kp := F.kp
      rw [show He.fAd K d.dd.at_ = He.ga K d.at_.1 from by show He.fAd K d.at_ = _; rw [e]; rfl] at kp
      exact kp
  · obtain ⟨x, hx, e⟩ := tab_cl hi
    have hcl : (gdOf L P w K mg).cA i = He.ga K x.1 := by
      show He.ga K (((L.cls[i]?).map (·.1)).getD Str.empty) = _
      rw [hx]
      rfl
    have hcn : (gdOf L P w K mg).nm.clN i = x.1 := by
      show ((L.cls[i]?).map (·.1)).getD Str.empty = _
      rw [hx]
      rfl
    have z := List.all_eq_true.mp h3 x (List.mem_of_getElem? hx)
    obtain ⟨z1, z⟩ := ba z
    obtain ⟨z2, z⟩ := ba z
    obtain ⟨z3, z⟩ := ba z
    obtain ⟨z4, z⟩ := ba z
    obtain ⟨z5, z⟩ := ba z
    obtain ⟨z6, z⟩ := ba z
    obtain ⟨z7, z⟩ := ba z
    obtain ⟨z8, z⟩ := ba z
    obtain ⟨z9, z⟩ := ba z
    obtain ⟨z10, z⟩ := ba z
    obtain ⟨z11, z12⟩ := ba z
    subst e
    refine ⟨by rw [hcl]; exact He.cls_ok z1, by rw [hcl]; exact He.eqO_ok z3, He.eqO_ok z4, eqB_ok z5, by rw [hcl]; exact eqB_ok z6, fun t ht => ?_, fun j cd hj => ?_, fun t ht => by rw [hcl]; exact eqB_ok (List.all_eq_true.mp z9 t ht), by rw [hcl, hcn]; exact He.glo_ok X Gn z2, fun f hf => ?_, fun f g hf => ?_, ?_⟩
    · rw [hcl]
      have y := eqB_ok (List.all_eq_true.mp z7 t ht)
      have e : tyC (gdOf L P w K mg) t = tyC0 t := by
        cases t with
        | cls c => exact absurd ht (by simp)
        | _ => rfl
      rw [e]
      exact y
    · obtain ⟨y, hy, e⟩ := tab_cl hj
      have hcj : (gdOf L P w K mg).cA j = He.ga K y.1 := by
        show He.ga K (((L.cls[j]?).map (·.1)).getD Str.empty) = _
        rw [hy]
        rfl
      rw [hcl, hcj]
      have m : (y, j) ∈ L.cls.zipIdx := by
        rw [List.mem_zipIdx_iff_getElem?]
        exact hy
      exact eqB_ok (List.all_eq_true.mp z8 (y, j) m)
    · obtain ⟨y1, y2⟩ := ba (List.all_eq_true.mp z10 f hf)
      exact ⟨of_decide_eq_true y1, by rw [hcl]; exact He.noat_ok y2⟩
    · obtain ⟨y1, y⟩ := ba (List.all_eq_true.mp z11 (f, g) (mem_of_look hf))
      obtain ⟨y2, y3⟩ := ba y
      obtain ⟨e1, e2⟩ := mAd_ok (P := P) (w := w) (mg := mg) y3
      refine ⟨of_decide_eq_true y1, ?_, e2⟩
      rw [hcl, ← e1]
      exact He.meth_ok y2
    · cases q : x.2.init with
      | none =>
        rw [q] at z12
        obtain ⟨y1, y⟩ := ba z12
        obtain ⟨y2, y3⟩ := ba y
        show Mk0 K (He.ga K (L.nm.clN i))
        rw [show He.ga K (L.nm.clN i) = He.ga K x.1 from hcl]
        exact ⟨y1, He.eqO_ok y2, y3⟩
      | some f =>
        rw [q] at z12
        obtain ⟨y1, y2⟩ := ba z12
        obtain ⟨e1, e2⟩ := mAd_ok (P := P) (w := w) (mg := mg) y2
        show Mk K (He.ga K (L.nm.clN i)) ((gdOf L P w K mg).fA f)
        rw [← e1, show He.ga K (L.nm.clN i) = He.ga K x.1 from hcl]
        exact He.mkr_ok y1
  · exact nodup_at (nodupB_ok h4) hf hg e
  · obtain ⟨x, hx, e⟩ := Option.map_eq_some_iff.mp (show (L.con[g]?).map (·.2) = some t from hg)
    have z := List.all_eq_true.mp h5 x (List.mem_of_getElem? hx)
    have hn : (gdOf L P w K mg).nm.coN g = x.1 := by
      show ((L.con[g]?).map (·.1)).getD Str.empty = _
      rw [hx]
      rfl
    unfold conF at z
    subst e
    rw [hn]
    cases q : x.2 with
    | int i =>
      rw [q] at z
      obtain ⟨t, e⟩ := He.int_ok X Gn z
      exact ⟨.int i, _, e, ⟨t, rfl⟩, fun F => .int i, fun ts z => by cases z⟩
    | str y =>
      rw [q] at z
      obtain ⟨t, e⟩ := He.str_ok X Gn z
      exact ⟨.str y, _, e, ⟨t, rfl⟩, fun F => .str y, fun ts z => by cases z⟩
    | tup ts =>
      rw [q] at z
      obtain ⟨a, o, its, n, e1, e2, e3, e4, e5, e6, e7⟩ := tup_ok z
      obtain ⟨vs, w1, w2⟩ := vsB_ok (G := gdOf L P w K mg) e6
      exact ⟨.ref a, _, PySem.W.mg_of X Gn e1, rfl, fun F => .tup (.inr ⟨o, its, n, e2, e3, e4, e5, w1⟩) (w2 F), fun ts z => by cases z; exact ⟨a, o, rfl, e2, e3, e7⟩⟩
    | _ => rw [q] at z; cases z
  · obtain ⟨x, hx, e⟩ := Option.map_eq_some_iff.mp (show (L.exc[c]?).map (·.2) = some l from hc)
    have m : (x, c) ∈ L.exc.zipIdx := by
      rw [List.mem_zipIdx_iff_getElem?]
      exact hx
    obtain ⟨z0, z⟩ := ba (List.all_eq_true.mp h6 (x, c) m)
    obtain ⟨z1, z⟩ := ba z
    obtain ⟨z2, z⟩ := ba z
    obtain ⟨z3, z⟩ := ba z
    obtain ⟨z4, z⟩ := ba z
    obtain ⟨z5, z⟩ := ba z
    obtain ⟨z6, z⟩ := ba z
    obtain ⟨z7, z⟩ := ba z
    obtain ⟨z8, z⟩ := ba z
    obtain ⟨z9, z⟩ := ba z
    obtain ⟨z10, z⟩ := ba z
    obtain ⟨z11, z⟩ := ba z
    obtain ⟨z12, z13⟩ := ba z
    have hn : (gdOf L P w K mg).nm.exN c = x.1 := by
      show ((L.exc[c]?).map (·.1)).getD Str.empty = _
      rw [hx]
      rfl
    have hA : ∀ (d : Nat) (y : Str × List Nat), L.exc[d]? = some y → (gdOf L P w K mg).eA d = He.ga K y.1 := fun d y hy => by
      show He.ga K (((L.exc[d]?).map (·.1)).getD Str.empty) = _
      rw [hy]
      rfl
    have hAx := hA c x hx
    refine ⟨by rw [hn, hAx]; exact He.glo_ok X Gn z2, fun hr => ?_, by rw [hAx]; exact eqB_ok z3, by rw [hAx]; exact of_decide_eq_true z4, ?_, by rw [hAx]; exact eqB_ok z12, fun lc hlc d l' hd => ?_⟩
    · have hr : (!L.exi.contains c) = true := hr
      have z1 : (L.exi.contains c || (He.Fa.exc x.1).ok K) = true := z1
      rw [nb hr] at z1
      obtain ⟨e1, e2, e3, e4⟩ := He.exc_ok (show (He.Fa.exc x.1).ok K = true from z1)
      rw [hAx]
      exact ⟨e1, e2⟩
    · rw [hAx]
      exact ⟨He.eqO_ok z5, He.eqO_ok z6, eqB_ok z3, z7, He.eqO_ok z8, He.eqO_ok z9, eqB_ok z10, eqB_ok z11⟩
    · obtain ⟨y, hy, ey⟩ := Option.map_eq_some_iff.mp (show (L.exc[d]?).map (·.2) = some l' from hd)
      have my : (y, d) ∈ L.exc.zipIdx := by
        rw [List.mem_zipIdx_iff_getElem?]
        exact hy
      have hlc : (L.exc[c]?).map (·.2) = some lc := hlc
      rw [hx] at hlc
      cases hlc
      obtain ⟨w1, w2⟩ := ba (List.all_eq_true.mp z13 (y, d) my)
      rw [hAx, hA d y hy]
      exact ⟨eqB_ok w1, eqB_ok w2⟩
  · obtain ⟨x, hx, e⟩ := Option.map_eq_some_iff.mp (show (L.dcs[g]?).map (·.2) = some kvs from hg)
    subst e
    obtain ⟨z1, z2⟩ := ba (List.all_eq_true.mp h0 x (List.mem_of_getElem? hx))
    have hn : (gdOf L P w K mg).nm.dcN g = x.1 := by
      show ((L.dcs[g]?).map (·.1)).getD Str.empty = _
      rw [hx]
      rfl
    have hw : He.dicW K (He.ga K x.1) = some (He.keysIn w.params (x.2.map (·.1))) := by
      have z : (L.dcs.map fun x => He.dicW K (He.ga K x.1))[g]? = (L.dcs.map fun x => some (He.keysIn w.params (x.2.map (·.1))))[g]? := by rw [hdc]
      rw [List.getElem?_map, List.getElem?_map, hx] at z
      exact Option.some.inj z
    obtain ⟨es, n, D⟩ := He.dicW_ok hw
    refine ⟨_, es, n, by rw [hn]; exact He.glo_ok X Gn z1, D, fun z => ?_⟩
    rw [D.at_] at z2
    obtain ⟨i1, i2⟩ := es_find (show esB x.2 es.toList = true from z2)
    have i2 := i2 z
    show ∃ r, PySem.W.nsIn K (He.ga K x.1) z = some r ∧ _
    unfold PySem.W.nsIn
    rw [D.at_]
    cases hk : x.2.lookup z with
    | none =>
      rw [hk] at i2
      exact ⟨none, by show (match es.toList.find? (·.key.isStr z) with
        | some e => some (some e.val)
        | none => if es.toList.any (·.refKey) then none else some none) = _; rw [i2, i1]; rfl, rfl⟩
    | some t =>
      rw [hk] at i2
      obtain ⟨e, v, q1, q2, q3⟩ := i2
      exact ⟨some e.val, by show (match es.toList.find? (·.key.isStr z) with
        | some e => some (some e.val)
        | none => if es.toList.any (·.refKey) then none else some none) = _; rw [q1], _, v, rfl, q2, q3⟩
theorem def_of (c : obsR L K = valR L w) (hb : L.defs.all (defB L) = true) {f : Nat} {x : DefX} (hx : L.defs[f]? = some x) : ∃ fd, FunD K x.name x.qual (defArgs x.st) (defBody x.st) (defScope x.st) ((x.fn.dfl.map dvT).map (He.Dv.v K)) [] ((gdOf L P w K mg).fA f) fd ∧ FnScope x.N x.ps (defScope x.st) ∧
    x.ps.length = x.fn.np ∧ x.N.length = x.fn.ns ∧ chkB (ckOf x.fn.hot x.N (defScope x.st) L.nm L.tab L.glF) x.fn.body (defBody x.st) = true ∧ argsB (defArgs x.st) x.ps = true ∧ x.fn.dfl.all dvOk = true ∧ x.fn.dfl.length ≤ x.fn.np := by
  have hd : He.SaysD [] (L.defs.map DefX.dd) K := congrArg (fun z : AlR => z.1) c
  obtain ⟨fd, F⟩ := hd.def_ f (d := x.dd) (by rw [List.getElem?_map, hx]; rfl)
  have z := List.all_eq_true.mp hb x (List.mem_of_getElem? hx)
  obtain ⟨z1, z⟩ := ba z
  obtain ⟨z2, z⟩ := ba z
  obtain ⟨z3, z⟩ := ba z
  obtain ⟨z4, z⟩ := ba z
  obtain ⟨z5, z6⟩ := ba z
  refine ⟨fd, ?_, scB_ok z1, of_decide_eq_true z2, of_decide_eq_true z3, z4, z5, (ba z6).1, of_decide_eq_true (ba z6).2⟩
  have hA : (gdOf L P w K mg).fA f = He.fAd K x.at_ := by
    show (match L.defs[f]? with
      | some d => He.fAd K d.at_
      | none => 0) = _
    rw [hx]
  rw [hA]
  exact F
theorem binds_of {x qual : Str} {a : Arguments} {body : List Stmt} {sc : Scope} {f : Addr} {fd : FuncData} {N ps : List Str} (F : FunD K x qual a body sc [] [] f fd) (S : FnScope N ps sc) (h : argsB a ps = true) : Binds K fd ps [] :=
  F.bindsN fun kV doc pm an cdv ct us hl => bind_plain h (by rw [← S.pre]; exact S.nd.sublist (List.take_sublist _ _)) hl
theorem xa_of (X : K.In h) (Gn : h.Ns mainGlobals mg) (c : obsR L K = valR L w) (hb : L.defs.all (defB L) = true) (i g f : Nat) (hi : (gdOf L P w K mg).tab.exa i = some (g, f)) : InitX (gdOf L P w K mg) i g f := by
  have hf : factsB L K = true := congrArg (fun z : AlR => z.2.1) c
  obtain ⟨h0, hf⟩ := ba hf
  obtain ⟨h1, h2⟩ := ba hf
  obtain ⟨h2, h3⟩ := ba h2
  obtain ⟨h3, h4⟩ := ba h3
  obtain ⟨h4, h5⟩ := ba h4
  obtain ⟨h5, h6⟩ := ba h5
  have hi : (if (L.exc[i]?).isSome then L.exa.lookup i else none) = some (g, f) := hi
  cases hx : L.exc[i]? with
  | none => rw [hx] at hi; cases hi
  | some x =>
    rw [hx] at hi
    have hi : L.exa.lookup i = some (g, f) := hi
    have m : (x, i) ∈ L.exc.zipIdx := by
      rw [List.mem_zipIdx_iff_getElem?]
      exact hx
    obtain ⟨z0, z⟩ := ba (List.all_eq_true.mp h6 (x, i) m)
    obtain ⟨z1, z⟩ := ba z
    obtain ⟨z2, z⟩ := ba z
    obtain ⟨z3, z⟩ := ba z
    obtain ⟨z4, z⟩ := ba z
    have z0 : xaO L K x i = true := z0
    unfold xaO at z0
    rw [hi] at z0
    have z0 : xaB L K x g f = true := z0
    unfold xaB at z0
    cases hd : L.defs[g]? with
    | none => rw [hd] at z0; cases z0
    | some d =>
      rw [hd] at z0
      cases hn : L.ats[f]? with
      | none => rw [hn] at z0; cases z0
      | some n =>
        rw [hn] at z0
        obtain ⟨y1, y⟩ := ba z0
        obtain ⟨y2, y⟩ := ba y
        obtain ⟨y3, y⟩ := ba y
        obtain ⟨y4, y⟩ := ba y
        obtain ⟨y5, y⟩ := ba y
        obtain ⟨y6, y⟩ := ba y
        obtain ⟨y7, y8⟩ := ba y
        unfold ipB at y8
        cases hp : initP (defBody d.st) with
        | none => rw [hp] at y8; cases y8
        | some q =>
          obtain ⟨b, s, a, f'⟩ := q
          rw [hp] at y8
          obtain ⟨w1, y⟩ := ba y8
          obtain ⟨w2, y⟩ := ba y
          obtain ⟨w3, y⟩ := ba y
          obtain ⟨w4, y⟩ := ba y
          obtain ⟨w5, y⟩ := ba y
          obtain ⟨w6, y⟩ := ba y
          obtain ⟨w7, y⟩ := ba y
          obtain ⟨w8, y⟩ := ba y
          obtain ⟨w9, y⟩ := ba y
          obtain ⟨w10, y⟩ := ba y
          obtain ⟨w11, y⟩ := ba y
          obtain ⟨w12, w13⟩ := ba y
          obtain ⟨c1, y⟩ := ba w13
          obtain ⟨c2, c3⟩ := ba y
          have w1 : f' = n := of_decide_eq_true w1
          subst w1
          have hen : (gdOf L P w K mg).nm.exN i = x.1 := by
            show ((L.exc[i]?).map (·.1)).getD Str.empty = _
            rw [hx]
            rfl
          have heA : (gdOf L P w K mg).eA i = He.ga K x.1 := by
            show He.ga K ((gdOf L P w K mg).nm.exN i) = _
            rw [hen]
          have hfA : (gdOf L P w K mg).fA g = He.fAd K d.at_ := by
            show (match L.defs[g]? with
              | some d => He.fAd K d.at_
              | none => 0) = _
            rw [hd]
          have hat : (gdOf L P w K mg).nm.atN f = f' := by
            show L.ats.getD f Str.empty = _
            rw [List.getD_eq_getElem?_getD, hn]
            rfl
          obtain ⟨fd, F, Sc, h7, h8, h9, h10, h11, h12⟩ := def_of (P := P) (w := w) (mg := mg) c hb hd
          have e0 : d.fn.dfl = [] := List.isEmpty_iff.mp y7
          rw [e0] at F
          have vV : PySem.W.findCls K (.ref (He.ga K b)) (.type "type") "__init__" = some (.val (.builtin "ValueError.__init__")) := by
            cases q : PySem.W.findCls K (.ref (He.ga K b)) (.type "type") "__init__" with
            | none => rw [q] at c3; cases c3
            | some r =>
              rw [q] at c3
              cases r with
              | val u => cases u with
                | builtin n =>
                  have c3 : (n == "ValueError.__init__") = true := c3
                  rw [eq_of_beq c3]
                | _ => cases c3
              | _ => cases c3
          refine ⟨(List.getElem?_eq_some_iff.mp hn).1, by rw [hen, heA]; exact He.glo_ok X Gn z2, ⟨?_, ?_, ?_, ?_, ?_⟩, ?_, ?_, ?_, d.name, d.qual, _, _, _, fd, d.N, d.ps, b, s, a, He.ga K b, .type "type", F, Sc, binds_of F Sc h10, by rw [hat]; exact hp, of_decide_eq_true w2, of_decide_eq_true w3, of_decide_eq_true w4, w5, w6, w7, w8, w9, w10, w11, He.glo_ok X Gn w12, He.free_ok X Gn (List.all_eq_true.mp h1 "str" (by decide +kernel)), ⟨c1, He.eqO_ok c2⟩, vV⟩
          · rw [heA]; exact oexB_ok y1
          · rw [heA]; exact He.eqO_ok y2
          · rw [heA]; exact eqB_ok z3
          · rw [heA]; exact of_decide_eq_true z4
          · rw [heA]; exact y3
          · rw [heA, hfA]; exact He.eqO_ok y4
          · rw [hfA]; exact of_decide_eq_true y5
          · rw [heA, hat]; exact He.eqO_ok y6
theorem defOk_of (c : obsR L K = valR L w) (hb : L.defs.all (defB L) = true) : ∀ f d, (gdOf L P w K mg).tab.fn f = some d → DefOk (gdOf L P w K mg) L.glF f d := fun f d hf => by
  obtain ⟨x, hx, e⟩ := tab_fn hf
  subst e
  obtain ⟨fd, F, Sc, h1, h2, h3, h4, h5, h6⟩ := def_of (P := P) (w := w) (mg := mg) c hb hx
  refine ⟨x.name, x.qual, _, _, _, _, fd, x.N, x.ps, F, Sc, h1, h2, h3, fun m hm hd => ?_⟩
  have nd : x.ps.Nodup := by rw [← Sc.pre]; exact Sc.nd.sublist (List.take_sublist _ _)
  have rep : ∀ (W : Wd) (l : List T), l.all dvOk = true → Paired (RepV (gdOf L P w K mg) W) ((l.map dvT).map (He.Dv.v K)) (l.map .t) := fun W l => by
    induction l with
    | nil => exact fun _ => .nil
    | cons t l ih =>
      intro h
      obtain ⟨g1, g2⟩ := ba h
      refine .cons ?_ (ih g2)
      show Rep _ W.F ((dvT t).v K) t
      cases t with
      | non => exact .non
      | bl b => exact .bl b
      | int i => exact .int i
      | str z => exact .str z
      | _ => cases g1
  cases hq : x.fn.dfl with
  | nil =>
    rw [hq] at F
    refine ⟨[], [], binds_of F Sc h4, .nil, fun W => ?_⟩
    have e : dflV x.fn m = [] := by
      unfold dflV
      rw [hq, List.drop_nil]
      rfl
    rw [e]
    exact .nil
  | cons t ts =>
    have hne : (x.fn.dfl.map dvT).map (He.Dv.v K) ≠ [] := by rw [hq]; exact fun z => nomatch z
    have hlen : ((x.fn.dfl.map dvT).map (He.Dv.v K)).length = x.fn.dfl.length := by rw [List.length_map, List.length_map]
    obtain ⟨ds, h7, h8⟩ := F.binds1 (ps := x.ps) m (x.fn.dfl.length - (x.fn.np - m)) hne (by rw [hlen, h1]; omega) fun Ta kV doc pm an cdv ct us its hu hi => by
      have z := bind_dfl (x := x.name) (qual := x.qual) (body := defBody x.st) (sc := defScope x.st) (kV := kV) (doc := doc) (pm := pm) (an := an) (cdv := cdv) (ct := ct) (us := us) (its := its) (Ta := Ta) h4 nd (by omega) (by omega) (by omega)
      rw [show us.length - (x.ps.length - its.length) = x.fn.dfl.length - (x.fn.np - m) by omega] at z
      exact z
    refine ⟨ds, _, h8, h7, fun W => ?_⟩
    unfold dflV
    rw [List.map_drop]
    exact Paired.drop' _ (rep W x.fn.dfl h5)
end
theorem walk_rw {l : PySem.W.OpenLaw} {L : LawD} {q : Program} {loose : List Str} {XP : (Str → Option Value) → Heap → Prop} {d : DefRec} {m n lawId : Nat} {dx : DefX} (hn : l.most = some 63) (hdf : d.params.defaults = []) (hx : L.defs[lawId]? = some dx) (hname : d.name = dx.at_.1) (hat : dx.at_.2 = none)
    (hnp : dx.fn.np = 1) (hdl : dx.fn.dfl = []) (hnh : dx.fn.hot = false) (hb : L.defs.all (defB L) = true) (hm : m ≤ 100) (main : ∀ ns : List Int, ns.length ≤ 63 → ∃ S, callF L.tab m lawId [Val.t (.scr ns)] [] = .ok (.t (.bl true)) S) :
    PySem.W.WalkO q loose XP (hookR n L).says l.row.toRowW d [] (fun f vs => PySem.call f vs) := by
  refine Att.attach_call hn hdf fun w s0 s1 mg mb fa o pm cd doc a vs ns Gr Y ho hd hcd hmg hobj hints hlen hg => ?_
  obtain ⟨K, KX, c⟩ := Y
  have g := gOk_of (P := l.prog) (w := w) KX Gr.T.g c (xa_of KX Gr.T.g c hb)
  obtain ⟨fd, F, Sc, h1, h2, h3, h4, _, _⟩ := def_of (P := l.prog) (w := w) (mg := mg) c hb hx
  have h5 := hdl
  rw [hdl] at F
  rw [hnh] at h3
  have hgl : L.glF lawId = true := by
    unfold LawD.glF
    rw [hx]
    show dx.at_.2.isNone = true
    rw [hat]
    rfl
  have efa : (gdOf L l.prog w K mg).fA lawId = fa := by
    have z := (g.gl lawId hgl).1
    have hN : (gdOf L l.prog w K mg).nm.fnN lawId = dx.at_.1 := by
      show ((L.defs[lawId]?).map (·.at_.1)).getD Str.empty = _
      rw [hx]
      rfl
    rw [hN, ← hname] at z
    have z : mg d.name = some (.ref _) := z
    rw [hmg] at z
    cases z
    rfl
  rw [efa] at F
  obtain ⟨x, hps⟩ : ∃ x, dx.ps = [x] := by
    have z := h1.trans hnp
    cases q : dx.ps with
    | nil => rw [q] at z; cases z
    | cons x xs =>
      rw [q] at z
      cases xs with
      | nil => exact ⟨x, rfl⟩
      | cons _ _ => cases z
  cases m with
  | zero =>
    obtain ⟨S, z⟩ := main ns hlen
    cases z
  | succ m =>
    have hr : Room (2 * m + 3) callerA := Room.mono (j := 2 * m + 3) (k := 210) ⟨rfl, by decide, by decide⟩ (by omega)
    refine law_call (x := x) (fd := fd) (k := 2 * m + 3) (CX := L2.CX l.prog w) (sp := spR (gdOf L l.prog w K mg) dx.fn.np (runFn L.tab (callF L.tab m) dx.fn)) KX Gr.T.g Gr.T.b Gr.T.builtins Gr.T.nolimit hg hobj hints (Nat.le_trans hlen (by decide)) hr (fun base hK hN => ?_) (fun s u => ?_) (fun H hO hS => ?_) (fun H e s' hc => ?_)
    · rw [← hps]
      exact fn_ok_of (G := gdOf L l.prog w K mg) rfl (k := 2 * m + 1) g F Sc (Nat.succ_pos _) h1 h2 h3 (all_facts rfl g (defOk_of c hb) m)
    · have z := F.bindsA (ps := dx.ps) (fun kV doc pm an cdv ct us hl => bind_plain h4 (by rw [← Sc.pre]; exact Sc.nd.sublist (List.take_sublist _ _)) hl) s [u] (by rw [hps]; rfl)
      rw [hps] at z
      exact z
    · obtain ⟨S, z⟩ := main ns hlen
      refine ⟨⟨H, fun _ => none, 0, fun _ => 0⟩, [], [Val.t (.scr ns)], ⟨Same.refl _, rfl, fun k c e => by simp at e, fun j k c d e => by simp at e, fun a o e => by cases e⟩, .cons (.scr hS) .nil, hnp.symm ▸ rfl, ?_⟩
      have z : runFn L.tab (callF L.tab m) dx.fn [Val.t (.scr ns)] [] = .ok (.t (.bl true)) S := by
        have z : (match L.tab.fn lawId with
          | none => R.bad
          | some d => runFn L.tab (callF L.tab m) d ([Val.t (.scr ns)] ++ (d.dfl.drop (d.dfl.length - (d.np - 1))).map Val.t) []) = .ok (.t (.bl true)) S := z
        rw [show L.tab.fn lawId = some dx.fn from by show (L.defs[lawId]?).map (·.fn) = _; rw [hx]; rfl] at z
        have z : runFn L.tab (callF L.tab m) dx.fn ([Val.t (.scr ns)] ++ (dx.fn.dfl.drop (dx.fn.dfl.length - (dx.fn.np - 1))).map Val.t) [] = .ok (.t (.bl true)) S := z
        rw [h5, List.drop_nil, List.map_nil, List.append_nil] at z
        exact z
      show Post _ _ _ _ _ (runFn L.tab (callF L.tab m) dx.fn [Val.t (.scr ns)] []) _
      rw [z]
      intro W' b H' lw sw rw'
      cases rw'
      rfl
    · obtain ⟨_, _, _, _, _, _, _, _, _, _, _, _, z⟩ := hc
      exact z
end Rw
namespace Rw
open PySem PySem.Spec PyProof.Rows L2
theorem callF_s (tab : Tab) (n f : Nat) (vs : List Val) (S : Store) : callF tab (n + 1) f vs S = (match tab.fn f with
    | none => .bad
    | some d => runFn tab (callF tab n) d (vs ++ (d.dfl.drop (d.dfl.length - (d.np - vs.length))).map .t) S) := rfl
theorem callF_d {tab : Tab} {n f : Nat} {d : Fn} {vs : List Val} {S : Store} (h : tab.fn f = some d) (hd : d.dfl = []) : callF tab (n + 1) f vs S = runFn tab (callF tab n) d vs S := by
  rw [callF_s, h]
  show runFn tab (callF tab n) d (vs ++ (d.dfl.drop (d.dfl.length - (d.np - vs.length))).map .t) S = _
  rw [hd, List.drop_nil, List.map_nil, List.append_nil]
def resP (m : RS) (S : Store) : R Val := match m with
  | .nx _ _ => .ok (.t .non) S
  | .rt v S1 => (match toT S1 v with
    | some (x, _) => .ok (.t x) S
    | none => .bad)
  | .ex x _ _ => .ex x S
  | _ => .bad
@[simp] theorem resP_nx (env : Env) (S1 S : Store) : resP (.nx env S1) S = .ok (.t .non) S := rfl
@[simp] theorem resP_rt (x : T) (S1 S : Store) : resP (.rt (.t x) S1) S = .ok (.t x) S := rfl
@[simp] theorem resP_ex (x : Exn) (env : Env) (S1 S : Store) : resP (.ex x env S1) S = .ex x S := rfl
theorem runFn_p {tab : Tab} {call : Call} {d : Fn} {xs : List T} {S : Store} (hp : d.pure = true) (hl : xs.length = d.np) :
    runFn tab call d (xs.map .t) S = resP (dSs tab call d.body (xs.map (fun x => some (.t x)) ++ List.replicate (d.ns - d.np) none) []) S := by
  have ha : ∀ xs : List T, allT (xs.map .t) = some xs := fun xs => by
    induction xs with
    | nil => rfl
    | cons x xs ih =>
      show (allT (xs.map .t)).map (x :: ·) = _
      rw [ih]
      rfl
  unfold runFn
  rw [if_pos (by rw [List.length_map, hl]), if_pos hp, ha, List.map_map]
  rfl
theorem callP {tab : Tab} {n f : Nat} {d : Fn} (xs : List T) {S : Store} (h : tab.fn f = some d) (hd : d.dfl = []) (hp : d.pure = true) (hl : xs.length = d.np) :
    callF tab (n + 1) f (xs.map .t) S = resP (dSs tab (callF tab n) d.body (xs.map (fun x => some (.t x)) ++ List.replicate (d.ns - d.np) none) []) S := by
  rw [callF_d h hd, runFn_p hp hl]
theorem callQ {tab : Tab} {n f np ns : Nat} {hh : Bool} {ss : ISs} (xs : List T) (env : Env) {S : Store} (h : tab.fn f = some ⟨true, np, ns, [], ss, hh⟩) (hl : xs.length = np)
    (he : xs.map (fun x => some (.t x)) ++ List.replicate (ns - np) none = env) :
    callF tab (n + 1) f (xs.map .t) S = resP (dSs tab (callF tab n) ss env []) S := by
  subst he
  exact callP xs h rfl rfl hl
@[simp] theorem seq_nx (env : Env) (S : Store) (k : Env → Store → RS) : (RS.nx env S).seq k = k env S := rfl
@[simp] theorem seq_rt (v : Val) (S : Store) (k : Env → Store → RS) : (RS.rt v S).seq k = .rt v S := rfl
@[simp] theorem seq_ex (x : Exn) (env : Env) (S : Store) (k : Env → Store → RS) : (RS.ex x env S).seq k = .ex x env S := rfl
@[simp] theorem seq_ct (env : Env) (S : Store) (k : Env → Store → RS) : (RS.ct env S).seq k = .ct env S := rfl
@[simp] theorem seq_bk (env : Env) (S : Store) (k : Env → Store → RS) : (RS.bk env S).seq k = .bk env S := rfl
@[simp] theorem seq_ite {c : Prop} [Decidable c] (a b : RS) (k : Env → Store → RS) : (if c then a else b).seq k = if c then a.seq k else b.seq k := by split <;> rfl
@[simp] theorem bind_ite {α β : Type} {c : Prop} [Decidable c] (a b : R α) (k : α → Store → R β) : (if c then a else b).bind k = if c then a.bind k else b.bind k := by split <;> rfl
@[simp] theorem st_ite {α : Type} {c : Prop} [Decidable c] (a b : R α) (env : Env) (k : α → Store → RS) : (if c then a else b).st env k = if c then a.st env k else b.st env k := by split <;> rfl
@[simp] theorem resP_ite {c : Prop} [Decidable c] (a b : RS) (S : Store) : resP (if c then a else b) S = if c then resP a S else resP b S := by split <;> rfl
@[simp] theorem eqT_int (i j : Int) : eqT (.int i) (.int j) = some (decide (i = j)) := by
  show some (i == j) = _
  rw [Bool.beq_eq_decide_eq]
theorem eqvAll_nil (ns : List Int) : PyData.eqvAll (ns.map .int) [] = decide (ns = []) := by
  cases ns <;> rfl
@[simp] theorem eqT_scr_nil (ns : List Int) : eqT (.scr ns) (.lst []) = some (decide (ns = [])) := by
  show (if min (PyData.depth (.list (ns.map .int))) 1 ≤ 60 then some (PyData.eqvAll (ns.map .int) []) else none) = _
  rw [if_pos (by omega), eqvAll_nil]
@[simp] theorem cmpV_t (op : CmpOp) (x y : T) (S : Store) : cmpV op (.t x) (.t y) S = ofT ((cmpT op x y).map .bl) S := by cases op <;> rfl
@[simp] theorem cmpV_isr (n : Nat) (S : Store) : cmpV .Is (.r n) (.t .non) S = .ok (.t (.bl false)) S := rfl
@[simp] theorem cmpV_isnr (n : Nat) (S : Store) : cmpV .IsNot (.r n) (.t .non) S = .ok (.t (.bl true)) S := rfl
@[simp] theorem cmpT_isnn : cmpT .Is .non .non = some true := rfl
@[simp] theorem cmpT_innn : cmpT .IsNot .non .non = some false := rfl
@[simp] theorem cmpT_eq (x y : T) : cmpT .Eq x y = eqT x y := rfl
@[simp] theorem cmpT_ne (x y : T) : cmpT .NotEq x y = (eqT x y).map not := rfl
@[simp] theorem cmpT_lt (i j : Int) : cmpT .Lt (.int i) (.int j) = some (decide (i < j)) := rfl
@[simp] theorem cmpT_le (i j : Int) : cmpT .LtE (.int i) (.int j) = some (decide (i ≤ j)) := rfl
@[simp] theorem cmpT_gt (i j : Int) : cmpT .Gt (.int i) (.int j) = some (decide (j < i)) := rfl
@[simp] theorem cmpT_ge (i j : Int) : cmpT .GtE (.int i) (.int j) = some (decide (j ≤ i)) := rfl
@[simp] theorem binV_int (op : Operator) (i j : Int) (S : Store) : binV op (.t (.int i)) (.t (.int j)) S = ofT ((binI op i j).map .int) S := rfl
@[simp] theorem binI_add (i j : Int) : binI .Add i j = some (i + j) := rfl
@[simp] theorem binI_sub (i j : Int) : binI .Sub i j = some (i - j) := rfl
theorem binI_mulL {i j : Int} (h : bigI i = true) : binI .Mult i j = some (i * j) := if_pos (by rw [h]; rfl)
theorem binI_mulR {i j : Int} (h : bigI j = true) : binI .Mult i j = some (i * j) := if_pos (by rw [h, Bool.or_true])
theorem binI_div {i j : Int} (h : 0 < j) (h2 : j < 1073741824) : binI .FloorDiv i j = some (i / j) := if_pos ⟨h, by omega⟩
theorem binI_mod {i j : Int} (h : 0 < j) : binI .Mod i j = some (i % j) := if_pos h
@[simp] theorem pow_20 : binI .Pow 2 20 = some 1048576 := by decide
@[simp] theorem pow_21 : binI .Pow 2 21 = some 2097152 := by decide
@[simp] theorem pow_24 : binI .Pow 2 24 = some 16777216 := by decide
@[simp] theorem pow_40 : binI .Pow 2 40 = some 1099511627776 := by decide
@[simp] theorem binI_and (i j : Int) : binI .BitAnd i j = some (Builtin.bitAnd i j) := rfl
theorem bigI_of {i : Int} (h : -18446744073709551616 < i) (h2 : i < 18446744073709551616) : bigI i = true := by
  unfold bigI
  exact decide_eq_true (by omega)
@[simp] theorem truV_bl (b : Bool) (S : Store) : truV (.t (.bl b)) S = .ok b S := rfl
@[simp] theorem lenV_scr (ns : List Int) (S : Store) : lenV (.t (.scr ns)) S = .ok (.t (.int ns.length)) S := rfl
@[simp] theorem lenV_lst (xs : List T) (S : Store) : lenV (.t (.lst xs)) S = .ok (.t (.int xs.length)) S := rfl
@[simp] theorem lenV_tup (xs : List T) (S : Store) : lenV (.t (.tup xs)) S = .ok (.t (.int xs.length)) S := rfl
@[simp] theorem blt_len (m : Bool) (a : Val) (S : Store) : bltV .len m [a] S = lenV a S := rfl
@[simp] theorem blt_min (m : Bool) (i j : Int) (S : Store) : bltV .min2 m [.t (.int i), .t (.int j)] S = .ok (.t (.int (min i j))) S := by
  show R.ok (Val.t (.int (if j < i then j else i))) S = _
  rw [show (if j < i then j else i) = min i j by split <;> omega]
@[simp] theorem blt_max (m : Bool) (i j : Int) (S : Store) : bltV .max2 m [.t (.int i), .t (.int j)] S = .ok (.t (.int (max i j))) S := by
  show R.ok (Val.t (.int (if j > i then j else i))) S = _
  rw [show (if j > i then j else i) = max i j by split <;> omega]
@[simp] theorem blt_int_b (m : Bool) (b : Bool) (S : Store) : bltV .int m [.t (.bl b)] S = .ok (.t (.int (if b then 1 else 0))) S := rfl
@[simp] theorem allT_cons (x : T) (vs : List Val) : allT (.t x :: vs) = (allT vs).map (x :: ·) := rfl
@[simp] theorem allT_nil : allT [] = some [] := rfl
@[simp] theorem alloc_f (vs : List Val) (S : Store) (h : vs.length ≤ szLine) : alloc false vs S = ofT ((allT vs).map .lst) S := by
  unfold alloc
  rw [if_pos h, if_neg (by decide)]
  cases allT vs <;> rfl
theorem atL_nat {α : Type} {xs : List α} {i : Int} (h : 0 ≤ i) (h2 : i < xs.length) : atL xs i = xs[i.toNat]? := by
  unfold atL ix
  rw [if_pos h, if_pos h2]
  rfl
@[simp] theorem sub_lst (xs : List T) (i : Int) (S : Store) : subV (.t (.lst xs)) (.t (.int i)) S = ofT (atL xs i) S := rfl
@[simp] theorem sub_tup (xs : List T) (i : Int) (S : Store) : subV (.t (.tup xs)) (.t (.int i)) S = ofT (atL xs i) S := rfl
@[simp] theorem sub_scr (ns : List Int) (i : Int) (S : Store) : subV (.t (.scr ns)) (.t (.int i)) S = ofT ((atL ns i).map .int) S := rfl
@[simp] theorem isi_int_int (tab : Tab) (i : Int) (S : Store) : isiV tab [.int] (.t (.int i)) S = .ok (.t (.bl true)) S := rfl
@[simp] theorem isi_int_bool (tab : Tab) (i : Int) (S : Store) : isiV tab [.bool] (.t (.int i)) S = .ok (.t (.bl false)) S := rfl
section
variable {tab : Tab} {call : Call} {i : Nat} {e : IE} {ss : ISs} {env : Env} {S S1 : Store} {v : Val}
theorem step_set (v : Val) (h : dE tab call e env S = .ok v S1) : dSs tab call (.cons (.set i e) ss) env S = dSs tab call ss (env.set i (some v)) S1 := by
  show (dS tab call (.set i e) env S).seq _ = _
  rw [show dS tab call (.set i e) env S = .nx (env.set i (some v)) S1 from by show (dE tab call e env S).st env _ = _; rw [h]; rfl]
  rfl
theorem step_ret (v : Val) (h : dE tab call e env S = .ok v S1) : dSs tab call (.cons (.ret e) ss) env S = .rt v S1 := by
  show (dS tab call (.ret e) env S).seq _ = _
  rw [show dS tab call (.ret e) env S = .rt v S1 from by show (dE tab call e env S).st env _ = _; rw [h]; rfl]
  rfl
theorem step_for {k : ItK} {src : IEs} {many : Bool} {tg : List Nat} {body : ISs} {vs its : List Val} {w : Wk} {S2 : Store} (h : dEs tab call src env S = .ok vs S1) (h2 : items k vs S1 = .ok (its, w) S2) :
    dSs tab call (.cons (.for_ k src many tg body) ss) env S = (forL w many tg (fun env S => dSs tab call body env S) its env S2).seq fun env S => dSs tab call ss env S := by
  show (dS tab call (.for_ k src many tg body) env S).seq _ = _
  rw [show dS tab call (.for_ k src many tg body) env S = forL w many tg (fun env S => dSs tab call body env S) its env S2 from by
    show (dEs tab call src env S).st env _ = _
    rw [h]
    show (items k vs S1).st env _ = _
    rw [h2]
    rfl]
@[simp] theorem dSs_nil : dSs tab call .nil env S = .nx env S := rfl
end
@[simp] theorem atL_2 (x y : T) (i : Int) (h : 0 ≤ i) (h2 : i < 2) : atL [x, y] i = some (if i = 0 then x else y) := by
  have : i = 0 ∨ i = 1 := by omega
  rcases this with rfl | rfl <;> rfl
@[simp] theorem atL_3 (x y z : T) (i : Int) (h : 0 ≤ i) (h2 : i < 3) : atL [x, y, z] i = some (if i = 0 then x else if i = 1 then y else z) := by
  have : i = 0 ∨ i = 1 ∨ i = 2 := by omega
  rcases this with rfl | rfl | rfl <;> rfl
@[simp] theorem ite_int (c : Prop) [Decidable c] (i j : Int) : (if c then T.int i else T.int j) = T.int (if c then i else j) := by split <;> rfl
theorem mod_bd (i : Int) {j : Int} (h : 0 < j) : 0 ≤ i % j ∧ i % j < j := ⟨Int.emod_nonneg _ (by omega), Int.emod_lt_of_pos _ h⟩
def resI (m : RS) : R Val := match m with
  | .nx _ S1 => .ok (.t .non) S1
  | .rt v S1 => .ok v S1
  | .ex x _ S1 => .ex x S1
  | _ => .bad
@[simp] theorem resI_nx (env : Env) (S1 : Store) : resI (.nx env S1) = .ok (.t .non) S1 := rfl
@[simp] theorem resI_rt (v : Val) (S1 : Store) : resI (.rt v S1) = .ok v S1 := rfl
@[simp] theorem resI_ex (x : Exn) (env : Env) (S1 : Store) : resI (.ex x env S1) = .ex x S1 := rfl
@[simp] theorem resI_ite {c : Prop} [Decidable c] (a b : RS) : resI (if c then a else b) = if c then resI a else resI b := by split <;> rfl
@[simp] theorem allT_map (xs : List T) : allT (xs.map .t) = some xs := by
  induction xs with
  | nil => rfl
  | cons x xs ih =>
    show (allT (xs.map .t)).map (x :: ·) = _
    rw [ih]
    rfl
@[simp] theorem binV_cat (xs ys : List T) (S : Store) : binV .Add (.t (.lst xs)) (.t (.lst ys)) S = alloc false ((xs ++ ys).map .t) S := by
  show alloc false (xs.map .t ++ ys.map .t) S = _
  rw [← List.map_append]
@[simp] theorem okW_none (S : Store) : okW none S := trivial
@[simp] theorem get_len (S : Store) (c : Cell) : (S ++ [c])[S.length]? = some c := by simp
theorem forL_idx {w : Wk} {many : Bool} {tg : List Nat} {body : Env → Store → RS} (P : Nat → Env → Store → Prop) (hw : ∀ i env S, P i env S → okW w S) : ∀ (its : List Val) (j : Nat) (env : Env) (S : Store), P j env S →
    (∀ i v env S, its[i]? = some v → P (j + i) env S → ∃ env1 env2 S2, target many tg v env S = some env1 ∧ body env1 S = .nx env2 S2 ∧ P (j + i + 1) env2 S2) → ∃ env2 S2, forL w many tg body its env S = .nx env2 S2 ∧ P (j + its.length) env2 S2
  | [], j, env, S, h, _ => ⟨env, S, forL_nil (hw _ _ _ h), h⟩
  | v :: vs, j, env, S, h, hs => by
    obtain ⟨e1, e2, S2, t1, b1, p1⟩ := hs 0 v env S rfl h
    obtain ⟨e3, S3, f3, p3⟩ := forL_idx P hw vs (j + 1) e2 S2 p1 fun i w env S hw p => by
      have z := hs (i + 1) w env S (by simpa using hw) (by rw [show j + (i + 1) = j + 1 + i by omega]; exact p)
      rw [show j + (i + 1) + 1 = j + 1 + i + 1 by omega] at z
      exact z
    refine ⟨e3, S3, ?_, by rw [List.length_cons, show j + (vs.length + 1) = j + 1 + vs.length by omega]; exact p3⟩
    rw [forL_cons (hw _ _ _ h), t1]
    show (match body e1 S with
        | .nx env2 S2 => forL w many tg body vs env2 S2
        | .ct env2 S2 => forL w many tg body vs env2 S2
        | .bk env2 S2 => .nx env2 S2
        | m => m) = _
    rw [b1]
    exact f3
@[simp] theorem items_rng1 (n : Int) (S : Store) (h : rngOk n = true) : items .range [.t (.int n)] S = .ok (rng 0 n, none) S := if_pos h
@[simp] theorem items_rng2 (a b : Int) (S : Store) (h : (rngOk a && rngOk b) = true) : items .range [.t (.int a), .t (.int b)] S = .ok (rng a b, none) S := if_pos h
theorem rngOk_of {i : Int} (h : -4611686018427387904 < i) (h2 : i < 4611686018427387904) : rngOk i = true := by
  unfold rngOk
  exact decide_eq_true (by omega)
end Rw
namespace Rw
open PySem PySem.Spec PyProof.Rows L2
abbrev Fr : Type := List (Nat × Cell)
structure Hs (S : Store) (h : Fr) : Prop where
  at_ : ∀ p ∈ h, S[p.1]? = some p.2
  nd : (h.map (·.1)).Nodup
theorem Hs.get {S : Store} {h : Fr} (H : Hs S h) {i : Nat} {c : Cell} (m : (i, c) ∈ h) : S[i]? = some c := H.at_ _ m
theorem Hs.lt {S : Store} {h : Fr} (H : Hs S h) {p : Nat × Cell} (m : p ∈ h) : p.1 < S.length := (List.getElem?_eq_some_iff.mp (H.at_ p m)).1
theorem Hs.push {S : Store} {h : Fr} (H : Hs S h) (c : Cell) : Hs (S ++ [c]) ((S.length, c) :: h) := by
  refine ⟨fun p m => ?_, ?_⟩
  · rcases List.mem_cons.mp m with e | m
    · subst e
      exact get_len S c
    · rw [List.getElem?_append_left (H.lt m)]
      exact H.at_ p m
  · rw [List.map_cons, List.nodup_cons]
    refine ⟨fun m => ?_, H.nd⟩
    obtain ⟨p, hp, e⟩ := List.mem_map.mp m
    have := H.lt hp
    omega
theorem Hs.more {S : Store} {h : Fr} (H : Hs S h) (T : Store) : Hs (S ++ T) h := ⟨fun p m => by rw [List.getElem?_append_left (H.lt m)]; exact H.at_ p m, H.nd⟩
theorem Hs.left {S : Store} {a b : Fr} (H : Hs S (a ++ b)) : Hs S a := ⟨fun q m => H.at_ q (List.mem_append_left _ m), by
  have := H.nd
  rw [List.map_append] at this
  exact (List.nodup_append.mp this).1⟩
end Rw
namespace Rw
open PySem PySem.Spec PyProof.Rows L2
section
variable {tab : Tab} {call : Call} {env : Env} {S S1 S2 S3 S4 : Store} {a b c e : IE} {es : IEs} {v w x y z : Val} {vs ws : List Val} {k k1 k2 : Bool}
theorem ev_var {i : Nat} (h : env[i]? = some (some v)) : dE tab call (.var i) env S = .ok v S := by
  show (match env[i]? with
    | some (some v) => R.ok v S
    | _ => .bad) = _
  rw [h]
theorem ev_con (t : T) : dE tab call (.con t) env S = .ok (.t t) S := rfl
theorem ev_bin {op : Operator} {r : R Val} (h1 : dE tab call a env S = .ok x S1) (h2 : dE tab call b env S1 = .ok y S2) (h3 : binV op x y S2 = r) : dE tab call (.bin op a b) env S = r := by
  show (dE tab call a env S).bind _ = _
  rw [h1]
  show (dE tab call b env S1).bind _ = _
  rw [h2]
  exact h3
theorem ev_cmp {op : CmpOp} {r : R Val} (h1 : dE tab call a env S = .ok x S1) (h2 : dE tab call b env S1 = .ok y S2) (h3 : cmpV op x y S2 = r) : dE tab call (.cmp op a b) env S = r := by
  show (dE tab call a env S).bind _ = _
  rw [h1]
  show (dE tab call b env S1).bind _ = _
  rw [h2]
  exact h3
theorem ev_and1 {r : R Val} (h : dE tab call e env S = r) : dE tab call (.ands (.cons e .nil)) env S = r := h
theorem ev_andT {r : R Val} {f : IE} {fs : IEs} (h : dE tab call e env S = .ok (.t (.bl true)) S1) (h2 : dE tab call (.ands (.cons f fs)) env S1 = r) : dE tab call (.ands (.cons e (.cons f fs))) env S = r := by
  show (dE tab call e env S).bind _ = _
  rw [h]
  exact h2
theorem ev_lst {m : Bool} {r : R Val} (h : dEs tab call es env S = .ok vs S1) (h2 : dispL m vs S1 = r) : dE tab call (.lst m es) env S = r := by
  show (dEs tab call es env S).bind _ = _
  rw [h]
  exact h2
theorem ev_sub {r : R Val} (h1 : dE tab call a env S = .ok x S1) (h2 : dE tab call b env S1 = .ok y S2) (h3 : subV x y S2 = r) : dE tab call (.sub a b) env S = r := by
  show (dE tab call a env S).bind _ = _
  rw [h1]
  show (dE tab call b env S1).bind _ = _
  rw [h2]
  exact h3
theorem ev_call {f : Nat} {r : R Val} (h1 : dEs tab call es env S = .ok vs S1) (h2 : call f vs S1 = r) : dE tab call (.call f es) env S = r := by
  show (dEs tab call es env S).bind _ = _
  rw [h1]
  exact h2
theorem evs_nil : dEs tab call .nil env S = .ok [] S := rfl
theorem evs_cons (h1 : dE tab call e env S = .ok v S1) (h2 : dEs tab call es env S1 = .ok vs S2) : dEs tab call (.cons e es) env S = .ok (v :: vs) S2 := by
  show (dE tab call e env S).bind _ = _
  rw [h1]
  show (dEs tab call es env S1).bind _ = _
  rw [h2]
  rfl
variable {t u : IC} {ts : ICs}
variable {ss : ISs} {r : RS} {env2 : Env}
theorem sx_set {i : Nat} (h : dE tab call e env S = .ok v S1) (h2 : dSs tab call ss (env.set i (some v)) S1 = r) : dSs tab call (.cons (.set i e) ss) env S = r := (step_set v h).trans h2
theorem sx_ret (h : dE tab call e env S = .ok v S1) : dSs tab call (.cons (.ret e) ss) env S = .rt v S1 := step_ret v h
end
end Rw
namespace Rw
open PySem PySem.W PySem.Calls PyProof.Rows
open L2 (defArgs defBody defScope inClass)
abbrev zS (x : String) (t : Nat) : Value := .str (Str.ofString x) t
abbrev zI (i : Int) (t : Nat) : Value := .int i t
abbrev zF (t : Nat) : Value := .str (Str.ofString "/claim/cut.py") t
abbrev zR (a : Nat) : Value := .ref a
abbrev zN : Value := .none
abbrev zE (P : Params) (k : String) (t : Nat) (v : Value) : DictEntry := ⟨PyData.keyHash P (Str.ofString k), zS k t, v⟩
abbrev oT (l : List Value) : Obj := { cls := .type "tuple", data := .seq ⟨l⟩ 0 }
abbrev oF (l : List Value) : Obj := { cls := .none, data := .fields ⟨l⟩ }
abbrev oC (c : String) (l : List Value) : Obj := { cls := .type c, data := .fields ⟨l⟩ }
abbrev oP (c : String) (l : List (Option Value)) : Obj := { cls := .type c, data := .plain, slots := ⟨l⟩ }
abbrev oD (l : List DictEntry) (n : Nat) : Obj := { cls := .type "dict", data := .dict ⟨l⟩ n }
abbrev oG (f : FuncData) : Obj := { cls := .none, data := .func f }
abbrev oH (f : FuncData) : Obj := { cls := .type "function", data := .func f }
abbrev oK (c : ClassData) (l : List (Option Value)) : Obj := { cls := .type "type", data := .cls c, slots := ⟨l⟩ }
abbrev fG (s : Stmt) (name qual : String) : FuncData := { name := Str.ofString name, qualname := Str.ofString qual, params := defArgs s, body := .stmts (defBody s), scope := defScope s, globals := 0, closure := [], defaults := .none, kwdefaults := .none }
abbrev fH (s : Stmt) (name qual : String) (dfl doc mod code : Value) : FuncData := { name := Str.ofString name, qualname := Str.ofString qual, params := defArgs s, body := .stmts (defBody s), scope := defScope s, globals := 3, closure := [], defaults := dfl, kwdefaults := .none, doc := doc, pyModule := mod, code := code }
abbrev ctT (t : BT) (n toks : Nat) (os : OsState) : SharedT := ⟨t, n, {}, #[], {}, toks, os⟩
section
variable (st : SharedT → Thread → Option (SharedT × Thread)) (n0 : Nat) (ann : Option Value)
def segF : Nat → SharedT → Thread → Option (Flow × SharedT × Code × Pos)
  | 0, _, _ => none
  | m + 1, s, t => match endAt 1 t with
    | some f => some (f, s, t.code, t.pos)
    | none => match stepOk n0 ann t with
      | false => none
      | true => match st s t with
        | some (s', t') => HandSHeadRun.frS s' fun s' => segF m s' t'
        | none => none
def goG : Nat → SharedT → Thread → Option (SharedT × Thread)
  | 0, s, t => some (s, t)
  | m + 1, s, t => match through t with
    | true => none
    | false => match stepOk n0 ann t with
      | false => none
      | true => match st s t with
        | some (s', t') => HandSHeadRun.frS s' fun s' => goG m s' t'
        | none => none
end
section
variable {tb : String → Option Builtin} {p : Program} {w : World} {n0 : Nat} {ann : Option Value}
theorem segF_ok : ∀ {m : Nat} {s s' : SharedT} {t : Thread} {f : Flow} {c : Code} {q : Pos}, segF (stepT (denote tb) p w) n0 ann m s t = some (f, s', c, q) → segRun tb p w n0 ann 1 m s.abs t = some (f, s'.abs, c, q)
  | 0, _, _, _, _, _, _, h => by cases h
  | m + 1, s, s', t, f, c, q, h => by
    have h1 : (match endAt 1 t with
      | some f => some (f, s, t.code, t.pos)
      | none => match stepOk n0 ann t with
        | false => none
        | true => match stepT (denote tb) p w s t with
          | some (s', t') => HandSHeadRun.frS s' fun s' => segF (stepT (denote tb) p w) n0 ann m s' t'
          | none => none) = some (f, s', c, q) := h
    unfold segRun
    cases he : endAt 1 t with
    | some x =>
      rw [he] at h1
      cases h1
      rfl
    | none =>
      rw [he] at h1
      cases hk : stepOk n0 ann t with
      | false =>
        rw [hk] at h1
        cases h1
      | true =>
        rw [hk] at h1
        have h2 : (match stepT (denote tb) p w s t with
          | some (s', t') => HandSHeadRun.frS s' fun s' => segF (stepT (denote tb) p w) n0 ann m s' t'
          | none => none) = some (f, s', c, q) := h1
        cases hs : stepT (denote tb) p w s t with
        | none =>
          rw [hs] at h2
          cases h2
        | some r =>
          obtain ⟨s2, t2⟩ := r
          rw [hs] at h2
          have h3 : (HandSHeadRun.frS s2 fun s' => segF (stepT (denote tb) p w) n0 ann m s' t2) = some (f, s', c, q) := h2
          rw [HandSHeadRun.frS_eq] at h3
          have k := segF_ok h3
          show (match step (denote tb) p w s.abs t with
            | .go s' t' => segRun tb p w n0 ann 1 m s' t'
            | .halt _ _ => none) = _
          rw [stepT_spec hs]
          exact k
theorem goG_ok : ∀ {m : Nat} {s s' : SharedT} {t t' : Thread}, goG (stepT (denote tb) p w) n0 ann m s t = some (s', t') → topGo tb p w n0 ann m s.abs t = some (s'.abs, t')
  | 0, _, _, _, _, h => by
    cases h
    rfl
  | m + 1, s, s', t, t', h => by
    have h1 : (match through t with
      | true => none
      | false => match stepOk n0 ann t with
        | false => none
        | true => match stepT (denote tb) p w s t with
          | some (s', t') => HandSHeadRun.frS s' fun s' => goG (stepT (denote tb) p w) n0 ann m s' t'
          | none => none) = some (s', t') := h
    unfold topGo
    cases ht : through t with
    | true =>
      rw [ht] at h1
      cases h1
    | false =>
      rw [ht] at h1
      cases hk : stepOk n0 ann t with
      | false =>
        rw [hk] at h1
        cases h1
      | true =>
        rw [hk] at h1
        have h2 : (match stepT (denote tb) p w s t with
          | some (s', t') => HandSHeadRun.frS s' fun s' => goG (stepT (denote tb) p w) n0 ann m s' t'
          | none => none) = some (s', t') := h1
        cases hs : stepT (denote tb) p w s t with
        | none =>
          rw [hs] at h2
          cases h2
        | some r =>
          obtain ⟨s2, t2⟩ := r
          rw [hs] at h2
          have h3 : (HandSHeadRun.frS s2 fun s' => goG (stepT (denote tb) p w) n0 ann m s' t2) = some (s', t') := h2
          rw [HandSHeadRun.frS_eq] at h3
          have k := goG_ok h3
          show (match step (denote tb) p w s.abs t with
            | .go s' t' => topGo tb p w n0 ann m s' t'
            | .halt _ _ => none) = _
          rw [stepT_spec hs]
          exact k
end
noncomputable def execsQ : List Stmt → PySem.Env → Sem Flow := PySem.W.Fast.tw12563942051412417395
theorem execsQ_eq : @PySem.execs = execsQ := PySem.W.Fast.te12563942051412417395
noncomputable abbrev grp (l : List Stmt) (env : PySem.Env) (c : Code) (q pos : Pos) : Thread := ⟨(execsQ l env).wrap doneF deadEnd id id, c, pos, [topFrame q]⟩
noncomputable abbrev stQ (p : Program) (w : World) : SharedT → Thread → Option (SharedT × Thread) := HandSHeadRun.stepQ (HandSHeadRun.denQ HandSHeadRun.tabQ) p w
section
variable {p : Program} {w : World} {n0 : Nat} {ann : Option Value} {env : PySem.Env} {q : Pos}
theorem grp_app {m N : Nat} {s s' : SharedT} {r : Shared} {l rest : List Stmt} {c : Code} {pos p' : Pos} (h : segF (stQ p w) n0 ann m s (grp l env c q pos) = some (.next, s', c, p'))
    (k : topRun treeTable p w n0 ann N s'.abs (restOf rest env c p' [topFrame q]) = some r) : topRun treeTable p w n0 ann (m + N) s.abs (restOf (l ++ rest) env c pos [topFrame q]) = some r := by
  refine piece_app (segF_ok ?_) k
  unfold piecesOf
  rw [HandSHeadRun.stepQ_eq, HandSHeadRun.denQ_eq, HandSHeadRun.tabQ_eq, execsQ_eq]
  exact h
theorem grp_end {N : Nat} {s s' : SharedT} {c : Code} {pos : Pos} (h : HandSHeadRun.goF (stQ p w) n0 ann N s ⟨doneF .next, c, pos, [topFrame q]⟩ = some s') :
    topRun treeTable p w n0 ann N s.abs (restOf [] env c pos [topFrame q]) = some s'.abs := by
  refine piece_nil (HandSHeadRun.goF_ok ?_)
  rw [HandSHeadRun.stepQ_eq, HandSHeadRun.denQ_eq, HandSHeadRun.tabQ_eq]
  exact h
theorem grp_start {m N : Nat} {s s' : SharedT} {r : Shared} {b : List Stmt} {pos p' : Pos} {t : Thread} (h : goG (stQ p w) n0 ann m s t = some (s', ⟨HandSHeadRun.denQ HandSHeadRun.tabQ (.body b env), .body b env, pos, [topFrame q]⟩))
    (hb : segF (stQ p w) n0 ann 1 s' (blockOf b env (.body b env) pos [topFrame q]) = some (.next, s', .body b env, p'))
    (k : topRun treeTable p w n0 ann N s'.abs (restOf b env (.body b env) p' [topFrame q]) = some r) : topRun treeTable p w n0 ann (m + (1 + N)) s.abs t = some r := by
  have hb' : segF (stepT (denote treeTable) p w) n0 ann 1 s' (blockOf b env (.body b env) pos [topFrame q]) = some (.next, s', .body b env, p') := by
    rw [HandSHeadRun.stepQ_eq, HandSHeadRun.denQ_eq, HandSHeadRun.tabQ_eq]
    exact hb
  refine go_top (t' := ⟨denote treeTable (.body b env), .body b env, pos, [topFrame q]⟩) (goG_ok ?_) (piece_block (segF_ok hb') k)
  rw [HandSHeadRun.stepQ_eq, HandSHeadRun.denQ_eq, HandSHeadRun.tabQ_eq]
  exact h
end
theorem head_cut {r : OpenRow} {q : Program} {H : Hook} {ob : SharedT → H.α} {M : Nat} {loose : List PySem.Str} {d : DefRec} {kwd : List (PySem.Str × PySem.Expr)} {n0 : Nat} {ann : Option Value} {t0 : Params → BT} (Sf : World → OsState → SharedT) (ho : ∀ s : SharedT, ob s = H.obs s.abs)
    (e : opening r.prog = plainProg r.prog.main.scope.names) (f : ∀ s, fenceModules? r.prog s = some s)
    (boot : ∀ P : Params, HandSHeadRun.putAll (boot_heap P).objs.toList .nil 0 = some (t0 P, n0)) (hlife : ∀ P : Params, (boot_heap P).life = {}) (hann : ∀ P : Params, (boot_heap P).nsMap mainGlobals "__annotations__" = ann) (hdr : boot_drawn = {})
    (run : ∀ (w : World) (os : OsState), topRun treeTable r.prog w n0 ann M (ctT (t0 w.params) n0 boot_toks os).abs (topStub r.prog) = some (Sf w os).abs)
    (looks : ∀ (w : World) (os : OsState), HandSHeadRun.looksF r.prog (boot_heap w.params) (Sf w os).abs = true)
    (seen : ∀ (w : World) (os : OsState), HandSHeadRun.seenQ q loose (importedModules r.prog.main.body) (fun s => xlAt q [] s && recOk r.toRowW.records s) (Sf w os).abs = openGood q loose)
    (obs : ∀ (w : World) (os : OsState), ob (Sf w os) = H.val w)
    (hdef : defOf q r.name = some (d, kwd)) (hp : r.prog.theDef r.name = some (d.params, d.body, d.scope)) (hk : kwWritten? d.params.kwonlyargs d.params.kw_defaults = some kwd)
    (hwr : (!r.writes || r.records.isEmpty) = true) (k1 : r.wellSaid = true) (ok : (chainsOk q && opensWell r.prog && (frees r.toRowW && r.within.isEmpty)) = true) (hb : r.prog.bare) (hw : r.toRowW.promised)
    (call : WalkO q loose (XL q []) H.says r.toRowW d kwd fun f vs => PySem.call f vs) : r.Holds := by
  have left : LeftO r.prog q loose (fun s => xlAt q [] s && recOk r.toRowW.records s) H.obs H.val (M + 600) true := fun w => by
    obtain ⟨⟨h, gs, dd, k, os⟩, a, a'⟩ := Option.map_eq_some_iff.mp (boot_open e (Nat.ble_eq_true_of_le (by omega : 600 ≤ M + 600)) f w)
    obtain ⟨rfl, rfl, rfl, rfl⟩ : h = boot_heap w.params ∧ gs = Array.mk [] ∧ dd = boot_drawn ∧ k = boot_toks := by simpa using a'
    have z := run w os
    have eh := HandSHeadRun.putAll_heap (boot w.params)
    rw [hlife] at eh
    have en : (boot_heap w.params).objs.size = n0 := by
      rw [← eh]
      exact absHeap_size _ n0 _
    have eb : (ctT (t0 w.params) n0 boot_toks os).abs = ⟨boot_heap w.params, #[], boot_drawn, boot_toks, os⟩ := by
      show (⟨absHeap (t0 w.params) n0 {}, #[], {}, boot_toks, os⟩ : Shared) = _
      rw [eh, hdr]
    rw [eb] at z
    have rr := topRun_mono (600) _ _ _ _ z
    have t : topFrom treeTable r.prog w (M + 600) ⟨boot_heap w.params, Array.mk [], boot_drawn, boot_toks, os⟩ = some (Sf w os).abs := by
      unfold topFrom
      dsimp only
      rw [HandSHeadRun.boot_ns]
      show (topRun treeTable r.prog w (boot_heap w.params).objs.size ((boot_heap w.params).nsMap mainGlobals "__annotations__") (M + 600) ⟨boot_heap w.params, #[], boot_drawn, boot_toks, os⟩ (topStub r.prog)).bind _ = _
      rw [en, hann, rr]
      have l1' : (staticsOk (importedModules r.prog.main.body) (boot_heap w.params) (Sf w os).abs.heap && namesBound r.prog (Sf w os).abs.heap && gensDone (Sf w os).abs && laidKept (boot_heap w.params) (Sf w os).abs.heap) = true := looks w os
      show (match staticsOk (importedModules r.prog.main.body) (boot_heap w.params) (Sf w os).abs.heap && namesBound r.prog (Sf w os).abs.heap && gensDone (Sf w os).abs && laidKept (boot_heap w.params) (Sf w os).abs.heap with | true => some (Sf w os).abs | false => none) = _
      rw [l1']
    unfold openEnds
    rw [a]
    show (topFrom treeTable r.prog w (M + 600) _).map _ = _
    rw [t]
    refine congrArg some (Prod.ext ?_ ?_)
    · exact (HandSHeadRun.seenQ_eq q loose _ _ _).trans (seen w os)
    · show H.obs (Sf w os).abs = _
      rw [← ho]
      exact obs w os
  exact holds_open (r := r) (q := q) (loose := loose) (XP := XL q []) (YP := H.says) (d := d) (kwd := kwd) left H.of H.keeps (fun s z => xl_of s (Bool.and_eq_true_iff.mp z).1) XL.keeps hdef hp hk (fun s z => recFacts_of (Bool.and_eq_true_iff.mp z).2) hwr k1 ok hb hw call
end Rw
namespace Rw
open PySem PySem.Spec PyProof.Rows L2
def top (i : Nat) : Stmt := PySem.Challenge.pw_rowmill_k17_refusals_apart.main.body.getD i (.Pass ⟨0, 0, 0, 0⟩)
def c_NoText_init : ISs := (.cons .never (.cons .never .nil))
def f_NoText_init : Fn := ⟨false, 2, 2, [], c_NoText_init, false⟩
def c_NoLog_init : ISs := (.cons .never (.cons .never .nil))
def f_NoLog_init : Fn := ⟨false, 2, 2, [], c_NoLog_init, false⟩
def c__law_cell : ISs := 
 (.cons (.set 2 (.bin .Add (.bin .Mult (.con (.int 7919)) (.var 1)) (.con (.int 11))))
 (.cons (.ife (.val (.cmp .NotEq (.var 0) (.lst false .nil))) 
  (.cons (.set 2 (.bin .Mult (.sub (.var 0) (.bin .Mod (.var 1) (.blt .len false (.cons (.var 0) .nil)))) (.con (.int 48271))))
  (.cons (.set 2 (.bin .Add (.bin .Add (.var 2) (.bin .Mult (.con (.int 104729)) (.var 1))) (.bin .Mult (.bin .FloorDiv (.var 1) (.blt .len false (.cons (.var 0) .nil))) (.con (.int 7919))))) .nil)) .nil)
 (.cons (.set 3 (.bin .Mod (.var 2) (.con (.int 2147483647))))
 (.cons (.set 3 (.bin .Mod (.bin .Mult (.var 3) (.var 3)) (.con (.int 2147483629))))
 (.cons (.ret (.bin .Mod (.bin .Add (.bin .Add (.bin .Mult (.var 3) (.var 3)) (.bin .Mult (.con (.int 69621)) (.var 3))) (.var 1)) (.con (.int 2147483587)))) .nil)))))
def f__law_cell : Fn := ⟨true, 2, 4, [], c__law_cell, false⟩
def c__law_all : ISs := 
 (.cons (.set 2 (.lst false (.cons (.mkx 1 (.cons (.var 0) .nil)) (.cons (.mkx 2 (.cons (.var 1) .nil)) (.cons (.mkx 3 (.cons (.var 0) .nil)) (.cons (.mkx 4 (.cons (.var 0) .nil)) (.cons (.mkx 5 (.cons (.var 0) .nil)) (.cons (.mkx 6 (.cons (.var 0) .nil)) (.cons (.mkx 7 (.cons (.var 0) .nil)) .nil)))))))))
 (.cons (.set 2 (.bin .Add (.var 2) (.lst false (.cons (.mkx 8 (.cons (.var 0) .nil)) (.cons (.mkx 9 (.cons (.var 0) .nil)) (.cons (.mkx 10 (.cons (.var 0) .nil)) (.cons (.mkx 11 (.cons (.var 0) .nil)) (.cons (.mkx 12 (.cons (.var 1) .nil)) (.cons (.mkx 13 (.cons (.var 0) .nil)) (.cons (.mkx 14 (.cons (.var 0) .nil)) .nil))))))))))
 (.cons (.ret (.bin .Add (.var 2) (.lst false (.cons (.mkx 15 (.cons (.var 0) .nil)) (.cons (.mkx 16 (.cons (.var 0) .nil)) .nil))))) .nil)))
def f__law_all : Fn := ⟨true, 2, 3, [], c__law_all, false⟩
def c__law_kinds : ISs := 
 (.cons (.ife (.ors (.cons (.not (.val (.isx (.var 0) [some 0]))) (.cons (.not (.val (.isx (.var 0) [none]))) .nil))) 
  (.cons (.ret (.lst false .nil)) .nil) .nil)
 (.cons (.set 1 (.lst false (.cons (.isx (.var 0) [some 1]) (.cons (.isx (.var 0) [some 2]) (.cons (.isx (.var 0) [some 3]) (.cons (.isx (.var 0) [some 4]) .nil))))))
 (.cons (.set 1 (.bin .Add (.var 1) (.lst false (.cons (.isx (.var 0) [some 5]) (.cons (.isx (.var 0) [some 6]) (.cons (.isx (.var 0) [some 7]) (.cons (.isx (.var 0) [some 8]) .nil)))))))
 (.cons (.set 1 (.bin .Add (.var 1) (.lst false (.cons (.isx (.var 0) [some 9]) (.cons (.isx (.var 0) [some 10]) (.cons (.isx (.var 0) [some 11]) (.cons (.isx (.var 0) [some 12]) .nil)))))))
 (.cons (.set 1 (.bin .Add (.var 1) (.lst false (.cons (.isx (.var 0) [some 13]) (.cons (.isx (.var 0) [some 14]) (.cons (.isx (.var 0) [some 15]) (.cons (.isx (.var 0) [some 16]) .nil)))))))
 (.cons (.ret (.var 1)) .nil))))))
def f__law_kinds : Fn := ⟨true, 1, 2, [], c__law_kinds, false⟩
def b_law_0 : ISs := 
 (.cons (.ife (.val (.cmp .NotEq (.call 4 (.cons (.sub (.var 3) (.var 4)) .nil)) (.comp false .range (.cons (.con (.int 16)) .nil) false [5] .nil (.cmp .Eq (.var 5) (.var 4))))) 
  (.cons (.ret (.con (.bl false))) .nil) .nil) .nil)
def c_law : ISs := 
 (.cons (.set 1 (.sub (.lst false (.cons (.con (.str (Str.ofString ""))) (.cons (.con (.str (Str.ofString "a"))) (.cons (.con (.str (Str.ofString "no row"))) (.cons (.con (.str (Str.ofString "7"))) .nil))))) (.bin .Mod (.call 2 (.cons (.var 0) (.cons (.con (.int 0)) .nil))) (.con (.int 4)))))
 (.cons (.set 2 (.bin .Mod (.call 2 (.cons (.var 0) (.cons (.con (.int 1)) .nil))) (.con (.int 1000))))
 (.cons (.set 3 (.call 3 (.cons (.var 1) (.cons (.var 2) .nil))))
 (.cons (.for_ .range (.cons (.con (.int 16)) .nil) false [4] b_law_0)
 (.cons (.ret (.ands (.cons (.cmp .Eq (.exvAt (.sub (.var 3) (.con (.int 1))) 0) (.var 2)) (.cons (.cmp .Eq (.exvAt (.sub (.var 3) (.con (.int 11))) 0) (.var 2)) (.cons (.cmp .Eq (.exvAt (.mkx 2 (.cons (.bin .Add (.var 2) (.con (.int 1))) .nil)) 0) (.bin .Add (.var 2) (.con (.int 1)))) .nil))))) .nil)))))
def f_law : Fn := ⟨true, 1, 6, [], c_law, false⟩
def defs0 : List DefX := [
  ⟨((Str.ofString "NoText"), some (Str.ofString "__init__")), (Str.ofString "__init__"), (Str.ofString "NoText.__init__"), (inClass (top 3) 0), [(Str.ofString "self"), (Str.ofString "at")], [(Str.ofString "self"), (Str.ofString "at")], f_NoText_init⟩,
  ⟨((Str.ofString "NoLog"), some (Str.ofString "__init__")), (Str.ofString "__init__"), (Str.ofString "NoLog.__init__"), (inClass (top 13) 0), [(Str.ofString "self"), (Str.ofString "at")], [(Str.ofString "self"), (Str.ofString "at")], f_NoLog_init⟩,
  ⟨((Str.ofString "_law_cell"), none), (Str.ofString "_law_cell"), (Str.ofString "_law_cell"), top 19, [(Str.ofString "_law_script"), (Str.ofString "_law_k"), (Str.ofString "_law_cell_here"), (Str.ofString "_law_more")], [(Str.ofString "_law_script"), (Str.ofString "_law_k")], f__law_cell⟩,
  ⟨((Str.ofString "_law_all"), none), (Str.ofString "_law_all"), (Str.ofString "_law_all"), top 20, [(Str.ofString "_law_text"), (Str.ofString "_law_at"), (Str.ofString "_law_some")], [(Str.ofString "_law_text"), (Str.ofString "_law_at")], f__law_all⟩,
  ⟨((Str.ofString "_law_kinds"), none), (Str.ofString "_law_kinds"), (Str.ofString "_law_kinds"), top 21, [(Str.ofString "_law_e"), (Str.ofString "_law_found")], [(Str.ofString "_law_e")], f__law_kinds⟩,
  ⟨((Str.ofString "law"), none), (Str.ofString "law"), (Str.ofString "law"), top 22, [(Str.ofString "_law_script"), (Str.ofString "_law_text"), (Str.ofString "_law_at"), (Str.ofString "_law_some"), (Str.ofString "_law_k"), (Str.ofString "_law_j")], [(Str.ofString "_law_script")], f_law⟩]
def ats0 : List Str := [(Str.ofString "at")]
def con0 : List (Str × T) := []
def dcs0 : List (Str × List (Str × T)) := []
def exc0 : List (Str × List Nat) := [((Str.ofString "MillError"), [0]), ((Str.ofString "NoProgram"), [1, 0]), ((Str.ofString "NoText"), [2, 0]), ((Str.ofString "NoMemory"), [3, 0]), ((Str.ofString "NoInputs"), [4, 0]), ((Str.ofString "NoStep"), [5, 0]), ((Str.ofString "NoCall"), [6, 0]), ((Str.ofString "Shut"), [7, 0]), ((Str.ofString "NoLine"), [8, 0]), ((Str.ofString "NoSets"), [9, 0])]
def exc1 : List (Str × List Nat) := [((Str.ofString "NoPlace"), [10, 0]), ((Str.ofString "NoSize"), [11, 0]), ((Str.ofString "NoLog"), [12, 0]), ((Str.ofString "BadRow"), [13, 0]), ((Str.ofString "NoMill"), [14, 0]), ((Str.ofString "NoName"), [15, 0]), ((Str.ofString "NoWord"), [16, 0])]
def lawD : LawD := ⟨defs0, [], con0, ats0, exc0 ++ exc1, [2, 12], dcs0, [(2, (0, 0)), (12, (1, 0))]⟩
abbrev tab : Tab := lawD.tab
theorem tab__law_cell : tab.fn 2 = some f__law_cell := rfl
theorem tab__law_all : tab.fn 3 = some f__law_all := rfl
theorem tab_law : tab.fn 5 = some f_law := rfl
end Rw
namespace Rw
open PySem PySem.W PySem.Calls PyProof.Rows
open L2 (defArgs defBody defScope inClass)
/-! ### the head -/
def names0 : List PySem.Str := ["MillError", "NoProgram", "NoText", "NoMemory", "NoInputs", "NoStep", "NoCall", "Shut", "NoLine", "NoSets", "NoPlace", "NoSize", "NoLog", "BadRow", "NoMill"]
def names1 : List PySem.Str := ["NoName", "NoWord", "_law_cell", "_law_all", "_law_kinds"]
def names : List PySem.Str := names0 ++ names1
abbrev hprog : Program := (PySem.W.OpenLaw.row PySem.Challenge.rw_rowmill_k17_refusals_apart).prog
def o11_a : Obj := oT []
def o12_a : Obj := oF []
def o13_a : Obj := oC "code" [(zS "<module>" 182), (zS "<module>" 183), (zF 184), (zI (1) 0), (zI (0) 0), (zI (0) 0), (zI (0) 0), (zI (0) 0), (zR 11), (.bool false), (zI (181) 0), (zR 12), zN, zN, zN, zN, (zI (185) 0), (zI (1) 0), (zF 186)]
def o14_a : Obj := oP "frame" [some (zR 13), some (zR 3), some (zR 3), none, some (zS "__main__" 164), none, some (zR 0)]
noncomputable def tr_a (P : Params) : PySem.W.BT := (.node (boot_o_0 P) (.node (boot_o_1 P) (.node (boot_o_3 P) (.node (boot_o_7 P) .nil .nil) (.node o11_a .nil .nil)) (.node (boot_o_5 P) (.node (boot_o_9 P) .nil .nil) (.node o13_a .nil .nil))) (.node (boot_o_2 P) (.node (boot_o_4 P) (.node (boot_o_8 P) .nil .nil) (.node o12_a .nil .nil)) (.node (boot_o_6 P) (.node (boot_o_10 P) .nil .nil) (.node o14_a .nil .nil))))
def o3_0 (P : Params) : Obj := oD [zE P "__name__" 165 (zS "law_rowmill_k17_refusals_apart" 481), zE P "__doc__" 166 zN, zE P "__package__" 167 zN, zE P "__loader__" 168 (.builtin "__main__.__loader__#opaque"), zE P "__spec__" 169 zN, zE P "__annotations__" 170 (zR 6), zE P "__builtins__" 171 (zR 4), zE P "__file__" 173 (zF 172), zE P "__cached__" 174 zN, zE P "MillError" 206 (zR 24), zE P "NoProgram" 222 (zR 37), zE P "NoText" 247 (zR 56), zE P "NoMemory" 263 (zR 68), zE P "NoInputs" 279 (zR 80), zE P "NoStep" 295 (zR 92), zE P "NoCall" 311 (zR 104), zE P "Shut" 327 (zR 116), zE P "NoLine" 343 (zR 128), zE P "NoSets" 359 (zR 140), zE P "NoPlace" 375 (zR 152), zE P "NoSize" 391 (zR 164), zE P "NoLog" 416 (zR 183), zE P "BadRow" 432 (zR 195), zE P "NoMill" 448 (zR 207), zE P "NoName" 464 (zR 219), zE P "NoWord" 480 (zR 231), zE P "_law_cell" 492 (zR 240), zE P "_law_all" 501 (zR 247), zE P "_law_kinds" 509 (zR 254), zE P "law" 515 (zR 259)] 30
def o12_0 : Obj := oF [(zI (2) 0), (zI (0) 0), (zR 20), (zI (4) 0), (zI (0) 0), (zR 33), (zI (6) 0), (zI (0) 0), (zR 45), (zI (11) 0), (zI (0) 0), (zR 64), (zI (13) 0), (zI (0) 0), (zR 76), (zI (15) 0), (zI (0) 0), (zR 88), (zI (17) 0), (zI (0) 0), (zR 100), (zI (19) 0), (zI (0) 0), (zR 112), (zI (21) 0), (zI (0) 0), (zR 124), (zI (23) 0), (zI (0) 0), (zR 136), (zI (25) 0), (zI (0) 0), (zR 148), (zI (27) 0), (zI (0) 0), (zR 160), (zI (29) 0), (zI (0) 0), (zR 172), (zI (34) 0), (zI (0) 0), (zR 191), (zI (36) 0), (zI (0) 0), (zR 203), (zI (38) 0), (zI (0) 0), (zR 215), (zI (40) 0), (zI (0) 0), (zR 227), (zI (43) 0), (zI (0) 0), (zR 239), (zI (51) 0), (zI (0) 0), (zR 246), (zI (55) 0), (zI (0) 0), (zR 253), (zI (63) 0), (zI (0) 0), (zR 258)]
def o15_0 : Obj := oT [(.type "ValueError")]
def o16_0 : Obj := oC "builtin_function_or_method" [(.builtin "type.__prepare__"), (.type "type")]
def o17_0 (P : Params) : Obj := oD [zE P "__module__" 196 (zS "rowmill.errors" 187), zE P "__qualname__" 198 (zS "MillError" 197), zE P "__firstlineno__" 200 (zI (2) 199), zE P "__static_attributes__" 201 (zR 22)] 4
def o18_0 : Obj := oT []
def o19_0 : Obj := oF []
def o20_0 : Obj := oC "code" [(zS "MillError" 191), (zS "MillError" 192), (zF 193), (zI (2) 0), (zI (0) 0), (zI (0) 0), (zI (0) 0), (zI (0) 0), (zR 18), (.bool false), (zI (181) 0), (zR 19), zN, zN, zN, zN, (zI (194) 0), (zI (2) 0), (zF 195)]
def o21_0 : Obj := oP "frame" [some (zR 20), some (zR 3), some (zR 17), none, some (zS "rowmill.errors" 187), none, some (zR 0)]
def o22_0 : Obj := oT []
def o23_0 (P : Params) : Obj := oD [zE P "__module__" 196 (zS "rowmill.errors" 187), zE P "__firstlineno__" 200 (zI (2) 199), zE P "__static_attributes__" 201 (zR 22), zE P "__weakref__" 203 (zR 25), zE P "__doc__" 204 zN] 3
def o24_0 : Obj := oK { name := Str.ofString "MillError", bases := [(.type "ValueError")], mro := [(zR 24), (.type "ValueError"), (.type "Exception"), (.type "BaseException"), (.type "object")], ns := 23, qualname := Str.ofString "MillError", hasDict := true, subclasses := [(zR 37), (zR 56), (zR 68), (zR 80), (zR 92), (zR 104), (zR 116), (zR 128), (zR 140), (zR 152), (zR 164), (zR 183), (zR 195), (zR 207), (zR 219), (zR 231)], abstract := false, hasDel := false } [some (zR 15), none, some (zS "MillError" 189), some (zS "MillError" 197), some (.builtin "ValueError.__new__"), some (.bool true)]
def o25_0 : Obj := oC "getset_descriptor" [(zS "__weakref__" 202), (zR 24), (.builtin "ExceptionGroup.__weakref__"), zN]
def o26_0 : Obj := oC "super" [(zR 24), (zR 24), (zR 24)]
def o27_0 : Obj := oC "builtin_function_or_method" [(.builtin "object.__init_subclass__"), (zR 24)]
def o28_0 : Obj := oT [(zR 24)]
def o29_0 : Obj := oC "builtin_function_or_method" [(.builtin "type.__prepare__"), (.type "type")]
def o30_0 (P : Params) : Obj := oD [zE P "__module__" 214 (zS "rowmill.errors" 187), zE P "__qualname__" 216 (zS "NoProgram" 215), zE P "__firstlineno__" 218 (zI (4) 217), zE P "__static_attributes__" 219 (zR 35)] 4
def o31_0 : Obj := oT []
def o32_0 : Obj := oF []
def o33_0 : Obj := oC "code" [(zS "NoProgram" 209), (zS "NoProgram" 210), (zF 211), (zI (4) 0), (zI (0) 0), (zI (0) 0), (zI (0) 0), (zI (0) 0), (zR 31), (.bool false), (zI (181) 0), (zR 32), zN, zN, zN, zN, (zI (212) 0), (zI (4) 0), (zF 213)]
def o34_0 : Obj := oP "frame" [some (zR 33), some (zR 3), some (zR 30), none, some (zS "rowmill.errors" 187), none, some (zR 0)]
def o35_0 : Obj := oT []
def o36_0 (P : Params) : Obj := oD [zE P "__module__" 214 (zS "rowmill.errors" 187), zE P "__firstlineno__" 218 (zI (4) 217), zE P "__static_attributes__" 219 (zR 35), zE P "__doc__" 220 zN] 2
def o37_0 : Obj := oK { name := Str.ofString "NoProgram", bases := [(zR 24)], mro := [(zR 37), (zR 24), (.type "ValueError"), (.type "Exception"), (.type "BaseException"), (.type "object")], ns := 36, qualname := Str.ofString "NoProgram", hasDict := true, subclasses := [], abstract := false, hasDel := false } [some (zR 28), none, some (zS "NoProgram" 207), some (zS "NoProgram" 215), some (.builtin "ValueError.__new__"), some (.bool true)]
def o38_0 : Obj := oC "super" [(zR 37), (zR 37), (zR 37)]
def o39_0 : Obj := oC "builtin_function_or_method" [(.builtin "object.__init_subclass__"), (zR 37)]
def o40_0 : Obj := oT [(zR 24)]
def o41_0 : Obj := oC "builtin_function_or_method" [(.builtin "type.__prepare__"), (.type "type")]
def o42_0 (P : Params) : Obj := oD [zE P "__module__" 230 (zS "rowmill.errors" 187), zE P "__qualname__" 232 (zS "NoText" 231), zE P "__firstlineno__" 234 (zI (6) 233), zE P "__init__" 242 (zR 53), zE P "__static_attributes__" 244 (zR 54)] 5
def o43_0 : Obj := oT []
def o44_0 : Obj := oF [(zI (8) 0), (zI (4) 0), (zR 52)]
def o45_0 : Obj := oC "code" [(zS "NoText" 225), (zS "NoText" 226), (zF 227), (zI (6) 0), (zI (0) 0), (zI (0) 0), (zI (0) 0), (zI (0) 0), (zR 43), (.bool false), (zI (181) 0), (zR 44), zN, zN, zN, zN, (zI (228) 0), (zI (6) 0), (zF 229)]
def o46_0 : Obj := oP "frame" [some (zR 45), some (zR 3), some (zR 42), none, some (zS "rowmill.errors" 187), none, some (zR 0)]
def o47_0 : Obj := oT []
def o48_0 : Obj := oF []
def o49_0 : Obj := oT [(zS "self" 238), (zS "at" 239)]
def o50_0 : Obj := oT []
def o51_0 : Obj := oG (fG (inClass (top 3) 0) "__init__" "NoText.__init__")
def o52_0 : Obj := oC "code" [(zS "__init__" 235), (zS "NoText.__init__" 236), (zF 237), (zI (8) 0), (zI (2) 0), (zI (0) 0), (zI (0) 0), (zI (3) 0), (zR 47), (.bool true), (zI (181) 0), (zR 48), zN, (zR 49), (zR 50), (zR 51), (zI (240) 0), (zI (8) 0), (zF 241)]
def o53_0 : Obj := oH (fH (inClass (top 3) 0) "__init__" "NoText.__init__" zN zN (zS "rowmill.errors" 187) (zR 52))
def o54_0 : Obj := oT [(zS "at" 243)]
def o55_0 (P : Params) : Obj := oD [zE P "__module__" 230 (zS "rowmill.errors" 187), zE P "__firstlineno__" 234 (zI (6) 233), zE P "__init__" 242 (zR 53), zE P "__static_attributes__" 244 (zR 54), zE P "__doc__" 245 zN] 2
def o56_0 : Obj := oK { name := Str.ofString "NoText", bases := [(zR 24)], mro := [(zR 56), (zR 24), (.type "ValueError"), (.type "Exception"), (.type "BaseException"), (.type "object")], ns := 55, qualname := Str.ofString "NoText", hasDict := true, subclasses := [], abstract := false, hasDel := false } [some (zR 40), none, some (zS "NoText" 223), some (zS "NoText" 231), some (.builtin "ValueError.__new__"), some (.bool true)]
def o57_0 : Obj := oC "super" [(zR 56), (zR 56), (zR 56)]
def o58_0 : Obj := oC "builtin_function_or_method" [(.builtin "object.__init_subclass__"), (zR 56)]
def o59_0 : Obj := oT [(zR 24)]
def o60_0 : Obj := oC "builtin_function_or_method" [(.builtin "type.__prepare__"), (.type "type")]
def o61_0 (P : Params) : Obj := oD [zE P "__module__" 255 (zS "rowmill.errors" 187), zE P "__qualname__" 257 (zS "NoMemory" 256), zE P "__firstlineno__" 259 (zI (11) 258), zE P "__static_attributes__" 260 (zR 66)] 4
def o62_0 : Obj := oT []
def o63_0 : Obj := oF []
def o64_0 : Obj := oC "code" [(zS "NoMemory" 250), (zS "NoMemory" 251), (zF 252), (zI (11) 0), (zI (0) 0), (zI (0) 0), (zI (0) 0), (zI (0) 0), (zR 62), (.bool false), (zI (181) 0), (zR 63), zN, zN, zN, zN, (zI (253) 0), (zI (11) 0), (zF 254)]
def o65_0 : Obj := oP "frame" [some (zR 64), some (zR 3), some (zR 61), none, some (zS "rowmill.errors" 187), none, some (zR 0)]
def o66_0 : Obj := oT []
def o67_0 (P : Params) : Obj := oD [zE P "__module__" 255 (zS "rowmill.errors" 187), zE P "__firstlineno__" 259 (zI (11) 258), zE P "__static_attributes__" 260 (zR 66), zE P "__doc__" 261 zN] 2
def o68_0 : Obj := oK { name := Str.ofString "NoMemory", bases := [(zR 24)], mro := [(zR 68), (zR 24), (.type "ValueError"), (.type "Exception"), (.type "BaseException"), (.type "object")], ns := 67, qualname := Str.ofString "NoMemory", hasDict := true, subclasses := [], abstract := false, hasDel := false } [some (zR 59), none, some (zS "NoMemory" 248), some (zS "NoMemory" 256), some (.builtin "ValueError.__new__"), some (.bool true)]
def o69_0 : Obj := oC "super" [(zR 68), (zR 68), (zR 68)]
def o70_0 : Obj := oC "builtin_function_or_method" [(.builtin "object.__init_subclass__"), (zR 68)]
def o71_0 : Obj := oT [(zR 24)]
def o72_0 : Obj := oC "builtin_function_or_method" [(.builtin "type.__prepare__"), (.type "type")]
def o73_0 (P : Params) : Obj := oD [zE P "__module__" 271 (zS "rowmill.errors" 187), zE P "__qualname__" 273 (zS "NoInputs" 272), zE P "__firstlineno__" 275 (zI (13) 274), zE P "__static_attributes__" 276 (zR 78)] 4
def o74_0 : Obj := oT []
def o75_0 : Obj := oF []
def o76_0 : Obj := oC "code" [(zS "NoInputs" 266), (zS "NoInputs" 267), (zF 268), (zI (13) 0), (zI (0) 0), (zI (0) 0), (zI (0) 0), (zI (0) 0), (zR 74), (.bool false), (zI (181) 0), (zR 75), zN, zN, zN, zN, (zI (269) 0), (zI (13) 0), (zF 270)]
def o77_0 : Obj := oP "frame" [some (zR 76), some (zR 3), some (zR 73), none, some (zS "rowmill.errors" 187), none, some (zR 0)]
def o78_0 : Obj := oT []
def o79_0 (P : Params) : Obj := oD [zE P "__module__" 271 (zS "rowmill.errors" 187), zE P "__firstlineno__" 275 (zI (13) 274), zE P "__static_attributes__" 276 (zR 78), zE P "__doc__" 277 zN] 2
def o80_0 : Obj := oK { name := Str.ofString "NoInputs", bases := [(zR 24)], mro := [(zR 80), (zR 24), (.type "ValueError"), (.type "Exception"), (.type "BaseException"), (.type "object")], ns := 79, qualname := Str.ofString "NoInputs", hasDict := true, subclasses := [], abstract := false, hasDel := false } [some (zR 71), none, some (zS "NoInputs" 264), some (zS "NoInputs" 272), some (.builtin "ValueError.__new__"), some (.bool true)]
def o81_0 : Obj := oC "super" [(zR 80), (zR 80), (zR 80)]
def o82_0 : Obj := oC "builtin_function_or_method" [(.builtin "object.__init_subclass__"), (zR 80)]
def o83_0 : Obj := oT [(zR 24)]
def o84_0 : Obj := oC "builtin_function_or_method" [(.builtin "type.__prepare__"), (.type "type")]
def o85_0 (P : Params) : Obj := oD [zE P "__module__" 287 (zS "rowmill.errors" 187), zE P "__qualname__" 289 (zS "NoStep" 288), zE P "__firstlineno__" 291 (zI (15) 290), zE P "__static_attributes__" 292 (zR 90)] 4
def o86_0 : Obj := oT []
def o87_0 : Obj := oF []
def o88_0 : Obj := oC "code" [(zS "NoStep" 282), (zS "NoStep" 283), (zF 284), (zI (15) 0), (zI (0) 0), (zI (0) 0), (zI (0) 0), (zI (0) 0), (zR 86), (.bool false), (zI (181) 0), (zR 87), zN, zN, zN, zN, (zI (285) 0), (zI (15) 0), (zF 286)]
def o89_0 : Obj := oP "frame" [some (zR 88), some (zR 3), some (zR 85), none, some (zS "rowmill.errors" 187), none, some (zR 0)]
def o90_0 : Obj := oT []
def o91_0 (P : Params) : Obj := oD [zE P "__module__" 287 (zS "rowmill.errors" 187), zE P "__firstlineno__" 291 (zI (15) 290), zE P "__static_attributes__" 292 (zR 90), zE P "__doc__" 293 zN] 2
def o92_0 : Obj := oK { name := Str.ofString "NoStep", bases := [(zR 24)], mro := [(zR 92), (zR 24), (.type "ValueError"), (.type "Exception"), (.type "BaseException"), (.type "object")], ns := 91, qualname := Str.ofString "NoStep", hasDict := true, subclasses := [], abstract := false, hasDel := false } [some (zR 83), none, some (zS "NoStep" 280), some (zS "NoStep" 288), some (.builtin "ValueError.__new__"), some (.bool true)]
def o93_0 : Obj := oC "super" [(zR 92), (zR 92), (zR 92)]
def o94_0 : Obj := oC "builtin_function_or_method" [(.builtin "object.__init_subclass__"), (zR 92)]
def o95_0 : Obj := oT [(zR 24)]
def o96_0 : Obj := oC "builtin_function_or_method" [(.builtin "type.__prepare__"), (.type "type")]
def o97_0 (P : Params) : Obj := oD [zE P "__module__" 303 (zS "rowmill.errors" 187), zE P "__qualname__" 305 (zS "NoCall" 304), zE P "__firstlineno__" 307 (zI (17) 306), zE P "__static_attributes__" 308 (zR 102)] 4
def o98_0 : Obj := oT []
def o99_0 : Obj := oF []
def o100_0 : Obj := oC "code" [(zS "NoCall" 298), (zS "NoCall" 299), (zF 300), (zI (17) 0), (zI (0) 0), (zI (0) 0), (zI (0) 0), (zI (0) 0), (zR 98), (.bool false), (zI (181) 0), (zR 99), zN, zN, zN, zN, (zI (301) 0), (zI (17) 0), (zF 302)]
def o101_0 : Obj := oP "frame" [some (zR 100), some (zR 3), some (zR 97), none, some (zS "rowmill.errors" 187), none, some (zR 0)]
def o102_0 : Obj := oT []
def o103_0 (P : Params) : Obj := oD [zE P "__module__" 303 (zS "rowmill.errors" 187), zE P "__firstlineno__" 307 (zI (17) 306), zE P "__static_attributes__" 308 (zR 102), zE P "__doc__" 309 zN] 2
def o104_0 : Obj := oK { name := Str.ofString "NoCall", bases := [(zR 24)], mro := [(zR 104), (zR 24), (.type "ValueError"), (.type "Exception"), (.type "BaseException"), (.type "object")], ns := 103, qualname := Str.ofString "NoCall", hasDict := true, subclasses := [], abstract := false, hasDel := false } [some (zR 95), none, some (zS "NoCall" 296), some (zS "NoCall" 304), some (.builtin "ValueError.__new__"), some (.bool true)]
def o105_0 : Obj := oC "super" [(zR 104), (zR 104), (zR 104)]
def o106_0 : Obj := oC "builtin_function_or_method" [(.builtin "object.__init_subclass__"), (zR 104)]
def o107_0 : Obj := oT [(zR 24)]
def o108_0 : Obj := oC "builtin_function_or_method" [(.builtin "type.__prepare__"), (.type "type")]
def o109_0 (P : Params) : Obj := oD [zE P "__module__" 319 (zS "rowmill.errors" 187), zE P "__qualname__" 321 (zS "Shut" 320), zE P "__firstlineno__" 323 (zI (19) 322), zE P "__static_attributes__" 324 (zR 114)] 4
def o110_0 : Obj := oT []
def o111_0 : Obj := oF []
def o112_0 : Obj := oC "code" [(zS "Shut" 314), (zS "Shut" 315), (zF 316), (zI (19) 0), (zI (0) 0), (zI (0) 0), (zI (0) 0), (zI (0) 0), (zR 110), (.bool false), (zI (181) 0), (zR 111), zN, zN, zN, zN, (zI (317) 0), (zI (19) 0), (zF 318)]
def o113_0 : Obj := oP "frame" [some (zR 112), some (zR 3), some (zR 109), none, some (zS "rowmill.errors" 187), none, some (zR 0)]
def o114_0 : Obj := oT []
def o115_0 (P : Params) : Obj := oD [zE P "__module__" 319 (zS "rowmill.errors" 187), zE P "__firstlineno__" 323 (zI (19) 322), zE P "__static_attributes__" 324 (zR 114), zE P "__doc__" 325 zN] 2
def o116_0 : Obj := oK { name := Str.ofString "Shut", bases := [(zR 24)], mro := [(zR 116), (zR 24), (.type "ValueError"), (.type "Exception"), (.type "BaseException"), (.type "object")], ns := 115, qualname := Str.ofString "Shut", hasDict := true, subclasses := [], abstract := false, hasDel := false } [some (zR 107), none, some (zS "Shut" 312), some (zS "Shut" 320), some (.builtin "ValueError.__new__"), some (.bool true)]
def o117_0 : Obj := oC "super" [(zR 116), (zR 116), (zR 116)]
def o118_0 : Obj := oC "builtin_function_or_method" [(.builtin "object.__init_subclass__"), (zR 116)]
def o119_0 : Obj := oT [(zR 24)]
def o120_0 : Obj := oC "builtin_function_or_method" [(.builtin "type.__prepare__"), (.type "type")]
def o121_0 (P : Params) : Obj := oD [zE P "__module__" 335 (zS "rowmill.errors" 187), zE P "__qualname__" 337 (zS "NoLine" 336), zE P "__firstlineno__" 339 (zI (21) 338), zE P "__static_attributes__" 340 (zR 126)] 4
def o122_0 : Obj := oT []
def o123_0 : Obj := oF []
def o124_0 : Obj := oC "code" [(zS "NoLine" 330), (zS "NoLine" 331), (zF 332), (zI (21) 0), (zI (0) 0), (zI (0) 0), (zI (0) 0), (zI (0) 0), (zR 122), (.bool false), (zI (181) 0), (zR 123), zN, zN, zN, zN, (zI (333) 0), (zI (21) 0), (zF 334)]
def o125_0 : Obj := oP "frame" [some (zR 124), some (zR 3), some (zR 121), none, some (zS "rowmill.errors" 187), none, some (zR 0)]
def o126_0 : Obj := oT []
def o127_0 (P : Params) : Obj := oD [zE P "__module__" 335 (zS "rowmill.errors" 187), zE P "__firstlineno__" 339 (zI (21) 338), zE P "__static_attributes__" 340 (zR 126), zE P "__doc__" 341 zN] 2
def o128_0 : Obj := oK { name := Str.ofString "NoLine", bases := [(zR 24)], mro := [(zR 128), (zR 24), (.type "ValueError"), (.type "Exception"), (.type "BaseException"), (.type "object")], ns := 127, qualname := Str.ofString "NoLine", hasDict := true, subclasses := [], abstract := false, hasDel := false } [some (zR 119), none, some (zS "NoLine" 328), some (zS "NoLine" 336), some (.builtin "ValueError.__new__"), some (.bool true)]
def o129_0 : Obj := oC "super" [(zR 128), (zR 128), (zR 128)]
def o130_0 : Obj := oC "builtin_function_or_method" [(.builtin "object.__init_subclass__"), (zR 128)]
def o131_0 : Obj := oT [(zR 24)]
def o132_0 : Obj := oC "builtin_function_or_method" [(.builtin "type.__prepare__"), (.type "type")]
def o133_0 (P : Params) : Obj := oD [zE P "__module__" 351 (zS "rowmill.errors" 187), zE P "__qualname__" 353 (zS "NoSets" 352), zE P "__firstlineno__" 355 (zI (23) 354), zE P "__static_attributes__" 356 (zR 138)] 4
def o134_0 : Obj := oT []
def o135_0 : Obj := oF []
def o136_0 : Obj := oC "code" [(zS "NoSets" 346), (zS "NoSets" 347), (zF 348), (zI (23) 0), (zI (0) 0), (zI (0) 0), (zI (0) 0), (zI (0) 0), (zR 134), (.bool false), (zI (181) 0), (zR 135), zN, zN, zN, zN, (zI (349) 0), (zI (23) 0), (zF 350)]
def o137_0 : Obj := oP "frame" [some (zR 136), some (zR 3), some (zR 133), none, some (zS "rowmill.errors" 187), none, some (zR 0)]
def o138_0 : Obj := oT []
def o139_0 (P : Params) : Obj := oD [zE P "__module__" 351 (zS "rowmill.errors" 187), zE P "__firstlineno__" 355 (zI (23) 354), zE P "__static_attributes__" 356 (zR 138), zE P "__doc__" 357 zN] 2
def o140_0 : Obj := oK { name := Str.ofString "NoSets", bases := [(zR 24)], mro := [(zR 140), (zR 24), (.type "ValueError"), (.type "Exception"), (.type "BaseException"), (.type "object")], ns := 139, qualname := Str.ofString "NoSets", hasDict := true, subclasses := [], abstract := false, hasDel := false } [some (zR 131), none, some (zS "NoSets" 344), some (zS "NoSets" 352), some (.builtin "ValueError.__new__"), some (.bool true)]
def o141_0 : Obj := oC "super" [(zR 140), (zR 140), (zR 140)]
def o142_0 : Obj := oC "builtin_function_or_method" [(.builtin "object.__init_subclass__"), (zR 140)]
def o143_0 : Obj := oT [(zR 24)]
def o144_0 : Obj := oC "builtin_function_or_method" [(.builtin "type.__prepare__"), (.type "type")]
def o145_0 (P : Params) : Obj := oD [zE P "__module__" 367 (zS "rowmill.errors" 187), zE P "__qualname__" 369 (zS "NoPlace" 368), zE P "__firstlineno__" 371 (zI (25) 370), zE P "__static_attributes__" 372 (zR 150)] 4
def o146_0 : Obj := oT []
def o147_0 : Obj := oF []
def o148_0 : Obj := oC "code" [(zS "NoPlace" 362), (zS "NoPlace" 363), (zF 364), (zI (25) 0), (zI (0) 0), (zI (0) 0), (zI (0) 0), (zI (0) 0), (zR 146), (.bool false), (zI (181) 0), (zR 147), zN, zN, zN, zN, (zI (365) 0), (zI (25) 0), (zF 366)]
def o149_0 : Obj := oP "frame" [some (zR 148), some (zR 3), some (zR 145), none, some (zS "rowmill.errors" 187), none, some (zR 0)]
def o150_0 : Obj := oT []
def o151_0 (P : Params) : Obj := oD [zE P "__module__" 367 (zS "rowmill.errors" 187), zE P "__firstlineno__" 371 (zI (25) 370), zE P "__static_attributes__" 372 (zR 150), zE P "__doc__" 373 zN] 2
def o152_0 : Obj := oK { name := Str.ofString "NoPlace", bases := [(zR 24)], mro := [(zR 152), (zR 24), (.type "ValueError"), (.type "Exception"), (.type "BaseException"), (.type "object")], ns := 151, qualname := Str.ofString "NoPlace", hasDict := true, subclasses := [], abstract := false, hasDel := false } [some (zR 143), none, some (zS "NoPlace" 360), some (zS "NoPlace" 368), some (.builtin "ValueError.__new__"), some (.bool true)]
def o153_0 : Obj := oC "super" [(zR 152), (zR 152), (zR 152)]
def o154_0 : Obj := oC "builtin_function_or_method" [(.builtin "object.__init_subclass__"), (zR 152)]
def o155_0 : Obj := oT [(zR 24)]
def o156_0 : Obj := oC "builtin_function_or_method" [(.builtin "type.__prepare__"), (.type "type")]
def o157_0 (P : Params) : Obj := oD [zE P "__module__" 383 (zS "rowmill.errors" 187), zE P "__qualname__" 385 (zS "NoSize" 384), zE P "__firstlineno__" 387 (zI (27) 386), zE P "__static_attributes__" 388 (zR 162)] 4
def o158_0 : Obj := oT []
def o159_0 : Obj := oF []
def o160_0 : Obj := oC "code" [(zS "NoSize" 378), (zS "NoSize" 379), (zF 380), (zI (27) 0), (zI (0) 0), (zI (0) 0), (zI (0) 0), (zI (0) 0), (zR 158), (.bool false), (zI (181) 0), (zR 159), zN, zN, zN, zN, (zI (381) 0), (zI (27) 0), (zF 382)]
def o161_0 : Obj := oP "frame" [some (zR 160), some (zR 3), some (zR 157), none, some (zS "rowmill.errors" 187), none, some (zR 0)]
def o162_0 : Obj := oT []
def o163_0 (P : Params) : Obj := oD [zE P "__module__" 383 (zS "rowmill.errors" 187), zE P "__firstlineno__" 387 (zI (27) 386), zE P "__static_attributes__" 388 (zR 162), zE P "__doc__" 389 zN] 2
def o164_0 : Obj := oK { name := Str.ofString "NoSize", bases := [(zR 24)], mro := [(zR 164), (zR 24), (.type "ValueError"), (.type "Exception"), (.type "BaseException"), (.type "object")], ns := 163, qualname := Str.ofString "NoSize", hasDict := true, subclasses := [], abstract := false, hasDel := false } [some (zR 155), none, some (zS "NoSize" 376), some (zS "NoSize" 384), some (.builtin "ValueError.__new__"), some (.bool true)]
def o165_0 : Obj := oC "super" [(zR 164), (zR 164), (zR 164)]
def o166_0 : Obj := oC "builtin_function_or_method" [(.builtin "object.__init_subclass__"), (zR 164)]
def o167_0 : Obj := oT [(zR 24)]
def o168_0 : Obj := oC "builtin_function_or_method" [(.builtin "type.__prepare__"), (.type "type")]
def o169_0 (P : Params) : Obj := oD [zE P "__module__" 399 (zS "rowmill.errors" 187), zE P "__qualname__" 401 (zS "NoLog" 400), zE P "__firstlineno__" 403 (zI (29) 402), zE P "__init__" 411 (zR 180), zE P "__static_attributes__" 413 (zR 181)] 5
def o170_0 : Obj := oT []
def o171_0 : Obj := oF [(zI (31) 0), (zI (4) 0), (zR 179)]
def o172_0 : Obj := oC "code" [(zS "NoLog" 394), (zS "NoLog" 395), (zF 396), (zI (29) 0), (zI (0) 0), (zI (0) 0), (zI (0) 0), (zI (0) 0), (zR 170), (.bool false), (zI (181) 0), (zR 171), zN, zN, zN, zN, (zI (397) 0), (zI (29) 0), (zF 398)]
def o173_0 : Obj := oP "frame" [some (zR 172), some (zR 3), some (zR 169), none, some (zS "rowmill.errors" 187), none, some (zR 0)]
def o174_0 : Obj := oT []
def o175_0 : Obj := oF []
def o176_0 : Obj := oT [(zS "self" 407), (zS "at" 408)]
def o177_0 : Obj := oT []
def o178_0 : Obj := oG (fG (inClass (top 13) 0) "__init__" "NoLog.__init__")
def o179_0 : Obj := oC "code" [(zS "__init__" 404), (zS "NoLog.__init__" 405), (zF 406), (zI (31) 0), (zI (2) 0), (zI (0) 0), (zI (0) 0), (zI (3) 0), (zR 174), (.bool true), (zI (181) 0), (zR 175), zN, (zR 176), (zR 177), (zR 178), (zI (409) 0), (zI (31) 0), (zF 410)]
def o180_0 : Obj := oH (fH (inClass (top 13) 0) "__init__" "NoLog.__init__" zN zN (zS "rowmill.errors" 187) (zR 179))
def o181_0 : Obj := oT [(zS "at" 412)]
def o182_0 (P : Params) : Obj := oD [zE P "__module__" 399 (zS "rowmill.errors" 187), zE P "__firstlineno__" 403 (zI (29) 402), zE P "__init__" 411 (zR 180), zE P "__static_attributes__" 413 (zR 181), zE P "__doc__" 414 zN] 2
def o183_0 : Obj := oK { name := Str.ofString "NoLog", bases := [(zR 24)], mro := [(zR 183), (zR 24), (.type "ValueError"), (.type "Exception"), (.type "BaseException"), (.type "object")], ns := 182, qualname := Str.ofString "NoLog", hasDict := true, subclasses := [], abstract := false, hasDel := false } [some (zR 167), none, some (zS "NoLog" 392), some (zS "NoLog" 400), some (.builtin "ValueError.__new__"), some (.bool true)]
def o184_0 : Obj := oC "super" [(zR 183), (zR 183), (zR 183)]
def o185_0 : Obj := oC "builtin_function_or_method" [(.builtin "object.__init_subclass__"), (zR 183)]
def o186_0 : Obj := oT [(zR 24)]
def o187_0 : Obj := oC "builtin_function_or_method" [(.builtin "type.__prepare__"), (.type "type")]
def o188_0 (P : Params) : Obj := oD [zE P "__module__" 424 (zS "rowmill.errors" 187), zE P "__qualname__" 426 (zS "BadRow" 425), zE P "__firstlineno__" 428 (zI (34) 427), zE P "__static_attributes__" 429 (zR 193)] 4
def o189_0 : Obj := oT []
def o190_0 : Obj := oF []
def o191_0 : Obj := oC "code" [(zS "BadRow" 419), (zS "BadRow" 420), (zF 421), (zI (34) 0), (zI (0) 0), (zI (0) 0), (zI (0) 0), (zI (0) 0), (zR 189), (.bool false), (zI (181) 0), (zR 190), zN, zN, zN, zN, (zI (422) 0), (zI (34) 0), (zF 423)]
def o192_0 : Obj := oP "frame" [some (zR 191), some (zR 3), some (zR 188), none, some (zS "rowmill.errors" 187), none, some (zR 0)]
def o193_0 : Obj := oT []
def o194_0 (P : Params) : Obj := oD [zE P "__module__" 424 (zS "rowmill.errors" 187), zE P "__firstlineno__" 428 (zI (34) 427), zE P "__static_attributes__" 429 (zR 193), zE P "__doc__" 430 zN] 2
def o195_0 : Obj := oK { name := Str.ofString "BadRow", bases := [(zR 24)], mro := [(zR 195), (zR 24), (.type "ValueError"), (.type "Exception"), (.type "BaseException"), (.type "object")], ns := 194, qualname := Str.ofString "BadRow", hasDict := true, subclasses := [], abstract := false, hasDel := false } [some (zR 186), none, some (zS "BadRow" 417), some (zS "BadRow" 425), some (.builtin "ValueError.__new__"), some (.bool true)]
def o196_0 : Obj := oC "super" [(zR 195), (zR 195), (zR 195)]
def o197_0 : Obj := oC "builtin_function_or_method" [(.builtin "object.__init_subclass__"), (zR 195)]
def o198_0 : Obj := oT [(zR 24)]
def o199_0 : Obj := oC "builtin_function_or_method" [(.builtin "type.__prepare__"), (.type "type")]
def o200_0 (P : Params) : Obj := oD [zE P "__module__" 440 (zS "rowmill.errors" 187), zE P "__qualname__" 442 (zS "NoMill" 441), zE P "__firstlineno__" 444 (zI (36) 443), zE P "__static_attributes__" 445 (zR 205)] 4
def o201_0 : Obj := oT []
def o202_0 : Obj := oF []
def o203_0 : Obj := oC "code" [(zS "NoMill" 435), (zS "NoMill" 436), (zF 437), (zI (36) 0), (zI (0) 0), (zI (0) 0), (zI (0) 0), (zI (0) 0), (zR 201), (.bool false), (zI (181) 0), (zR 202), zN, zN, zN, zN, (zI (438) 0), (zI (36) 0), (zF 439)]
def o204_0 : Obj := oP "frame" [some (zR 203), some (zR 3), some (zR 200), none, some (zS "rowmill.errors" 187), none, some (zR 0)]
def o205_0 : Obj := oT []
def o206_0 (P : Params) : Obj := oD [zE P "__module__" 440 (zS "rowmill.errors" 187), zE P "__firstlineno__" 444 (zI (36) 443), zE P "__static_attributes__" 445 (zR 205), zE P "__doc__" 446 zN] 2
def o207_0 : Obj := oK { name := Str.ofString "NoMill", bases := [(zR 24)], mro := [(zR 207), (zR 24), (.type "ValueError"), (.type "Exception"), (.type "BaseException"), (.type "object")], ns := 206, qualname := Str.ofString "NoMill", hasDict := true, subclasses := [], abstract := false, hasDel := false } [some (zR 198), none, some (zS "NoMill" 433), some (zS "NoMill" 441), some (.builtin "ValueError.__new__"), some (.bool true)]
def o208_0 : Obj := oC "super" [(zR 207), (zR 207), (zR 207)]
def o209_0 : Obj := oC "builtin_function_or_method" [(.builtin "object.__init_subclass__"), (zR 207)]
def o210_0 : Obj := oT [(zR 24)]
def o211_0 : Obj := oC "builtin_function_or_method" [(.builtin "type.__prepare__"), (.type "type")]
def o212_0 (P : Params) : Obj := oD [zE P "__module__" 456 (zS "rowmill.errors" 187), zE P "__qualname__" 458 (zS "NoName" 457), zE P "__firstlineno__" 460 (zI (38) 459), zE P "__static_attributes__" 461 (zR 217)] 4
def o213_0 : Obj := oT []
def o214_0 : Obj := oF []
def o215_0 : Obj := oC "code" [(zS "NoName" 451), (zS "NoName" 452), (zF 453), (zI (38) 0), (zI (0) 0), (zI (0) 0), (zI (0) 0), (zI (0) 0), (zR 213), (.bool false), (zI (181) 0), (zR 214), zN, zN, zN, zN, (zI (454) 0), (zI (38) 0), (zF 455)]
def o216_0 : Obj := oP "frame" [some (zR 215), some (zR 3), some (zR 212), none, some (zS "rowmill.errors" 187), none, some (zR 0)]
def o217_0 : Obj := oT []
def o218_0 (P : Params) : Obj := oD [zE P "__module__" 456 (zS "rowmill.errors" 187), zE P "__firstlineno__" 460 (zI (38) 459), zE P "__static_attributes__" 461 (zR 217), zE P "__doc__" 462 zN] 2
def o219_0 : Obj := oK { name := Str.ofString "NoName", bases := [(zR 24)], mro := [(zR 219), (zR 24), (.type "ValueError"), (.type "Exception"), (.type "BaseException"), (.type "object")], ns := 218, qualname := Str.ofString "NoName", hasDict := true, subclasses := [], abstract := false, hasDel := false } [some (zR 210), none, some (zS "NoName" 449), some (zS "NoName" 457), some (.builtin "ValueError.__new__"), some (.bool true)]
def o220_0 : Obj := oC "super" [(zR 219), (zR 219), (zR 219)]
def o221_0 : Obj := oC "builtin_function_or_method" [(.builtin "object.__init_subclass__"), (zR 219)]
def o222_0 : Obj := oT [(zR 24)]
def o223_0 : Obj := oC "builtin_function_or_method" [(.builtin "type.__prepare__"), (.type "type")]
def o224_0 (P : Params) : Obj := oD [zE P "__module__" 472 (zS "rowmill.errors" 187), zE P "__qualname__" 474 (zS "NoWord" 473), zE P "__firstlineno__" 476 (zI (40) 475), zE P "__static_attributes__" 477 (zR 229)] 4
def o225_0 : Obj := oT []
def o226_0 : Obj := oF []
def o227_0 : Obj := oC "code" [(zS "NoWord" 467), (zS "NoWord" 468), (zF 469), (zI (40) 0), (zI (0) 0), (zI (0) 0), (zI (0) 0), (zI (0) 0), (zR 225), (.bool false), (zI (181) 0), (zR 226), zN, zN, zN, zN, (zI (470) 0), (zI (40) 0), (zF 471)]
def o228_0 : Obj := oP "frame" [some (zR 227), some (zR 3), some (zR 224), none, some (zS "rowmill.errors" 187), none, some (zR 0)]
def o229_0 : Obj := oT []
def o230_0 (P : Params) : Obj := oD [zE P "__module__" 472 (zS "rowmill.errors" 187), zE P "__firstlineno__" 476 (zI (40) 475), zE P "__static_attributes__" 477 (zR 229), zE P "__doc__" 478 zN] 2
def o231_0 : Obj := oK { name := Str.ofString "NoWord", bases := [(zR 24)], mro := [(zR 231), (zR 24), (.type "ValueError"), (.type "Exception"), (.type "BaseException"), (.type "object")], ns := 230, qualname := Str.ofString "NoWord", hasDict := true, subclasses := [], abstract := false, hasDel := false } [some (zR 222), none, some (zS "NoWord" 465), some (zS "NoWord" 473), some (.builtin "ValueError.__new__"), some (.bool true)]
def o232_0 : Obj := oC "super" [(zR 231), (zR 231), (zR 231)]
def o233_0 : Obj := oC "builtin_function_or_method" [(.builtin "object.__init_subclass__"), (zR 231)]
def o234_0 : Obj := oT []
def o235_0 : Obj := oF []
def o236_0 : Obj := oT [(zS "_law_script" 486), (zS "_law_k" 487), (zS "_law_cell_here" 488), (zS "_law_more" 489)]
def o237_0 : Obj := oT []
def o238_0 : Obj := oG (fG (top 19) "_law_cell" "_law_cell")
def o239_0 : Obj := oC "code" [(zS "_law_cell" 483), (zS "_law_cell" 484), (zF 485), (zI (43) 0), (zI (2) 0), (zI (0) 0), (zI (0) 0), (zI (3) 0), (zR 234), (.bool true), (zI (181) 0), (zR 235), zN, (zR 236), (zR 237), (zR 238), (zI (490) 0), (zI (43) 0), (zF 491)]
def o240_0 : Obj := oH (fH (top 19) "_law_cell" "_law_cell" zN zN (zS "law_rowmill_k17_refusals_apart" 481) (zR 239))
def o241_0 : Obj := oT []
def o242_0 : Obj := oF []
def o243_0 : Obj := oT [(zS "_law_text" 496), (zS "_law_at" 497), (zS "_law_some" 498)]
def o244_0 : Obj := oT []
def o245_0 : Obj := oG (fG (top 20) "_law_all" "_law_all")
def o246_0 : Obj := oC "code" [(zS "_law_all" 493), (zS "_law_all" 494), (zF 495), (zI (51) 0), (zI (2) 0), (zI (0) 0), (zI (0) 0), (zI (3) 0), (zR 241), (.bool true), (zI (181) 0), (zR 242), zN, (zR 243), (zR 244), (zR 245), (zI (499) 0), (zI (51) 0), (zF 500)]
def o247_0 : Obj := oH (fH (top 20) "_law_all" "_law_all" zN zN (zS "law_rowmill_k17_refusals_apart" 481) (zR 246))
def o248_0 : Obj := oT []
def o249_0 : Obj := oF []
def o250_0 : Obj := oT [(zS "_law_e" 505), (zS "_law_found" 506)]
def o251_0 : Obj := oT []
def o252_0 : Obj := oG (fG (top 21) "_law_kinds" "_law_kinds")
def o253_0 : Obj := oC "code" [(zS "_law_kinds" 502), (zS "_law_kinds" 503), (zF 504), (zI (55) 0), (zI (1) 0), (zI (0) 0), (zI (0) 0), (zI (3) 0), (zR 248), (.bool true), (zI (181) 0), (zR 249), zN, (zR 250), (zR 251), (zR 252), (zI (507) 0), (zI (55) 0), (zF 508)]
def o254_0 : Obj := oH (fH (top 21) "_law_kinds" "_law_kinds" zN zN (zS "law_rowmill_k17_refusals_apart" 481) (zR 253))
def o255_0 : Obj := oT []
def o256_0 : Obj := oF []
def o257_0 : Obj := oG (fG (top 22) "law" "law")
def o258_0 : Obj := oC "code" [(zS "law" 510), (zS "law" 511), (zF 512), (zI (63) 0), (zI (1) 0), (zI (0) 0), (zI (0) 0), (zI (3) 0), (zR 255), (.bool true), (zI (181) 0), (zR 256), zN, zN, zN, (zR 257), (zI (513) 0), (zI (63) 0), (zF 514)]
def o259_0 : Obj := oH (fH (top 22) "law" "law" zN zN (zS "law_rowmill_k17_refusals_apart" 481) (zR 258))
noncomputable def tr_0 (P : Params) : PySem.W.BT := (.node (boot_o_0 P) (.node (boot_o_1 P) (.node (o3_0 P) (.node (boot_o_7 P) (.node o15_0 (.node o31_0 (.node o63_0 (.node (o127_0 P) (.node o255_0 .nil .nil) .nil) (.node o191_0 .nil .nil)) (.node o95_0 (.node o159_0 .nil .nil) (.node o223_0 .nil .nil))) (.node o47_0 (.node (o79_0 P) (.node o143_0 .nil .nil) (.node o207_0 .nil .nil)) (.node o111_0 (.node o175_0 .nil .nil) (.node o239_0 .nil .nil)))) (.node (o23_0 P) (.node o39_0 (.node o71_0 (.node o135_0 .nil .nil) (.node o199_0 .nil .nil)) (.node (o103_0 P) (.node o167_0 .nil .nil) (.node o231_0 .nil .nil))) (.node (o55_0 P) (.node o87_0 (.node (o151_0 P) .nil .nil) (.node o215_0 .nil .nil)) (.node o119_0 (.node o183_0 .nil .nil) (.node o247_0 .nil .nil))))) (.node o11_a (.node o19_0 (.node o35_0 (.node (o67_0 P) (.node o131_0 (.node o259_0 .nil .nil) .nil) (.node o195_0 .nil .nil)) (.node o99_0 (.node (o163_0 P) .nil .nil) (.node o227_0 .nil .nil))) (.node o51_0 (.node o83_0 (.node o147_0 .nil .nil) (.node o211_0 .nil .nil)) (.node (o115_0 P) (.node o179_0 .nil .nil) (.node o243_0 .nil .nil)))) (.node o27_0 (.node o43_0 (.node o75_0 (.node (o139_0 P) .nil .nil) (.node o203_0 .nil .nil)) (.node o107_0 (.node o171_0 .nil .nil) (.node o235_0 .nil .nil))) (.node o59_0 (.node (o91_0 P) (.node o155_0 .nil .nil) (.node o219_0 .nil .nil)) (.node o123_0 (.node o187_0 .nil .nil) (.node o251_0 .nil .nil)))))) (.node (boot_o_5 P) (.node (boot_o_9 P) (.node (o17_0 P) (.node o33_0 (.node o65_0 (.node o129_0 (.node o257_0 .nil .nil) .nil) (.node o193_0 .nil .nil)) (.node (o97_0 P) (.node o161_0 .nil .nil) (.node o225_0 .nil .nil))) (.node o49_0 (.node o81_0 (.node (o145_0 P) .nil .nil) (.node o209_0 .nil .nil)) (.node o113_0 (.node o177_0 .nil .nil) (.node o241_0 .nil .nil)))) (.node o25_0 (.node o41_0 (.node (o73_0 P) (.node o137_0 .nil .nil) (.node o201_0 .nil .nil)) (.node o105_0 (.node (o169_0 P) .nil .nil) (.node o233_0 .nil .nil))) (.node o57_0 (.node o89_0 (.node o153_0 .nil .nil) (.node o217_0 .nil .nil)) (.node (o121_0 P) (.node o185_0 .nil .nil) (.node o249_0 .nil .nil))))) (.node o13_a (.node o21_0 (.node o37_0 (.node o69_0 (.node (o133_0 P) .nil .nil) (.node o197_0 .nil .nil)) (.node o101_0 (.node o165_0 .nil .nil) (.node o229_0 .nil .nil))) (.node o53_0 (.node (o85_0 P) (.node o149_0 .nil .nil) (.node o213_0 .nil .nil)) (.node o117_0 (.node o181_0 .nil .nil) (.node o245_0 .nil .nil)))) (.node o29_0 (.node o45_0 (.node o77_0 (.node o141_0 .nil .nil) (.node o205_0 .nil .nil)) (.node (o109_0 P) (.node o173_0 .nil .nil) (.node o237_0 .nil .nil))) (.node (o61_0 P) (.node o93_0 (.node (o157_0 P) .nil .nil) (.node o221_0 .nil .nil)) (.node o125_0 (.node o189_0 .nil .nil) (.node o253_0 .nil .nil))))))) (.node (boot_o_2 P) (.node (boot_o_4 P) (.node (boot_o_8 P) (.node o16_0 (.node o32_0 (.node o64_0 (.node o128_0 (.node o256_0 .nil .nil) .nil) (.node o192_0 .nil .nil)) (.node o96_0 (.node o160_0 .nil .nil) (.node (o224_0 P) .nil .nil))) (.node o48_0 (.node o80_0 (.node o144_0 .nil .nil) (.node o208_0 .nil .nil)) (.node o112_0 (.node o176_0 .nil .nil) (.node o240_0 .nil .nil)))) (.node o24_0 (.node o40_0 (.node o72_0 (.node o136_0 .nil .nil) (.node (o200_0 P) .nil .nil)) (.node o104_0 (.node o168_0 .nil .nil) (.node o232_0 .nil .nil))) (.node o56_0 (.node o88_0 (.node o152_0 .nil .nil) (.node o216_0 .nil .nil)) (.node o120_0 (.node o184_0 .nil .nil) (.node o248_0 .nil .nil))))) (.node o12_0 (.node o20_0 (.node (o36_0 P) (.node o68_0 (.node o132_0 .nil .nil) (.node o196_0 .nil .nil)) (.node o100_0 (.node o164_0 .nil .nil) (.node o228_0 .nil .nil))) (.node o52_0 (.node o84_0 (.node o148_0 .nil .nil) (.node (o212_0 P) .nil .nil)) (.node o116_0 (.node o180_0 .nil .nil) (.node o244_0 .nil .nil)))) (.node o28_0 (.node o44_0 (.node o76_0 (.node o140_0 .nil .nil) (.node o204_0 .nil .nil)) (.node o108_0 (.node o172_0 .nil .nil) (.node o236_0 .nil .nil))) (.node o60_0 (.node o92_0 (.node o156_0 .nil .nil) (.node o220_0 .nil .nil)) (.node o124_0 (.node (o188_0 P) .nil .nil) (.node o252_0 .nil .nil)))))) (.node (boot_o_6 P) (.node (boot_o_10 P) (.node o18_0 (.node o34_0 (.node o66_0 (.node o130_0 (.node o258_0 .nil .nil) .nil) (.node (o194_0 P) .nil .nil)) (.node o98_0 (.node o162_0 .nil .nil) (.node o226_0 .nil .nil))) (.node o50_0 (.node o82_0 (.node o146_0 .nil .nil) (.node o210_0 .nil .nil)) (.node o114_0 (.node o178_0 .nil .nil) (.node o242_0 .nil .nil)))) (.node o26_0 (.node (o42_0 P) (.node o74_0 (.node o138_0 .nil .nil) (.node o202_0 .nil .nil)) (.node o106_0 (.node o170_0 .nil .nil) (.node o234_0 .nil .nil))) (.node o58_0 (.node o90_0 (.node o154_0 .nil .nil) (.node (o218_0 P) .nil .nil)) (.node o122_0 (.node o186_0 .nil .nil) (.node o250_0 .nil .nil))))) (.node o14_a (.node o22_0 (.node o38_0 (.node o70_0 (.node o134_0 .nil .nil) (.node o198_0 .nil .nil)) (.node o102_0 (.node o166_0 .nil .nil) (.node (o230_0 P) .nil .nil))) (.node o54_0 (.node o86_0 (.node o150_0 .nil .nil) (.node o214_0 .nil .nil)) (.node o118_0 (.node (o182_0 P) .nil .nil) (.node o246_0 .nil .nil)))) (.node (o30_0 P) (.node o46_0 (.node o78_0 (.node o142_0 .nil .nil) (.node (o206_0 P) .nil .nil)) (.node o110_0 (.node o174_0 .nil .nil) (.node o238_0 .nil .nil))) (.node o62_0 (.node o94_0 (.node o158_0 .nil .nil) (.node o222_0 .nil .nil)) (.node o126_0 (.node o190_0 .nil .nil) (.node o254_0 .nil .nil))))))))
noncomputable def tr_f (P : Params) : PySem.W.BT := tr_0 P
noncomputable def tr_boot (P : Params) : PySem.W.BT := (.node (boot_o_0 P) (.node (boot_o_1 P) (.node (boot_o_3 P) (.node (boot_o_7 P) .nil .nil) .nil) (.node (boot_o_5 P) (.node (boot_o_9 P) .nil .nil) .nil)) (.node (boot_o_2 P) (.node (boot_o_4 P) (.node (boot_o_8 P) .nil .nil) .nil) (.node (boot_o_6 P) (.node (boot_o_10 P) .nil .nil) .nil)))
def bodyS : List Stmt := behindTheImports hprog
def envS : PySem.Env := { scope := hprog.main.scope, locals := mainNs, globals := mainNs, cells := [], code := (zR 13), frame := some 14 }
theorem h_boot (P : Params) : HandSHeadRun.putAll (boot_heap P).objs.toList .nil 0 = some (tr_boot P, 11) := by kernel_rfl
theorem h_pre (w : World) (os : OsState) : goG (stQ hprog w) 11 (some (zR 6) : Option Value) 12 (ctT (tr_boot w.params) 11 boot_toks os) (topStub hprog) = some ((ctT (tr_a w.params) 15 187 os), ⟨HandSHeadRun.denQ HandSHeadRun.tabQ (.body bodyS envS), .body bodyS envS, ⟨0, 0, 0, 0⟩, [topFrame ⟨0, 0, 0, 0⟩]⟩) := by kernel_rfl
theorem h_blk (w : World) (os : OsState) : segF (stQ hprog w) 11 (some (zR 6) : Option Value) 1 (ctT (tr_a w.params) 15 187 os) (blockOf bodyS envS (.body bodyS envS) ⟨0, 0, 0, 0⟩ [topFrame ⟨0, 0, 0, 0⟩]) = some (.next, (ctT (tr_a w.params) 15 187 os), .body bodyS envS, ⟨0, 0, 0, 0⟩) := by kernel_rfl
def sts0 : List Stmt := (bodyS.drop 0).take 23
def G0 (w : World) : Prop := ∀ (b : List Stmt) (os : OsState), segF (stQ hprog w) 11 (some (zR 6) : Option Value) 3796 (ctT (tr_a w.params) 15 187 os) (grp sts0 envS (.body b envS) ⟨0, 0, 0, 0⟩ ⟨0, 0, 0, 0⟩) = some (.next, (ctT (tr_0 w.params) 260 516 os), .body b envS, ⟨63, 0, 70, 113⟩)
set_option maxHeartbeats 0
theorem h_g0 (w : World) : G0 w := by
  intro b os
  kernel_rfl
theorem h_fin (w : World) (os : OsState) (b : List Stmt) : HandSHeadRun.goF (stQ hprog w) 11 (some (zR 6) : Option Value) 2 (ctT (tr_0 w.params) 260 516 os) ⟨doneF .next, .body b envS, ⟨63, 0, 70, 113⟩, [topFrame ⟨0, 0, 0, 0⟩]⟩ = some (ctT (tr_f w.params) 260 516 os) := by kernel_rfl
theorem h_body : bodyS = (sts0 ++ []) := by kernel_rfl
theorem h_run (w : World) (os : OsState) : topRun treeTable hprog w 11 (some (zR 6) : Option Value) (12 + (1 + (3796 + 2))) (ctT (tr_boot w.params) 11 boot_toks os).abs (topStub hprog) = some ((ctT (tr_f w.params) 260 516 os)).abs := by
  refine grp_start (h_pre w os) (h_blk w os) ?_
  have z : topRun treeTable hprog w 11 (some (zR 6) : Option Value) (3796 + 2) ((ctT (tr_a w.params) 15 187 os)).abs (restOf (sts0 ++ []) envS (.body bodyS envS) ⟨0, 0, 0, 0⟩ [topFrame ⟨0, 0, 0, 0⟩]) = some ((ctT (tr_f w.params) 260 516 os)).abs := (grp_app (h_g0 w _ os) (grp_end (h_fin w os _)))
  rw [← h_body] at z
  exact z
theorem h_looks (w : World) (os : OsState) : HandSHeadRun.looksF hprog (boot_heap w.params) ((ctT (tr_f w.params) 260 516 os)).abs = true := by kernel_rfl
abbrev hq : Program := PySem.W.view hprog [22]
theorem h_seen (w : World) (os : OsState) : HandSHeadRun.seenQ hq names (importedModules hprog.main.body) (fun s => xlAt hq [] s && recOk (PySem.W.OpenLaw.row PySem.Challenge.rw_rowmill_k17_refusals_apart).toRowW.records s) ((ctT (tr_f w.params) 260 516 os)).abs = openGood hq names := by kernel_rfl
def addr0 : List Addr := [24, 37, 56, 68, 80, 92, 104, 116, 128, 140, 152, 164, 183, 195, 207]
def addr1 : List Addr := [219, 231, 3, 6, 4, 240, 247, 254, 259, 0, 23, 36, 55, 67, 79]
def addr2 : List Addr := [91, 103, 115, 127, 139, 151, 163, 182, 194, 206, 218, 230, 239, 246, 253]
def addr3 : List Addr := [258, 22, 25, 35, 53, 54, 66, 78, 90, 102, 114, 126, 138, 150, 162]
def addr4 : List Addr := [180, 181, 193, 205, 217, 229, 234, 235, 236, 237, 238, 241, 242, 243, 244]
def addr5 : List Addr := [245, 248, 249, 250, 251, 252, 255, 256, 257, 52, 179, 2]
def addrs : List Addr := addr0 ++ addr1 ++ addr2 ++ addr3 ++ addr4 ++ addr5
abbrev hk : PySem.W.Hook := hookL addrs lawD
def obK (s : PySem.W.SharedT) : AlR := obsLG addrs lawD (HandSHeadRun.getT s)
theorem obK_eq (s : PySem.W.SharedT) : obK s = hk.obs s.abs := obsLG_eq (HandSHeadRun.getT_eq s)
noncomputable abbrev KK (w : World) (os : OsState) : PySem.W.Frag := He.frG (HandSHeadRun.getT (ctT (tr_f w.params) 260 516 os)) addrs
theorem h_o1_0 (w : World) (os : OsState) : He.obsD [] (defs0.map DefX.dd) (KK w os) = He.valD (defs0.map DefX.dd) := by kernel_rfl
theorem h_o1 (w : World) (os : OsState) : He.obsD [] (lawD.defs.map DefX.dd) (KK w os) = He.valD (lawD.defs.map DefX.dd) := (h_o1_0 w os)
theorem h_o2 (w : World) (os : OsState) : (freeN.all fun x => (He.Fa.free x).ok (KK w os)) = true := by kernel_rfl
theorem h_o3 (w : World) (os : OsState) : (lawD.defs.all fun d => d.at_.2.isSome || (He.Fa.glo d.at_.1).ok (KK w os)) = true := by kernel_rfl
theorem h_o5 : nodupB lawD.ats = true := by kernel_rfl
theorem h_o6 (w : World) (os : OsState) : lawD.con.all (conF (KK w os)) = true := by kernel_rfl
theorem h_o7_0 (w : World) (os : OsState) : ((lawD.exc.zipIdx.take 4).all (fun x => excB lawD (KK w os) x.1 x.2)) = true := by kernel_rfl
theorem h_o7_1 (w : World) (os : OsState) : (((lawD.exc.zipIdx.drop 4).take 4).all (fun x => excB lawD (KK w os) x.1 x.2)) = true := by kernel_rfl
theorem h_o7_2 (w : World) (os : OsState) : ((((lawD.exc.zipIdx.drop 4).drop 4).take 4).all (fun x => excB lawD (KK w os) x.1 x.2)) = true := by kernel_rfl
theorem h_o7_3 (w : World) (os : OsState) : (((((lawD.exc.zipIdx.drop 4).drop 4).drop 4).take 4).all (fun x => excB lawD (KK w os) x.1 x.2)) = true := by kernel_rfl
theorem h_o7_4 (w : World) (os : OsState) : (((((lawD.exc.zipIdx.drop 4).drop 4).drop 4).drop 4).all (fun x => excB lawD (KK w os) x.1 x.2)) = true := by kernel_rfl
theorem h_o8 (w : World) (os : OsState) : lawD.dcs.all (dcB (KK w os)) = true := by kernel_rfl
theorem h_o9 (w : World) (os : OsState) : (lawD.dcs.map fun x => He.dicW (KK w os) (He.ga (KK w os) x.1)) = lawD.dcs.map fun x => some (He.keysIn w.params (x.2.map (·.1))) := by kernel_rfl
theorem h_obs (w : World) (os : OsState) : obK (ctT (tr_f w.params) 260 516 os) = hk.val w := obsR_of (h_o1 w os) (h_o2 w os) (h_o3 w os) rfl h_o5 (h_o6 w os) (all_cut 4 (h_o7_0 w os) (all_cut 4 (h_o7_1 w os) (all_cut 4 (h_o7_2 w os) (all_cut 4 (h_o7_3 w os) (h_o7_4 w os))))) (h_o8 w os) (h_o9 w os)
set_option maxHeartbeats 0 in
theorem defsOk_0 : defs0.all (defB lawD) = true := by
  decide +kernel
theorem defsOk : lawD.defs.all (defB lawD) = true := defsOk_0
end Rw
section
open PySem PySem.W PySem.Calls PyProof.Rows
set_option maxRecDepth 100000 in
set_option maxHeartbeats 0 in
theorem Rw.late (hm : ∀ ns : List Int, ns.length ≤ 63 → ∃ S, Rw.callF Rw.lawD.tab 12 5 [Rw.Val.t (Rw.T.scr ns)] [] = Rw.R.ok (Rw.Val.t (Rw.T.bl true)) S) : PySem.Challenge.rw_rowmill_k17_refusals_apart.Holds := by
  w_on
  refine Rw.early fun said => ?_
  refine Rw.head_cut (r := OpenLaw.row PySem.Challenge.rw_rowmill_k17_refusals_apart) (q := Rw.hq) (H := Rw.hk) (ob := Rw.obK) (loose := Rw.names) (d := HandSHeadRun.topDef Rw.hprog 22) (kwd := []) (fun w os => (Rw.ctT (Rw.tr_f w.params) 260 516 os)) Rw.obK_eq
    (by kernel_rfl) (fun s => by kernel_rfl) Rw.h_boot (fun P => by kernel_rfl) (fun P => by kernel_rfl) (by rfl) Rw.h_run Rw.h_looks Rw.h_seen Rw.h_obs (by kernel_rfl) (by kernel_rfl) (by kernel_rfl) (by rfl) (by first | assumption | decide +kernel) (by decide +kernel) Rw.bare0 ?hw ?hc
  case hw => w_witness2
  case hc => exact Rw.walk_rw (n := 4) (L := Rw.lawD) (m := 12) (lawId := 5) rfl (by kernel_rfl) rfl (by kernel_rfl) rfl rfl rfl rfl Rw.defsOk (by decide) hm
end
namespace Rw
open PySem PySem.Spec PyProof.Rows L2 PySem.W
def cell0 (ns : List Int) (k : Int) : Int := if ns = [] then ((7919 * k) + 11) else ((((ns[(k % (ns.length : Int)).toNat]?).getD 0 * 48271) + (104729 * k)) + ((k / (ns.length : Int)) * 7919))
def mixC (c k : Int) : Int := ((c % 2147483647) * (c % 2147483647) % 2147483629 * ((c % 2147483647) * (c % 2147483647) % 2147483629) + 69621 * ((c % 2147483647) * (c % 2147483647) % 2147483629) + k) % 2147483587
def cell (ns : List Int) (k : Int) : Int := mixC (cell0 ns k) k
theorem call_cell (n : Nat) (ns : List Int) (k : Int) (S : Store) (hl : ns.length ≤ 63) (hk : 0 ≤ k) : callF tab (n + 1) 2 [.t (.scr ns), .t (.int k)] S = .ok (.t (.int (cell ns k))) S := by
  have h1 := mod_bd (cell0 ns k) (j := 2147483647) (by decide)
  have h2 := mod_bd (cell0 ns k % 2147483647 * (cell0 ns k % 2147483647)) (j := 2147483629) (by decide)
  have m1 : bigI (cell0 ns k % 2147483647) = true := bigI_of (by omega) (by omega)
  have m2 : bigI (cell0 ns k % 2147483647 * (cell0 ns k % 2147483647) % 2147483629) = true := bigI_of (by omega) (by omega)
  rw [show ([.t (.scr ns), .t (.int k)] : List Val) = [T.scr ns, T.int k].map .t from rfl, callP _ tab__law_cell rfl rfl rfl]
  by_cases hn : ns = []
  · have e : cell0 [] k = ((7919 * k) + 11) := if_pos rfl
    subst hn
    rw [e] at m1 m2
    simp (decide := true) [f__law_cell, c__law_cell, dSs, dS, dE, dEs, dB, binI_mulL, binI_mulR, binI_mod, binI_div, m1, m2, cell, mixC, e]
  · have hp : 0 < ns.length := List.length_pos_iff.mpr hn
    have hr := mod_bd k (j := ns.length) (by omega)
    have e : cell0 ns k = ((((ns[(k % (ns.length : Int)).toNat]?).getD 0 * 48271) + (104729 * k)) + ((k / (ns.length : Int)) * 7919)) := if_neg hn
    have hg : atL ns (k % ns.length) = some ((ns[(k % ns.length).toNat]?).getD 0) := by
      rw [atL_nat hr.1 (by omega)]
      have : (k % ns.length).toNat < ns.length := by omega
      rw [List.getElem?_eq_getElem this]
      rfl
    rw [e] at m1 m2
    have p1 : (0 : Int) < ns.length := by omega
    have p2 : (ns.length : Int) < 1073741824 := by omega
    simp (decide := true) [f__law_cell, c__law_cell, dSs, dS, dE, dEs, dB, binI_mulL, binI_mulR, binI_mod p1, binI_div p1 p2, binI_mod, hn, m1, m2, cell, mixC, e, hg]
theorem retQ {m : RS} {x : T} {S1 S : Store} (h : m = .rt (.t x) S1) : resP m S = .ok (.t x) S := by
  rw [h]
  rfl
def xs17 (a : Int) : List T := [.exv 1 [], .exv 2 [(0, .int a)], .exv 3 [], .exv 4 [], .exv 5 [], .exv 6 [], .exv 7 [], .exv 8 [], .exv 9 [], .exv 10 [], .exv 11 [], .exv 12 [(0, .int a)], .exv 13 [], .exv 14 [], .exv 15 [], .exv 16 []]
section
variable {n : Nat}
theorem mk_at {a : Int} (h : a.natAbs < 1000000) {c : Nat} (hc : c = 2 ∨ c = 12) {e : IE} {env : Env} {S : Store} (he : dE tab (callF tab n) e env S = .ok (.t (.int a)) S) : dE tab (callF tab n) (.mkx c (.cons e .nil)) env S = .ok (.t (.exv c [(0, .int a)])) S := by
  show (dEs tab (callF tab n) (.cons e .nil) env S).bind (fun vs S => mkxV tab c vs S) = _
  rw [evs_cons he evs_nil, R.bind_ok]
  have hb : a.natAbs < 100000000000000000000 := by omega
  rcases hc with rfl | rfl
  · show (if a.natAbs < 100000000000000000000 then R.ok (Val.t (.exv 2 [(0, .int a)])) S else .bad) = _
    rw [if_pos hb]
  · show (if a.natAbs < 100000000000000000000 then R.ok (Val.t (.exv 12 [(0, .int a)])) S else .bad) = _
    rw [if_pos hb]
theorem call_all (x : Str) {a : Int} (h : a.natAbs < 1000000) (S : Store) : callF tab (n + 1) 3 [.t (.str x), .t (.int a)] S = .ok (.t (.lst (xs17 a))) S := by
  rw [show ([.t (.str x), .t (.int a)] : List Val) = [T.str x, .int a].map .t from rfl, callQ _ [some (.t (.str x)), some (.t (.int a)), none] tab__law_all rfl rfl, c__law_all]
  refine retQ (S1 := []) ?_
  refine sx_set (v := .t (.lst ((xs17 a).take 7))) (S1 := []) (ev_lst (vs := ((xs17 a).take 7).map .t) (S1 := []) (evs_cons rfl (evs_cons (mk_at h (.inl rfl) (ev_var rfl)) (evs_cons rfl (evs_cons rfl (evs_cons rfl (evs_cons rfl (evs_cons rfl evs_nil))))))) rfl) ?_
  simp only [List.set_cons_succ, List.set_cons_zero]
  refine sx_set (v := .t (.lst ((xs17 a).take 14))) (S1 := []) (ev_bin (S1 := []) (S2 := []) (x := .t (.lst ((xs17 a).take 7))) (y := .t (.lst (((xs17 a).take 14).drop 7))) (ev_var rfl) (ev_lst (vs := (((xs17 a).take 14).drop 7).map .t) (S1 := []) (evs_cons rfl (evs_cons rfl (evs_cons rfl (evs_cons rfl (evs_cons (mk_at h (.inr rfl) (ev_var rfl)) (evs_cons rfl (evs_cons rfl evs_nil))))))) rfl) rfl) ?_
  simp only [List.set_cons_succ, List.set_cons_zero]
  exact sx_ret (ev_bin (S1 := []) (S2 := []) (x := .t (.lst ((xs17 a).take 14))) (y := .t (.lst ((xs17 a).drop 14))) (ev_var rfl) (ev_lst (vs := ((xs17 a).drop 14).map .t) (S1 := []) (evs_cons rfl (evs_cons rfl evs_nil)) rfl) rfl)
end
theorem eq_i (i : Int) (S : Store) : cmpV .Eq (.t (.int i)) (.t (.int i)) S = .ok (.t (.bl true)) S := by
  show ofT ((eqT (.int i) (.int i)).map .bl) S = _
  rw [eqT_int, decide_eq_true rfl]
  rfl
theorem at_x {call : Call} {e : IE} {env : Env} {S : Store} {a : Int} {c : Nat} (hc : c = 2 ∨ c = 12) (he : dE tab call e env S = .ok (.t (.exv c [(0, .int a)])) S) : dE tab call (.exvAt e 0) env S = .ok (.t (.int a)) S := by
  show (dE tab call e env S).bind (fun v S => xvAtV tab 0 v S) = _
  rw [he, R.bind_ok]
  rcases hc with rfl | rfl <;> rfl
theorem main : ∀ ns : List Int, ns.length ≤ 63 → ∃ S, callF lawD.tab 12 5 [Val.t (.scr ns)] [] = .ok (.t (.bl true)) S := by
  intro ns hl
  refine ⟨[], ?_⟩
  have c0 := call_cell 10 ns 0 [] hl (by decide)
  have c1 := call_cell 10 ns 1 [] hl (by decide)
  have m4 := mod_bd (cell ns 0) (j := 4) (by decide)
  have ma := mod_bd (cell ns 1) (j := 1000) (by decide)
  obtain ⟨x, hx⟩ : ∃ x : Str, atL [T.str (Str.ofString ""), .str (Str.ofString "a"), .str (Str.ofString "no row"), .str (Str.ofString "7")] (cell ns 0 % 4) = some (.str x) := by
    have : cell ns 0 % 4 = 0 ∨ cell ns 0 % 4 = 1 ∨ cell ns 0 % 4 = 2 ∨ cell ns 0 % 4 = 3 := by omega
    rcases this with e | e | e | e <;> rw [e]
    · exact ⟨_, rfl⟩
    · exact ⟨_, rfl⟩
    · exact ⟨_, rfl⟩
    · exact ⟨_, rfl⟩
  generalize ha : cell ns 1 % 1000 = a at ma
  have al := call_all (n := 10) x (a := a) (by omega) []
  obtain ⟨e1, S1, hf, hP⟩ := forL_idx (w := none) (many := false) (tg := [4]) (body := fun env S => dSs tab (callF tab 11) b_law_0 env S)
    (fun j env S => ∃ v4 : Option Val, env = [some (.t (.scr ns)), some (.t (.str x)), some (.t (.int a)), some (.t (.lst (xs17 a))), v4, none] ∧ S = []) (fun _ _ _ _ => okW_none _) (rng 0 16) 0 [some (.t (.scr ns)), some (.t (.str x)), some (.t (.int a)), some (.t (.lst (xs17 a))), none, none] [] ⟨none, rfl, rfl⟩ (by
      rintro i v env S hv ⟨v4, rfl, rfl⟩
      have hi : i < 16 := (List.getElem?_eq_some_iff.mp hv).1
      rw [rng_get (by omega)] at hv
      cases hv
      rw [Int.zero_add]
      refine ⟨_, [some (.t (.scr ns)), some (.t (.str x)), some (.t (.int a)), some (.t (.lst (xs17 a))), some (.t (.int i)), none], [], rfl, ?_, _, rfl, rfl⟩
      show dSs tab (callF tab 11) b_law_0 [some (.t (.scr ns)), some (.t (.str x)), some (.t (.int a)), some (.t (.lst (xs17 a))), some (.t (.int i)), none] [] = _
      have : i = 0 ∨ i = 1 ∨ i = 2 ∨ i = 3 ∨ i = 4 ∨ i = 5 ∨ i = 6 ∨ i = 7 ∨ i = 8 ∨ i = 9 ∨ i = 10 ∨ i = 11 ∨ i = 12 ∨ i = 13 ∨ i = 14 ∨ i = 15 := by omega
      rcases this with rfl | rfl | rfl | rfl | rfl | rfl | rfl | rfl | rfl | rfl | rfl | rfl | rfl | rfl | rfl | rfl <;> rfl)
  obtain ⟨v4, rfl, rfl⟩ := hP
  rw [show ([.t (.scr ns)] : List Val) = [T.scr ns].map .t from rfl, callQ _ [some (.t (.scr ns)), none, none, none, none, none] tab_law rfl rfl, c_law]
  refine retQ (S1 := []) ?_
  refine sx_set (v := .t (.str x)) (S1 := []) (ev_sub (x := .t (.lst [T.str (Str.ofString ""), .str (Str.ofString "a"), .str (Str.ofString "no row"), .str (Str.ofString "7")])) (y := .t (.int (cell ns 0 % 4))) (S1 := []) (S2 := []) rfl (ev_bin (x := .t (.int (cell ns 0))) (y := .t (.int 4)) (S1 := []) (S2 := []) (ev_call (evs_cons (ev_var rfl) (evs_cons (ev_con _) evs_nil)) c0) (ev_con _) rfl) (by rw [sub_lst, hx]; rfl)) ?_
  simp only [List.set_cons_succ, List.set_cons_zero]
  refine sx_set (v := .t (.int a)) (S1 := []) (ev_bin (x := .t (.int (cell ns 1))) (y := .t (.int 1000)) (S1 := []) (S2 := []) (ev_call (evs_cons (ev_var rfl) (evs_cons (ev_con _) evs_nil)) c1) (ev_con _) (by rw [← ha]; rfl)) ?_
  simp only [List.set_cons_succ, List.set_cons_zero]
  refine sx_set (v := .t (.lst (xs17 a))) (S1 := []) (ev_call (evs_cons (ev_var rfl) (evs_cons (ev_var rfl) evs_nil)) al) ?_
  simp only [List.set_cons_succ, List.set_cons_zero]
  rw [step_for (vs := [.t (.int 16)]) (S1 := []) (its := rng 0 16) (w := none) (S2 := []) (evs_cons (ev_con _) evs_nil) (items_rng1 _ _ (rngOk_of (by omega) (by omega))), hf, seq_nx]
  exact sx_ret (ev_andT (S1 := []) (ev_cmp (at_x (c := 2) (.inl rfl) (ev_sub (ev_var rfl) (ev_con _) rfl)) (ev_var rfl) (eq_i a _)) (ev_andT (S1 := []) (ev_cmp (at_x (c := 12) (.inr rfl) (ev_sub (ev_var rfl) (ev_con _) rfl)) (ev_var rfl) (eq_i a _)) (ev_and1 (ev_cmp (at_x (c := 2) (a := a + 1) (.inl rfl) (mk_at (by omega) (.inl rfl) (ev_bin (x := .t (.int a)) (y := .t (.int 1)) (S1 := []) (S2 := []) (ev_var rfl) (ev_con _) rfl))) (ev_bin (x := .t (.int a)) (y := .t (.int 1)) (S1 := []) (S2 := []) (ev_var rfl) (ev_con _) rfl) (eq_i (a + 1) _)))))
end Rw
theorem PySem.Challenge.cw_rowmill_k17_refusals_apart_holds : PySem.Challenge.rw_rowmill_k17_refusals_apart.Holds :=
  Rw.late Rw.main
