import PyProof.Rows.All
import Wide.All
import OpenK.AllK
import Wide.FinOn
import PyProof.ReprReads
import HandS.ForMost
import HandS.Exc
import HandS.TupAny
import HandS.Conv
import HandS.Deep
import HandS.IsInst
import HandS.Flow
import HandS.Strs
import KE.DataCmp
import HandS.SortInts
import KE.SortData
import PyProof.ReprRoads
import HandS.Zip
import KE.GoesMore
import HandS.Rev
import HandS.Style
import PySem.Challenge.RW_saidwish_k53_crowds_told
set_option Elab.async false
set_option linter.all false
set_option maxRecDepth 100000
section
set_option Elab.async false
set_option linter.all false
set_option maxRecDepth 100000
namespace Mn
open PySem

/-- values: tuples by value, changing things by their place in the mini memory -/
inductive PV where
  | non | bl (b : Bool) | int (i : Int) | str (x : Str) | tup (xs : List PV) | ref (n : Nat)
  deriving Inhabited

/-- all places in it are below b -/
def PV.bnd (b : Nat) : PV → Bool
  | .tup xs => bnds xs
  | .ref n => decide (n < b)
  | _ => true
where bnds : List PV → Bool
  | [] => true
  | x :: xs => x.bnd b && bnds xs

theorem bnds_eq (b : Nat) : ∀ xs : List PV, PV.bnd.bnds b xs = xs.all (PV.bnd b)
  | [] => by unfold PV.bnd.bnds; rfl
  | x :: xs => by unfold PV.bnd.bnds; rw [List.all_cons, bnds_eq b xs]
theorem bnd_tup (b : Nat) (xs : List PV) : (PV.tup xs).bnd b = xs.all (PV.bnd b) := by
  rw [PV.bnd]; exact bnds_eq b xs

/-- without places -/
abbrev PV.pure (v : PV) : Bool := v.bnd 0

inductive MObj where
  | lst (xs : List PV)
  /-- a list that is read alone -/
  | rol (xs : List PV)
  deriving Inhabited

def MObj.bnd (b : Nat) : MObj → Bool
  | .lst xs => xs.all (PV.bnd b)
  | .rol xs => xs.all (PV.bnd b)

/-- the newest object first -/
structure Mem where
  sz : Nat
  objs : List MObj
  esc : Nat

def Mem.emp : Mem := ⟨0, [], 0⟩
def Mem.get (M : Mem) (n : Nat) : Option MObj := if n < M.sz then M.objs[M.sz - 1 - n]? else none
def Mem.push (M : Mem) (o : MObj) : Mem := ⟨M.sz + 1, o :: M.objs, M.esc⟩
def Mem.put (M : Mem) (n : Nat) (o : MObj) (e : Nat) : Mem := ⟨M.sz, M.objs.set (M.sz - 1 - n) o, M.esc + e⟩
def Mem.cut (M : Mem) (b : Nat) : Mem := ⟨b, M.objs.drop (M.sz - b), M.esc⟩

inductive Res (α : Type) where
  | ok (a : α) (M : Mem)
  | exc (v : PV) (M : Mem)
  | stuck

@[inline] def Res.bind {α β : Type} (r : Res α) (f : α → Mem → Res β) : Res β :=
  match r with
  | .ok a M => f a M
  | .exc v M => .exc v M
  | .stuck => .stuck

/-- what was made on the way is let go -/
def trimV (M0 : Mem) (v : PV) (M : Mem) : Res PV :=
  if M.sz = M0.sz then .ok v M
  else if M.esc = M0.esc then
    (if v.bnd M0.sz then .ok v (M.cut M0.sz)
    else match v with
      | .ref n => (match M.get n with
        | some (.lst xs) => if xs.all (PV.bnd M0.sz) then .ok (.ref M0.sz) ((M.cut M0.sz).push (.lst xs)) else .ok v M
        | _ => .ok v M)
      | _ => .ok v M)
  else .ok v M
def trim (M0 : Mem) (r : Res PV) : Res PV :=
  match r with
  | .ok v M => trimV M0 v M
  | .exc v M => .exc v M
  | .stuck => .stuck

/-! ### the small syntax -/
inductive BF where
  | len | all | any | int | list | tuple | sum | max1 | min1 | max2 | min2 | str | sorted | listR1 | listR2 | tupR1 | repr | tupRev
  deriving DecidableEq
inductive MF where
  | append | extend | index | pop | reverse | insert | clear | count | join
  deriving DecidableEq
inductive TyK where
  | list | tuple | bool | int | str
  deriving DecidableEq

mutual
inductive MG where
  | name (i : Nat)
  | tup (gs : MGs)
inductive MGs where
  | nil
  | cons (g : MG) (gs : MGs)
end

mutual
inductive ME where
  | var (i : Nat) | int (i : Int) | bl (b : Bool) | non | str (x : Str)
  | tup (es : MEs) | lst (es : MEs)
  | bin (op : Operator) (a b : ME) | neg (a : ME) | not (a : ME)
  | cmp (op : CmpOp) (a b : ME) | chain (op op' : CmpOp) (a b c : ME)
  | and (es : MEs) | or (es : MEs) | ife (c a b : ME)
  | ix (a i : ME) | sl (a : ME) (lo hi : MEo) | stp (a st : ME)
  | call (f : Nat) (args : MEs)
  | bcall (f : BF) (args : MEs)
  | meth (m : MF) (o : ME) (args : MEs)
  | isi (e : ME) (ts : List TyK) (tup : Bool)
  | lc (own : List Nat) (g : MG) (it : MI) (cnd : MEo) (elt : ME)
inductive MEs where
  | nil
  | cons (e : ME) (es : MEs)
inductive MEo where
  | none
  | some (e : ME)
inductive MI where
  | seq (e : ME)
  | range1 (e : ME)
  | range2 (a b : ME)
  | enum (e : ME)
  | zip (a b : ME)
end

mutual
inductive MS where
  | asg (i : Nat) (e : ME)
  | asgT (g : MG) (e : ME)
  | par (i j : Nat) (es : MEs)
  | par3 (i j l : Nat) (es : MEs)
  | setix (o i e : ME)
  | expr (e : ME)
  | ret (e : ME)
  | ife (c : ME) (a b : MSs)
  | for_ (g : MG) (it : MI) (b : MSs)
  | while_ (c : ME) (b : MSs)
  | pass | brk | cont
inductive MSs where
  | nil
  | cons (s : MS) (ss : MSs)
end

abbrev St := List (Option PV)

inductive Flow where
  | next (σ : St) | ret (v : PV) | brk (σ : St) | cont (σ : St)

/-! ### operations on values -/
def LIM : Nat := 16777216

/-- Python's == -/
def PV.eqv : PV → PV → Bool
  | .non, .non => true
  | .bl a, .bl b => a == b
  | .bl a, .int j => (if a then 1 else 0) == j
  | .int i, .bl b => i == (if b then 1 else 0)
  | .int i, .int j => i == j
  | .str x, .str y => x == y
  | .tup xs, .tup ys => eqvs xs ys
  | _, _ => false
where eqvs : List PV → List PV → Bool
  | [], [] => true
  | x :: xs, y :: ys => x.eqv y && eqvs xs ys
  | _, _ => false

/-- as the kit's data -/
def PV.toD : PV → PyData
  | .non => .none
  | .bl b => .bool b
  | .int i => .int i
  | .str x => .str x
  | .tup xs => .tuple (toDs xs)
  | .ref _ => .none
where toDs : List PV → List PyData
  | [] => []
  | x :: xs => x.toD :: toDs xs
/-- can be put in order -/
def PV.alk : PV → PV → Bool
  | .int _, .int _ => true
  | .str _, .str _ => true
  | .tup xs, .tup ys => alks xs ys
  | _, _ => false
where alks : List PV → List PV → Bool
  | [], _ => true
  | x :: xs, ys => (match ys with | y :: ys => x.alk y && alks xs ys | [] => true)
/-- Python's < -/
def PV.lt : PV → PV → Bool
  | .int i, .int j => decide (i < j)
  | .str x, .str y => decide (x.cps.toList < y.cps.toList)
  | .tup xs, .tup ys => lts xs ys
  | _, _ => false
where lts : List PV → List PV → Bool
  | [], ys => !ys.isEmpty
  | x :: xs, ys => (match ys with | y :: ys => if x.eqv y then lts xs ys else x.lt y | [] => false)
/-- plain data, at most so deep -/
def PV.dat : PV → Nat → Bool
  | .tup xs, d => decide (0 < d) && dats xs (d - 1)
  | .ref _, _ => false
  | .str x, _ => x.cps.toList.all fun c => decide (c < 1114112)
  | _, _ => true
where dats : List PV → Nat → Bool
  | [], _ => true
  | x :: xs, d => x.dat d && dats xs d

/-- the items of a list -/
def Mem.lst? (M : Mem) (n : Nat) : Option (List PV) :=
  match M.get n with
  | some (.lst xs) => some xs
  | some (.rol xs) => some xs
  | none => none

def shallow (v : PV) : Bool := v.dat 60

def eqM (v w : PV) (M : Mem) : Option Bool :=
  match v, w with
  | .ref n, .ref m => (match M.lst? n, M.lst? m with
    | some xs, some ys => if xs.all shallow && ys.all shallow then some (PV.eqv.eqvs xs ys) else none
    | _, _ => none)
  | .ref n, w => (match M.lst? n with
    | some xs => if xs.all shallow && shallow w then some false else none
    | none => none)
  | v, .ref m => (match M.lst? m with
    | some ys => if ys.all shallow && shallow v then some false else none
    | none => none)
  | v, w => if shallow v && shallow w then some (v.eqv w) else none

def truth (v : PV) (M : Mem) : Res Bool :=
  match v with
  | .non => .ok false M
  | .bl b => .ok b M
  | .int i => .ok (i != 0) M
  | .str x => if x.length ≤ LIM then .ok ((x.length : Int) != 0) M else .stuck
  | .tup xs => .ok (!xs.isEmpty) M
  | .ref n => (match M.lst? n with
    | some xs => .ok (!xs.isEmpty) M
    | none => .stuck)

/-- places, from the end too -/
def ixOf (n : Nat) (i : Int) : Option Nat :=
  if 0 ≤ i then (if i < n then some i.toNat else none)
  else if 0 ≤ i + n then some (i + n).toNat else none

def isMul (i j : Int) : Bool := (decide (-(2 ^ 64) < i) && decide (i < 2 ^ 64)) || (decide (-(2 ^ 64) < j) && decide (j < 2 ^ 64))

def binM (op : Operator) (v w : PV) (M : Mem) : Res PV :=
  match op, v, w with
  | .Add, .int i, .int j => .ok (.int (i + j)) M
  | .Add, .str x, .str y => if x.length + y.length ≤ LIM then .ok (.str (x ++ y)) M else .stuck
  | .Add, .tup xs, .tup ys => if xs.length + ys.length ≤ LIM then .ok (.tup (xs ++ ys)) M else .stuck
  | .Add, .ref n, .ref m => (match M.get n, M.get m with
    | some (.lst xs), some (.lst ys) => if xs.length + ys.length ≤ LIM then .ok (.ref M.sz) (M.push (.lst (xs ++ ys))) else .stuck
    | _, _ => .stuck)
  | .Sub, .int i, .int j => .ok (.int (i - j)) M
  | .Mult, .int i, .int j => if isMul i j then .ok (.int (i * j)) M else .stuck
  | .FloorDiv, .int i, .int j => if 0 < j ∧ j < 1073741824 then .ok (.int (i / j)) M else .stuck
  | .Mod, .int i, .int j => if 0 < j then .ok (.int (i % j)) M else .stuck
  | .Pow, .int i, .int j => if 0 ≤ j ∧ j ≤ 1000000 ∧ i.natAbs < 2 ^ 64 then .ok (.int (i ^ j.toNat)) M else .stuck
  | .LShift, .int i, .int j => if 0 ≤ j ∧ j ≤ 1000000 ∧ i.natAbs < 2 ^ 64 then .ok (.int (i * 2 ^ j.toNat)) M else .stuck
  | .RShift, .int i, .int j => if 0 ≤ j then .ok (.int (i / 2 ^ j.toNat)) M else .stuck
  | .BitAnd, .int i, .int j => .ok (.int (Builtin.bitAnd i j)) M
  | _, _, _ => .stuck

def inM (v w : PV) (M : Mem) : Option Bool :=
  match w with
  | .tup ys => if shallow v && ys.all shallow then some (ys.any fun y => y.eqv v) else none
  | .ref n => (match M.lst? n with
    | some ys => if shallow v && ys.all shallow then some (ys.any fun y => y.eqv v) else none
    | none => none)
  | _ => none

def ltOk (v w : PV) : Bool := v.alk w && shallow v && shallow w

def isNon : PV → Bool
  | .non => true
  | _ => false

def cmpM (op : CmpOp) (v w : PV) (M : Mem) : Res PV :=
  match op with
  | .Eq => (match eqM v w M with | some b => .ok (.bl b) M | none => .stuck)
  | .NotEq => (match eqM v w M with | some b => .ok (.bl (!b)) M | none => .stuck)
  | .In => (match inM v w M with | some b => .ok (.bl b) M | none => .stuck)
  | .NotIn => (match inM v w M with | some b => .ok (.bl (!b)) M | none => .stuck)
  | .Is => (match w with | .non => .ok (.bl (isNon v)) M | _ => .stuck)
  | .IsNot => (match w with | .non => .ok (.bl (!isNon v)) M | _ => .stuck)
  | .Lt => (match v, w with | .int i, .int j => .ok (.bl (decide (i < j))) M | v, w => if ltOk v w then .ok (.bl (v.lt w)) M else .stuck)
  | .LtE => (match v, w with | .int i, .int j => .ok (.bl (decide (i ≤ j))) M | v, w => if ltOk v w then .ok (.bl (!w.lt v)) M else .stuck)
  | .Gt => (match v, w with | .int i, .int j => .ok (.bl (decide (j < i))) M | v, w => if ltOk v w then .ok (.bl (w.lt v)) M else .stuck)
  | .GtE => (match v, w with | .int i, .int j => .ok (.bl (decide (j ≤ i))) M | v, w => if ltOk v w then .ok (.bl (!v.lt w)) M else .stuck)

def ixM (v i : PV) (M : Mem) : Res PV :=
  match v, i with
  | .tup xs, .int i => (match (ixOf xs.length i).bind (fun j => xs[j]?) with | some x => .ok x M | none => .stuck)
  | .ref n, .int i => (match M.lst? n with
    | some xs => (match (ixOf xs.length i).bind (fun j => xs[j]?) with | some x => .ok x M | none => .stuck)
    | none => .stuck)
  | _, _ => .stuck

/-- a slice's end -/
def sIx (n d : Nat) (i : Option Int) : Nat :=
  match i with
  | none => d
  | some i => if 0 ≤ i then Nat.min i.toNat n else (i + n).toNat

def cut (xs : List PV) (lo hi : Option Int) : List PV :=
  (xs.drop (sIx xs.length 0 lo)).take (sIx xs.length xs.length hi - sIx xs.length 0 lo)

def slM (v : PV) (lo hi : Option Int) (M : Mem) : Res PV :=
  match v with
  | .tup xs => .ok (.tup (cut xs lo hi)) M
  | .ref n => (match M.lst? n with
    | some xs => .ok (.ref M.sz) (M.push (.lst (cut xs lo hi)))
    | none => .stuck)
  | _ => .stuck

/-- t[::1], t[::-1] -/
def stpM (v w : PV) (M : Mem) : Res PV :=
  match v, w with
  | .tup xs, .int i => if i = 1 then .ok (.tup xs) M else if i = -1 then .ok (.tup xs.reverse) M else .stuck
  | _, _ => .stuck

def ints? : List PV → Option (List Int)
  | [] => some []
  | .int i :: xs => (ints? xs).map (i :: ·)
  | _ => none
def bls? : List PV → Option (List Bool)
  | [] => some []
  | .bl i :: xs => (bls? xs).map (i :: ·)
  | _ => none

def rangeL (lo hi : Int) : List PV := (List.range (hi - lo).toNat).map fun k => .int (lo + (k : Nat))

/-- the items of a tuple or a list -/
def seq? (v : PV) (M : Mem) : Option (List PV) :=
  match v with
  | .tup xs => some xs
  | .ref n => M.lst? n
  | _ => none

def inRange (i : Int) : Bool := decide (-(2 ^ 62) ≤ i) && decide (i < 2 ^ 62)

/-- sorted -/
def insI (i : Int) : List Int → List Int
  | [] => [i]
  | j :: js => if i ≤ j then i :: j :: js else j :: insI i js
def isort : List Int → List Int
  | [] => []
  | i :: is => insI i (isort is)
def maxL (i : Int) : List Int → Int
  | [] => i
  | j :: js => maxL (if j > i then j else i) js
def minL (i : Int) : List Int → Int
  | [] => i
  | j :: js => minL (if j < i then j else i) js

/-- tuples that can be sorted -/
def isTup1 : PV → Bool
  | .tup (_ :: _) => true
  | _ => false
def srtOk (xs : List PV) : Bool := xs.all isTup1 && xs.all shallow && xs.all (fun x => xs.all fun y => x.alk y) && decide (xs.length ≤ LIM)
def repOk (d : PyData) : Bool := d.showable && decide (d.shown.length ≤ LIM)

def bcallM (f : BF) (vs : List PV) (M : Mem) : Res PV :=
  match f, vs with
  | .len, [v] => (match v with
    | .str x => if x.length ≤ LIM then .ok (.int x.length) M else .stuck
    | _ => (match seq? v M with | some xs => .ok (.int xs.length) M | none => .stuck))
  | .all, [.ref n] => (match (M.lst? n).bind bls? with | some bs => .ok (.bl (bs.all id)) M | none => .stuck)
  | .any, [.ref n] => (match (M.lst? n).bind bls? with | some bs => .ok (.bl (bs.any id)) M | none => .stuck)
  | .sum, [.ref n] => (match (M.lst? n).bind ints? with | some ns => .ok (.int ns.sum) M | none => .stuck)
  | .int, [.int i] => .ok (.int i) M
  | .int, [.bl b] => .ok (.int (if b then 1 else 0)) M
  | .list, [v] => (match seq? v M with | some xs => .ok (.ref M.sz) (M.push (.lst xs)) | none => .stuck)
  | .tuple, [v] => (match seq? v M with | some xs => .ok (.tup xs) M | none => .stuck)
  | .max2, [.int i, .int j] => .ok (.int (if j > i then j else i)) M
  | .min2, [.int i, .int j] => .ok (.int (if j < i then j else i)) M
  | .max1, [.ref n] => (match (M.lst? n).bind ints? with | some (i :: is) => .ok (.int (maxL i is)) M | _ => .stuck)
  | .min1, [.ref n] => (match (M.lst? n).bind ints? with | some (i :: is) => .ok (.int (minL i is)) M | _ => .stuck)
  | .sorted, [.ref n] => (match (M.lst? n).bind ints? with
    | some is => .ok (.ref M.sz) (M.push (.lst ((isort is).map PV.int)))
    | none => (match M.lst? n with | some xs => if srtOk xs then .ok (.ref M.sz) (M.push (.lst (xs.mergeSort fun a b => !b.lt a))) else .stuck | none => .stuck))
  | .repr, [v] => (match v with
    | .ref n => (match M.lst? n with | some xs => if xs.all shallow && repOk (.list (PV.toD.toDs xs)) then .ok (.str (PyData.list (PV.toD.toDs xs)).shown) M else .stuck | none => .stuck)
    | v => if shallow v && repOk v.toD then .ok (.str v.toD.shown) M else .stuck)
  | .tupRev, [v] => (match v with
    | .ref n => (match M.lst? n with | some xs => .ok (.tup xs.reverse) M | none => .stuck)
    | _ => .stuck)
  | .listR1, [.int j] => if inRange j && decide (j ≤ 100000) then .ok (.ref M.sz) (M.push (.lst (rangeL 0 j))) else .stuck
  | .listR2, [.int i, .int j] => if inRange i && inRange j && decide (j - i ≤ 100000) then .ok (.ref M.sz) (M.push (.lst (rangeL i j))) else .stuck
  | .tupR1, [.int j] => if inRange j && decide (j ≤ 100000) then .ok (.tup (rangeL 0 j)) M else .stuck
  | _, _ => .stuck

/-- what the method is asked of -/
def recvOk (m : MF) (o : PV) (M : Mem) : Bool :=
  match m, o with
  | .index, .tup _ => true
  | .join, .str _ => true
  | .join, _ => false
  | _, .ref n => (M.get n).isSome
  | _, _ => false

def methM (m : MF) (o : PV) (vs : List PV) (M : Mem) : Res PV :=
  match m, o, vs with
  | .append, .ref n, [v] => (match M.get n with
    | some (.lst xs) => if xs.length < LIM then .ok .non (M.put n (.lst (xs ++ [v])) (if v.pure then 0 else 1)) else .stuck
    | _ => .stuck)
  | .extend, .ref n, [.ref m] => (match M.get n, M.get m with
    | some (.lst xs), some (.lst ys) => if xs.length + ys.length ≤ LIM then .ok .non (M.put n (.lst (xs ++ ys)) (if ys.all PV.pure then 0 else 1)) else .stuck
    | _, _ => .stuck)
  | .index, v, [w] => (match seq? v M with
    | some xs => if xs.all shallow && shallow w then (match xs.findIdx? (fun x => x.eqv w) with | some j => .ok (.int j) M | none => .stuck) else .stuck
    | none => .stuck)
  | .pop, .ref n, [.int i] => (match M.get n with
    | some (.lst xs) => (match ixOf xs.length i with
      | some j => (match xs[j]? with | some x => .ok x (M.put n (.lst (xs.eraseIdx j)) 0) | none => .stuck)
      | none => .stuck)
    | _ => .stuck)
  | .reverse, .ref n, [] => (match M.get n with
    | some (.lst xs) => .ok .non (M.put n (.lst xs.reverse) 0)
    | _ => .stuck)
  | .clear, .ref n, [] => (match M.get n with
    | some (.lst xs) => .ok .non (M.put n (.lst []) 0)
    | _ => .stuck)
  | _, _, _ => .stuck

def setM (o i v : PV) (M : Mem) : Res Unit :=
  match o, i with
  | .ref n, .int i => (match M.get n with
    | some (.lst xs) => (match ixOf xs.length i with
      | some j => .ok () (M.put n (.lst (xs.set j v)) (if v.pure then 0 else 1))
      | none => .stuck)
    | _ => .stuck)
  | _, _ => .stuck

def tyOf (v : PV) (M : Mem) : Option (List TyK) :=
  match v with
  | .non => some []
  | .bl _ => some [.bool, .int]
  | .int _ => some [.int]
  | .str _ => some [.str]
  | .tup _ => some [.tuple]
  | .ref n => (match M.get n with
    | some _ => some [.list]
    | none => none)

def isiM (v : PV) (ts : List TyK) (M : Mem) : Res PV :=
  match tyOf v M with
  | some ks => .ok (.bl (ks.any fun k => ts.contains k)) M
  | none => .stuck

/-! ### the evaluator: syntax to functions -/
abbrev CF := Nat → List PV → Mem → Res PV
abbrev Ev := St → Mem → Res PV

mutual
def assignG : MG → PV → St → Option St
  | .name i, v, σ => some (σ.set i (some v))
  | .tup gs, v, σ => (match v with | .tup vs => assignGs gs vs σ | _ => none)
def assignGs : MGs → List PV → St → Option St
  | .nil, vs, σ => if vs.isEmpty then some σ else none
  | .cons g gs, vs, σ => (match vs with | v :: vs => (assignG g v σ).bind (assignGs gs vs) | [] => none)
end

def wipe (σ : St) : List Nat → St
  | [] => σ
  | v :: vs => (wipe σ vs).set v none

/-- what a walk gives: items that are there, or those of a list as it is at each turn -/
inductive Src where
  | items (xs : List PV)
  | at1 (n : Nat) (enum : Bool)
  | at2 (n m : Nat)

/-- one turn of a comprehension -/
def lcTurn (own : List Nat) (g : MG) (cnd : Option Ev) (elt : Ev) (σ : St) (x : PV) (acc : List PV) (M : Mem) : Res (List PV) :=
  match assignG g x (wipe σ own) with
  | none => .stuck
  | some σ' =>
    (match cnd with
      | none => Res.ok true M
      | some c => (c σ' M).bind truth).bind fun b M1 =>
    if b then (trim M1 (elt σ' M1)).bind fun v M2 => if acc.length < LIM then .ok (acc ++ [v]) M2 else .stuck
    else .ok acc M1

def lcItems (own : List Nat) (g : MG) (cnd : Option Ev) (elt : Ev) (σ : St) : List PV → List PV → Mem → Res (List PV)
  | [], acc, M => .ok acc M
  | x :: xs, acc, M => (lcTurn own g cnd elt σ x acc M).bind fun acc' M' => lcItems own g cnd elt σ xs acc' M'

/-- the item at a turn; none: it ends -/
def srcAt (s : Src) (i : Nat) (M : Mem) : Option (Option PV) :=
  match s with
  | .items xs => some xs[i]?
  | .at1 n e => (M.lst? n).map fun xs => xs[i]?.map fun x => if e then .tup [.int i, x] else x
  | .at2 n m => (M.lst? n).bind fun xs => (M.lst? m).map fun ys => xs[i]?.bind fun x => ys[i]?.map fun y => .tup [x, y]

def srcLen (s : Src) (M : Mem) : Nat :=
  match s with
  | .items xs => xs.length
  | .at1 n _ => ((M.lst? n).getD []).length
  | .at2 n _ => ((M.lst? n).getD []).length

def lcSrc (own : List Nat) (g : MG) (cnd : Option Ev) (elt : Ev) (σ : St) (s : Src) : Nat → Nat → List PV → Mem → Res (List PV)
  | 0, _, _, _ => .stuck
  | f + 1, i, acc, M => match srcAt s i M with
    | none => .stuck
    | some none => .ok acc M
    | some (some x) => (lcTurn own g cnd elt σ x acc M).bind fun acc' M' => lcSrc own g cnd elt σ s f (i + 1) acc' M'

def lcRun (own : List Nat) (g : MG) (cnd : Option Ev) (elt : Ev) (σ : St) (s : Src) (M : Mem) : Res PV :=
  (match s with
    | .items xs => lcItems own g cnd elt σ xs [] M
    | s => lcSrc own g cnd elt σ s (srcLen s M + 1) 0 [] M).bind fun acc M' => .ok (.ref M'.sz) (M'.push (.lst acc))

def zipL : List PV → List PV → List PV
  | x :: xs, y :: ys => .tup [x, y] :: zipL xs ys
  | _, _ => []
def enumL : Nat → List PV → List PV
  | _, [] => []
  | i, x :: xs => .tup [.int i, x] :: enumL (i + 1) xs

def srcSeq (v : PV) (M : Mem) : Option Src :=
  match v with
  | .tup xs => some (.items xs)
  | .ref n => (M.lst? n).map fun _ => .at1 n false
  | .str x => if x.length ≤ LIM then some (.items (x.cps.toList.map fun c => .str ⟨#[c]⟩)) else none
  | _ => none
def srcEnum (v : PV) (M : Mem) : Option Src :=
  match v with
  | .tup xs => some (.items (enumL 0 xs))
  | .ref n => (M.lst? n).map fun _ => .at1 n true
  | _ => none
def srcZip (v w : PV) (M : Mem) : Option Src :=
  match v, w with
  | .tup xs, .tup ys => some (.items (zipL xs ys))
  | .ref n, .ref m => (M.lst? n).bind fun _ => (M.lst? m).map fun _ => .at2 n m
  | _, _ => none

def optR {α : Type} (o : Option α) (M : Mem) : Res α :=
  match o with
  | some a => .ok a M
  | none => .stuck

def intR (v : PV) (M : Mem) : Res Int :=
  match v with
  | .int i => .ok i M
  | _ => .stuck

/-- places moved up -/
def PV.sh (d : Nat) : PV → PV
  | .tup xs => .tup (shs xs)
  | .ref n => .ref (n + d)
  | v => v
where shs : List PV → List PV
  | [] => []
  | x :: xs => x.sh d :: shs xs
def MObj.sh (d : Nat) : MObj → MObj
  | .lst xs => .lst (xs.map (PV.sh d))
  | .rol xs => .rol (xs.map (PV.sh d))
/-- a memory upon another -/
def Mem.join (M M' : Mem) : Mem := ⟨M.sz + M'.sz, M'.objs.map (MObj.sh M.sz) ++ M.objs, M.esc⟩
/-- the one list that is handed on -/
def oneRef : List PV → Option Nat
  | [] => none
  | v :: vs => (match v with | .ref n => some n | _ => oneRef vs)
def isRef (n : Nat) : PV → Bool
  | .ref m => m == n
  | _ => false
def to0 : PV → PV
  | .ref _ => .ref 0
  | v => v
def putO (M : Mem) (n : Nat) (o : MObj) : Mem :=
  match o with
  | .lst _ => M.put n o 0
  | .rol _ => M
/-- a call that knows of one list alone -/
def callBox (cf : CF) (f n : Nat) (vs : List PV) (o : MObj) (M : Mem) : Res PV :=
  match cf f vs ⟨1, [o], 0⟩ with
  | .ok v M' =>
    (match M' with
    | ⟨1, [o'], 0⟩ => if o'.bnd 0 then (if v.pure then .ok v (putO M n o') else if isRef 0 v then .ok (.ref n) (putO M n o') else .stuck) else .stuck
    | ⟨2, [.lst ys, o'], 0⟩ => if isRef 1 v && ys.all PV.pure && o'.bnd 0 then .ok (.ref M.sz) ((putO M n o').push (.lst ys)) else .stuck
    | _ => .stuck)
  | .exc _ _ => .stuck
  | .stuck => .stuck
/-- a call of an own def: what needs nothing of the memory is called without it; what needs one list of plain things, with it alone -/
def callM (cf : CF) (f : Nat) (vs : List PV) (M : Mem) : Res PV :=
  if vs.all PV.pure then
    (match cf f vs Mem.emp with
    | .ok v M' =>
      if v.pure then .ok v M
      else (match v, M' with
        | .ref 0, ⟨1, [.lst xs], 0⟩ => if xs.all PV.pure then .ok (.ref M.sz) (M.push (.lst xs)) else .ok (v.sh M.sz) (M.join M')
        | _, _ => .ok (v.sh M.sz) (M.join M'))
    | .exc v _ => if v.pure then .exc v M else .stuck
    | .stuck => .stuck)
  else match oneRef vs with
    | some n => (match M.get n with
      | some o => if (vs.all fun v => v.pure || isRef n v) && o.bnd 0 then callBox cf f n (vs.map to0) o M else trim M (cf f vs M)
      | none => trim M (cf f vs M))
    | none => trim M (cf f vs M)

/-! ### the forms, as functions of their parts -/
def eVar (i : Nat) : Ev := fun σ M => (match σ[i]? with | some (some v) => .ok v M | _ => .stuck)
def eC (v : PV) : Ev := fun _ M => .ok v M
abbrev EvL := St → Mem → Res (List PV)
def eNil : EvL := fun _ M => .ok [] M
def eCons (a : Ev) (r : EvL) : EvL := fun σ M => (a σ M).bind fun v M1 => (r σ M1).bind fun vs M2 => .ok (v :: vs) M2
def eTup (r : EvL) : Ev := fun σ M => (r σ M).bind fun vs M1 => if vs.length ≤ LIM then .ok (.tup vs) M1 else .stuck
def eLst (r : EvL) : Ev := fun σ M => (r σ M).bind fun vs M1 => if vs.length ≤ LIM then .ok (.ref M1.sz) (M1.push (.lst vs)) else .stuck
def eBin (op : Operator) (a b : Ev) : Ev := fun σ M => trim M ((a σ M).bind fun v M1 => (b σ M1).bind fun w M2 => binM op v w M2)
def eNeg (a : Ev) : Ev := fun σ M => (a σ M).bind fun v M1 => (intR v M1).bind fun i M2 => .ok (.int (-i)) M2
def eNot (a : Ev) : Ev := fun σ M => trim M ((a σ M).bind fun v M1 => (truth v M1).bind fun b M2 => .ok (.bl (!b)) M2)
def eCmp (op : CmpOp) (a b : Ev) : Ev := fun σ M => trim M ((a σ M).bind fun v M1 => (b σ M1).bind fun w M2 => cmpM op v w M2)
def eChain (op op' : CmpOp) (a b c : Ev) : Ev := fun σ M => trim M ((a σ M).bind fun v M1 => (b σ M1).bind fun w M2 => (cmpM op v w M2).bind fun r M3 =>
      match r with
      | .bl true => (c σ M3).bind fun u M4 => cmpM op' w u M4
      | .bl false => .ok (.bl false) M3
      | _ => .stuck)
def eAnd (a b : Ev) : Ev := fun σ M => (a σ M).bind fun v M1 => (truth v M1).bind fun t M2 => if t then b σ M2 else .ok v M2
def eOr (a b : Ev) : Ev := fun σ M => (a σ M).bind fun v M1 => (truth v M1).bind fun t M2 => if t then .ok v M2 else b σ M2
def eIfe (c a b : Ev) : Ev := fun σ M => ((c σ M).bind truth).bind fun t M2 => if t then a σ M2 else b σ M2
def eIx (a i : Ev) : Ev := fun σ M => trim M ((a σ M).bind fun v M1 => (i σ M1).bind fun w M2 => ixM v w M2)
abbrev EvO := St → Mem → Res (Option Int)
def oNone : EvO := fun _ M => .ok none M
def oSome (e : Ev) : EvO := fun σ M => (e σ M).bind fun v M1 => (intR v M1).bind fun i M2 => .ok (some i) M2
def eSl (a : Ev) (lo hi : EvO) : Ev := fun σ M => trim M ((a σ M).bind fun v M1 => (lo σ M1).bind fun l M2 => (hi σ M2).bind fun h M3 => slM v l h M3)
def eStp (a st : Ev) : Ev := fun σ M => trim M ((a σ M).bind fun v M1 => (st σ M1).bind fun w M2 => stpM v w M2)
def eCall (cf : CF) (f : Nat) (r : EvL) : Ev := fun σ M => trim M ((r σ M).bind fun vs M1 => callM cf f vs M1)
def eB (f : BF) (r : EvL) : Ev := fun σ M => trim M ((r σ M).bind fun vs M1 => bcallM f vs M1)
def eM (m : MF) (o : Ev) (r : EvL) : Ev := fun σ M => trim M ((o σ M).bind fun v M1 => if recvOk m v M1 then (r σ M1).bind fun vs M2 => methM m v vs M2 else .stuck)
def eIsiT (e : Ev) (ts : List TyK) : Ev := fun σ M => trim M ((e σ M).bind fun v M1 => if ts.length ≤ LIM then isiM v ts M1 else .stuck)
def eIsi (e : Ev) (ts : List TyK) : Ev := fun σ M => trim M ((e σ M).bind fun v M1 => isiM v ts M1)
abbrev EvI := St → Mem → Res Src
def eLc (own : List Nat) (g : MG) (it : EvI) (cnd : Option Ev) (elt : Ev) : Ev := fun σ M => (it σ M).bind fun s M1 => lcRun own g cnd elt σ s M1
def iSeq (e : Ev) : EvI := fun σ M => (e σ M).bind fun v M1 => optR (srcSeq v M1) M1
def iRange1 (e : Ev) : EvI := fun σ M => (e σ M).bind fun v M1 => (intR v M1).bind fun j M2 => if inRange j then .ok (.items (rangeL 0 j)) M2 else .stuck
def iRange2 (a b : Ev) : EvI := fun σ M => (a σ M).bind fun v M1 => (b σ M1).bind fun w M2 => (intR v M2).bind fun i M3 => (intR w M3).bind fun j M4 =>
      if inRange i && inRange j then .ok (.items (rangeL i j)) M4 else .stuck
def iEnum (e : Ev) : EvI := fun σ M => (e σ M).bind fun v M1 => optR (srcEnum v M1) M1
def iZip (a b : Ev) : EvI := fun σ M => (a σ M).bind fun v M1 => (b σ M1).bind fun w M2 => optR (srcZip v w M2) M2

mutual
def evE (cf : CF) : ME → Ev
  | .var i => eVar i
  | .int i => eC (.int i)
  | .bl b => eC (.bl b)
  | .non => eC .non
  | .str x => eC (.str x)
  | .tup es => eTup (evEs cf es)
  | .lst es => eLst (evEs cf es)
  | .bin op a b => eBin op (evE cf a) (evE cf b)
  | .neg a => eNeg (evE cf a)
  | .not a => eNot (evE cf a)
  | .cmp op a b => eCmp op (evE cf a) (evE cf b)
  | .chain op op' a b c => eChain op op' (evE cf a) (evE cf b) (evE cf c)
  | .and es => evAnd cf es
  | .or es => evOr cf es
  | .ife c a b => eIfe (evE cf c) (evE cf a) (evE cf b)
  | .ix a i => eIx (evE cf a) (evE cf i)
  | .sl a lo hi => eSl (evE cf a) (evO cf lo) (evO cf hi)
  | .stp a st => eStp (evE cf a) (evE cf st)
  | .call f args => eCall cf f (evEs cf args)
  | .bcall f args => eB f (evEs cf args)
  | .meth m o args => eM m (evE cf o) (evEs cf args)
  | .isi e ts tup => match tup with
    | true => eIsiT (evE cf e) ts
    | false => eIsi (evE cf e) ts
  | .lc own g it cnd elt => eLc own g (evI cf it) (evC cf cnd) (evE cf elt)
def evEs (cf : CF) : MEs → EvL
  | .nil => eNil
  | .cons e es => eCons (evE cf e) (evEs cf es)
def evAnd (cf : CF) : MEs → Ev
  | .nil => fun _ _ => .stuck
  | .cons e es => match es with
    | .nil => evE cf e
    | .cons e' es' => eAnd (evE cf e) (evAnd cf (.cons e' es'))
def evOr (cf : CF) : MEs → Ev
  | .nil => fun _ _ => .stuck
  | .cons e es => match es with
    | .nil => evE cf e
    | .cons e' es' => eOr (evE cf e) (evOr cf (.cons e' es'))
/-- a slice's end -/
def evO (cf : CF) : MEo → EvO
  | .none => oNone
  | .some e => oSome (evE cf e)
/-- a comprehension's test -/
def evC (cf : CF) : MEo → Option Ev
  | .none => none
  | .some e => some (evE cf e)
def evI (cf : CF) : MI → EvI
  | .seq e => iSeq (evE cf e)
  | .range1 e => iRange1 (evE cf e)
  | .range2 a b => iRange2 (evE cf a) (evE cf b)
  | .enum e => iEnum (evE cf e)
  | .zip a b => iZip (evE cf a) (evE cf b)
end

abbrev Sv := St → Mem → Res Flow

/-- behind a turn of a loop: on, or out -/
def afterTurn (f : Flow) (M : Mem) (go : St → Mem → Res Flow) : Res Flow :=
  match f with
  | .next σ => go σ M
  | .cont σ => go σ M
  | .brk σ => .ok (.next σ) M
  | .ret v => .ok (.ret v) M

def forItems (g : MG) (body : Sv) : List PV → St → Mem → Res Flow
  | [], σ, M => .ok (.next σ) M
  | x :: xs, σ, M => match assignG g x σ with
    | none => .stuck
    | some σ' => (body σ' M).bind fun f M' => afterTurn f M' (forItems g body xs)

def forSrc (g : MG) (body : Sv) (s : Src) : Nat → Nat → St → Mem → Res Flow
  | 0, _, _, _ => .stuck
  | f + 1, i, σ, M => match srcAt s i M with
    | none => .stuck
    | some none => .ok (.next σ) M
    | some (some x) => (match assignG g x σ with
      | none => .stuck
      | some σ' => (body σ' M).bind fun fl M' => afterTurn fl M' (forSrc g body s f (i + 1)))

def forRun (g : MG) (body : Sv) (s : Src) (σ : St) (M : Mem) : Res Flow :=
  match s with
  | .items xs => forItems g body xs σ M
  | s => forSrc g body s (srcLen s M + 1) 0 σ M

def whileRun (c : Ev) (body : Sv) : Nat → St → Mem → Res Flow
  | 0, _, _ => .stuck
  | f + 1, σ, M => ((c σ M).bind truth).bind fun t M2 =>
    if t then (body σ M2).bind fun fl M' => afterTurn fl M' (whileRun c body f)
    else .ok (.next σ) M2

/-- how often a while may turn -/
def WF : Nat := 100000

def sAsg (i : Nat) (e : Ev) : Sv := fun σ M => (trim M (e σ M)).bind fun v M1 => .ok (.next (σ.set i (some v))) M1
def sAsgT (g : MG) (e : Ev) : Sv := fun σ M => (trim M (e σ M)).bind fun v M1 => (optR (assignG g v σ) M1).bind fun σ' M2 => .ok (.next σ') M2
def sPar (i j : Nat) (r : EvL) : Sv := fun σ M => (r σ M).bind fun vs M1 => match vs with
  | [v, w] => .ok (.next ((σ.set i (some v)).set j (some w))) M1
  | _ => .stuck
def sPar3 (i j l : Nat) (r : EvL) : Sv := fun σ M => (r σ M).bind fun vs M1 => match vs with
  | [v, w, u] => .ok (.next (((σ.set i (some v)).set j (some w)).set l (some u))) M1
  | _ => .stuck
def sSetix (o i e : Ev) : Sv := fun σ M => (trim M (e σ M)).bind fun v M1 => (o σ M1).bind fun ov M2 => (i σ M2).bind fun iv M3 => (setM ov iv v M3).bind fun _ M4 => .ok (.next σ) M4
def sExpr (e : Ev) : Sv := fun σ M => (trim M (e σ M)).bind fun _ M1 => .ok (.next σ) M1
def sRet (e : Ev) : Sv := fun σ M => (trim M (e σ M)).bind fun v M1 => .ok (.ret v) M1
def sIf (c : Ev) (a b : Sv) : Sv := fun σ M => ((c σ M).bind truth).bind fun t M2 => if t then a σ M2 else b σ M2
def sFor (g : MG) (it : EvI) (b : Sv) : Sv := fun σ M => (it σ M).bind fun s M1 => forRun g b s σ M1
def sWhile (c : Ev) (b : Sv) : Sv := fun σ M => whileRun c b WF σ M
def sPass : Sv := fun σ M => .ok (.next σ) M
def sBrk : Sv := fun σ M => .ok (.brk σ) M
def sCont : Sv := fun σ M => .ok (.cont σ) M
def sSeq (a b : Sv) : Sv := fun σ M => (a σ M).bind fun f M1 =>
    match f with
    | .next σ' => b σ' M1
    | f => .ok f M1
mutual
def evS (cf : CF) : MS → Sv
  | .asg i e => sAsg i (evE cf e)
  | .asgT g e => sAsgT g (evE cf e)
  | .par i j es => sPar i j (evEs cf es)
  | .par3 i j l es => sPar3 i j l (evEs cf es)
  | .setix o i e => sSetix (evE cf o) (evE cf i) (evE cf e)
  | .expr e => sExpr (evE cf e)
  | .ret e => sRet (evE cf e)
  | .ife c a b => sIf (evE cf c) (evSs cf a) (evSs cf b)
  | .for_ g it b => sFor g (evI cf it) (evSs cf b)
  | .while_ c b => sWhile (evE cf c) (evSs cf b)
  | .pass => sPass
  | .brk => sBrk
  | .cont => sCont
def evSs (cf : CF) : MSs → Sv
  | .nil => sPass
  | .cons s ss => sSeq (evS cf s) (evSs cf ss)
end

structure Fn where
  /-- how many parameters, how many names -/
  np : Nat
  nn : Nat
  body : MSs

def startσ (nn : Nat) (vs : List PV) : St := vs.map some ++ List.replicate (nn - vs.length) none

/-- what is handed back at the end of a def: only what the caller can reach stays -/
def endOf (M0 : Mem) (r : Res Flow) : Res PV :=
  match r with
  | .ok (.ret v) M => trimV M0 v M
  | .ok (.next _) M => trimV M0 .non M
  | .ok _ _ => .stuck
  | .exc v M => .exc v M
  | .stuck => .stuck

def run (fs : List (Nat × Fn)) : Nat → CF
  | 0 => fun _ _ _ => .stuck
  | k + 1 => fun f vs M => match fs.lookup f with
    | none => .stuck
    | some F => if vs.length = F.np then endOf M (evSs (run fs k) F.body (startσ F.nn vs) M) else .stuck

end Mn
end
section
set_option Elab.async false
set_option linter.all false
set_option maxRecDepth 100000
set_option maxHeartbeats 4000000
namespace Mn
open PySem PySem.Spec PyProof.Rows L2

/-- a tuple that is known to have no dict of its own -/
def Tup (K : PySem.W.Frag) (H : Hp) (a : Addr) (xs : List V) : Prop :=
  (∃ o, H a = some (.frz o (.tup xs)) ∧ o.dict = none) ∨
    ∃ (o : Obj) (its : Array Value) (n : Nat), K.lookup a = some o ∧ o.cls = .type "tuple" ∧ o.dict = none ∧ o.data = .seq its n ∧ its.size ≤ sizeLine ∧ Vals xs its.toList
theorem Tup.sq {K : PySem.W.Frag} {H : Hp} {a : Addr} {xs : List V} (h : Tup K H a xs) : SqT K H a xs := by
  rcases h with ⟨o, h, _⟩ | ⟨o, its, n, h1, h2, _, h3, h4, h5⟩
  · exact .inl (.inr ⟨o, h⟩)
  · exact .inr ⟨o, its, n, h1, h2, h3, h4, h5⟩
/-- a list that is never written -/
def Rol (K : PySem.W.Frag) (H : Hp) (a : Addr) (xs : List V) : Prop :=
  (∃ o, H a = some (.frz o (.lst xs))) ∨
    ∃ (o : Obj) (its : Array Value) (n : Nat), K.lookup a = some o ∧ o.cls = .type "list" ∧ o.dict = none ∧ o.data = .seq its n ∧ its.size ≤ sizeLine ∧ Vals xs its.toList
theorem Rol.sq {K : PySem.W.Frag} {H : Hp} {a : Addr} {xs : List V} (h : Rol K H a xs) : SqL K H a xs := by
  rcases h with ⟨o, h⟩ | h
  · exact .inl (.inr ⟨o, h⟩)
  · exact .inr h

/-- a mini value and a value of the layer -/
def Rep (K : PySem.W.Frag) (H : Hp) (β : List Addr) : PV → V → Prop
  | .non, x => x = .non
  | .bl b, x => x = .bl b
  | .int i, x => x = .int i
  | .str s, x => x = .str s
  | .tup ps, x => ∃ a xs, x = .ref a ∧ Tup K H a xs ∧ Reps ps xs
  | .ref n, x => ∃ a, x = .ref a ∧ β[n]? = some a
where Reps : List PV → List V → Prop
  | [], xs => xs = []
  | p :: ps, xs => ∃ x r, xs = x :: r ∧ Rep K H β p x ∧ Reps ps r
abbrev Reps (K : PySem.W.Frag) (H : Hp) (β : List Addr) : List PV → List V → Prop := Rep.Reps K H β

section
variable {K : PySem.W.Frag} {H H' : Hp} {β β' : List Addr}
theorem rep_non {x : V} : Rep K H β .non x ↔ x = .non := by rw [Rep]
theorem rep_bl {b : Bool} {x : V} : Rep K H β (.bl b) x ↔ x = .bl b := by rw [Rep]
theorem rep_int {i : Int} {x : V} : Rep K H β (.int i) x ↔ x = .int i := by rw [Rep]
theorem rep_str {s : Str} {x : V} : Rep K H β (.str s) x ↔ x = .str s := by rw [Rep]
theorem rep_tup {ps : List PV} {x : V} : Rep K H β (.tup ps) x ↔ ∃ a xs, x = .ref a ∧ Tup K H a xs ∧ Reps K H β ps xs := by rw [Rep]
theorem rep_ref {n : Nat} {x : V} : Rep K H β (.ref n) x ↔ ∃ a, x = .ref a ∧ β[n]? = some a := by rw [Rep]
theorem reps_nil {xs : List V} : Reps K H β [] xs ↔ xs = [] := by unfold Reps; rw [Rep.Reps]
theorem reps_cons {p : PV} {ps : List PV} {xs : List V} : Reps K H β (p :: ps) xs ↔ ∃ x r, xs = x :: r ∧ Rep K H β p x ∧ Reps K H β ps r := by unfold Reps; rw [Rep.Reps]

mutual
theorem Rep.mono (ht : ∀ a xs, Tup K H a xs → Tup K H' a xs) (hb : ∀ n a : Nat, β[n]? = some a → β'[n]? = some a) : ∀ {v : PV} {x : V}, Rep K H β v x → Rep K H' β' v x
  | .non, x, h => rep_non.mpr (rep_non.mp h)
  | .bl b, x, h => rep_bl.mpr (rep_bl.mp h)
  | .int b, x, h => rep_int.mpr (rep_int.mp h)
  | .str b, x, h => rep_str.mpr (rep_str.mp h)
  | .tup ps, x, h => by
    obtain ⟨a, xs, e, t, r⟩ := rep_tup.mp h
    exact rep_tup.mpr ⟨a, xs, e, ht _ _ t, Reps.mono ht hb r⟩
  | .ref n, x, h => by
    obtain ⟨a, e, t⟩ := rep_ref.mp h
    exact rep_ref.mpr ⟨a, e, hb _ _ t⟩
theorem Reps.mono (ht : ∀ a xs, Tup K H a xs → Tup K H' a xs) (hb : ∀ n a : Nat, β[n]? = some a → β'[n]? = some a) : ∀ {ps : List PV} {xs : List V}, Reps K H β ps xs → Reps K H' β' ps xs
  | [], xs, h => reps_nil.mpr (reps_nil.mp h)
  | p :: ps, xs, h => by
    obtain ⟨x, r, e, h1, h2⟩ := reps_cons.mp h
    exact reps_cons.mpr ⟨x, r, e, Rep.mono ht hb h1, Reps.mono ht hb h2⟩
end
mutual
/-- only places below b are asked -/
theorem Rep.low {b : Nat} (hb : ∀ n a : Nat, n < b → β[n]? = some a → β'[n]? = some a) : ∀ {v : PV} {x : V}, v.bnd b = true → Rep K H β v x → Rep K H β' v x
  | .non, x, _, h => rep_non.mpr (rep_non.mp h)
  | .bl b, x, _, h => rep_bl.mpr (rep_bl.mp h)
  | .int b, x, _, h => rep_int.mpr (rep_int.mp h)
  | .str b, x, _, h => rep_str.mpr (rep_str.mp h)
  | .tup ps, x, q, h => by
    obtain ⟨a, xs, e, t, r⟩ := rep_tup.mp h
    rw [bnd_tup] at q
    exact rep_tup.mpr ⟨a, xs, e, t, Reps.low hb q r⟩
  | .ref n, x, q, h => by
    obtain ⟨a, e, t⟩ := rep_ref.mp h
    exact rep_ref.mpr ⟨a, e, hb _ _ (by simpa [PV.bnd] using q) t⟩
theorem Reps.low {b : Nat} (hb : ∀ n a : Nat, n < b → β[n]? = some a → β'[n]? = some a) : ∀ {ps : List PV} {xs : List V}, ps.all (PV.bnd b) = true → Reps K H β ps xs → Reps K H β' ps xs
  | [], xs, _, h => reps_nil.mpr (reps_nil.mp h)
  | p :: ps, xs, q, h => by
    obtain ⟨x, r, e, h1, h2⟩ := reps_cons.mp h
    rw [List.all_cons, Bool.and_eq_true] at q
    exact reps_cons.mpr ⟨x, r, e, Rep.low hb q.1 h1, Reps.low hb q.2 h2⟩
end
mutual
/-- what stands has its places below the memory's size -/
theorem Rep.bnd {b : Nat} (hb : β.length ≤ b) : ∀ {v : PV} {x : V}, Rep K H β v x → v.bnd b = true
  | .non, x, h => by simp [PV.bnd]
  | .bl b, x, h => by simp [PV.bnd]
  | .int b, x, h => by simp [PV.bnd]
  | .str b, x, h => by simp [PV.bnd]
  | .tup ps, x, h => by
    obtain ⟨a, xs, e, t, r⟩ := rep_tup.mp h
    rw [bnd_tup]
    exact Reps.bnd hb r
  | .ref n, x, h => by
    obtain ⟨a, e, t⟩ := rep_ref.mp h
    have := (List.getElem?_eq_some_iff.mp t).1
    simp only [PV.bnd, decide_eq_true_eq]
    omega
theorem Reps.bnd {b : Nat} (hb : β.length ≤ b) : ∀ {ps : List PV} {xs : List V}, Reps K H β ps xs → ps.all (PV.bnd b) = true
  | [], xs, h => rfl
  | p :: ps, xs, h => by
    obtain ⟨x, r, e, h1, h2⟩ := reps_cons.mp h
    rw [List.all_cons, Rep.bnd hb h1, Reps.bnd hb h2]; rfl
end
mutual
theorem bnd_mono {b c : Nat} (h : b ≤ c) : ∀ {v : PV}, v.bnd b = true → v.bnd c = true
  | .non, _ => by simp [PV.bnd]
  | .bl _, _ => by simp [PV.bnd]
  | .int _, _ => by simp [PV.bnd]
  | .str _, _ => by simp [PV.bnd]
  | .tup ps, q => by rw [bnd_tup] at q ⊢; exact bnds_mono h q
  | .ref n, q => by simp only [PV.bnd, decide_eq_true_eq] at q ⊢; omega
theorem bnds_mono {b c : Nat} (h : b ≤ c) : ∀ {vs : List PV}, vs.all (PV.bnd b) = true → vs.all (PV.bnd c) = true
  | [], _ => rfl
  | v :: vs, q => by
    rw [List.all_cons, Bool.and_eq_true] at q ⊢
    exact ⟨bnd_mono h q.1, bnds_mono h q.2⟩
end
theorem Reps.length : ∀ {ps : List PV} {xs : List V}, Reps K H β ps xs → ps.length = xs.length
  | [], xs, h => by rw [reps_nil.mp h]; rfl
  | p :: ps, xs, h => by
    obtain ⟨x, r, rfl, h1, h2⟩ := reps_cons.mp h
    rw [List.length_cons, List.length_cons, Reps.length h2]
theorem Reps.get : ∀ {ps : List PV} {xs : List V} {i : Nat} {p : PV}, Reps K H β ps xs → ps[i]? = some p → ∃ x, xs[i]? = some x ∧ Rep K H β p x
  | [], xs, i, p, h, e => by simp at e
  | q :: ps, xs, 0, p, h, e => by
    obtain ⟨x, r, rfl, h1, h2⟩ := reps_cons.mp h
    simp at e; subst e
    exact ⟨x, rfl, h1⟩
  | q :: ps, xs, i + 1, p, h, e => by
    obtain ⟨x, r, rfl, h1, h2⟩ := reps_cons.mp h
    simp at e
    obtain ⟨y, e1, e2⟩ := Reps.get h2 e
    exact ⟨y, by simpa using e1, e2⟩
theorem Reps.append : ∀ {ps qs : List PV} {xs ys : List V}, Reps K H β ps xs → Reps K H β qs ys → Reps K H β (ps ++ qs) (xs ++ ys)
  | [], qs, xs, ys, h, g => by rw [reps_nil.mp h]; exact g
  | p :: ps, qs, xs, ys, h, g => by
    obtain ⟨x, r, rfl, h1, h2⟩ := reps_cons.mp h
    exact reps_cons.mpr ⟨x, r ++ ys, rfl, h1, Reps.append h2 g⟩
theorem Reps.one {p : PV} {x : V} (h : Rep K H β p x) : Reps K H β [p] [x] := reps_cons.mpr ⟨x, [], rfl, h, reps_nil.mpr rfl⟩
theorem Reps.drop : ∀ {ps : List PV} {xs : List V} (n : Nat), Reps K H β ps xs → Reps K H β (ps.drop n) (xs.drop n)
  | ps, xs, 0, h => h
  | [], xs, n + 1, h => by rw [reps_nil.mp h]; exact reps_nil.mpr rfl
  | p :: ps, xs, n + 1, h => by
    obtain ⟨x, r, rfl, h1, h2⟩ := reps_cons.mp h
    exact Reps.drop n h2
theorem Reps.take : ∀ {ps : List PV} {xs : List V} (n : Nat), Reps K H β ps xs → Reps K H β (ps.take n) (xs.take n)
  | ps, xs, 0, h => reps_nil.mpr rfl
  | [], xs, n + 1, h => by rw [reps_nil.mp h]; exact reps_nil.mpr rfl
  | p :: ps, xs, n + 1, h => by
    obtain ⟨x, r, rfl, h1, h2⟩ := reps_cons.mp h
    exact reps_cons.mpr ⟨x, r.take n, rfl, h1, Reps.take n h2⟩
theorem Reps.set {p : PV} {x : V} (hp : Rep K H β p x) : ∀ {ps : List PV} {xs : List V} (n : Nat), Reps K H β ps xs → Reps K H β (ps.set n p) (xs.set n x)
  | [], xs, n, h => by rw [reps_nil.mp h]; exact reps_nil.mpr rfl
  | q :: ps, xs, 0, h => by
    obtain ⟨y, r, rfl, h1, h2⟩ := reps_cons.mp h
    exact reps_cons.mpr ⟨x, r, rfl, hp, h2⟩
  | q :: ps, xs, n + 1, h => by
    obtain ⟨y, r, rfl, h1, h2⟩ := reps_cons.mp h
    exact reps_cons.mpr ⟨y, r.set n x, rfl, h1, Reps.set hp n h2⟩
theorem Reps.erase : ∀ {ps : List PV} {xs : List V} (n : Nat), Reps K H β ps xs → Reps K H β (ps.eraseIdx n) (xs.eraseIdx n)
  | [], xs, n, h => by rw [reps_nil.mp h]; exact reps_nil.mpr rfl
  | q :: ps, xs, 0, h => by
    obtain ⟨y, r, rfl, h1, h2⟩ := reps_cons.mp h
    exact h2
  | q :: ps, xs, n + 1, h => by
    obtain ⟨y, r, rfl, h1, h2⟩ := reps_cons.mp h
    exact reps_cons.mpr ⟨y, r.eraseIdx n, rfl, h1, Reps.erase n h2⟩
theorem Reps.rev : ∀ {ps : List PV} {xs : List V}, Reps K H β ps xs → Reps K H β ps.reverse xs.reverse
  | [], xs, h => by rw [reps_nil.mp h]; exact reps_nil.mpr rfl
  | q :: ps, xs, h => by
    obtain ⟨y, r, rfl, h1, h2⟩ := reps_cons.mp h
    rw [List.reverse_cons, List.reverse_cons]
    exact (Reps.rev h2).append (.one h1)
theorem reps_ints : ∀ (ns : List Int), Reps K H β (ns.map PV.int) (ns.map V.int)
  | [] => reps_nil.mpr rfl
  | n :: ns => reps_cons.mpr ⟨.int n, ns.map V.int, rfl, rep_int.mpr rfl, reps_ints ns⟩
end

/-! ### memory and heap -/
def ORep (K : PySem.W.Frag) (H : Hp) (β : List Addr) (a : Addr) : MObj → Prop
  | .lst xs => ∃ ys, H a = some (.lst ys) ∧ Reps K H β xs ys
  | .rol xs => ∃ ys, Rol K H a ys ∧ Reps K H β xs ys
structure RelH (K : PySem.W.Frag) (β : List Addr) (M : Mem) (H : Hp) : Prop where
  len : β.length = M.sz
  olen : M.objs.length = M.sz
  inj : ∀ (n m : Nat) (a : Addr) xs ys, M.get n = some (.lst xs) → M.get m = some (.lst ys) → β[n]? = some a → β[m]? = some a → n = m
  obj : ∀ (n : Nat) o, M.get n = some o → ∃ a, β[n]? = some a ∧ ORep K H β a o

/-- closed below b -/
def Cl (M : Mem) (b : Nat) : Prop := ∀ n o, n < b → M.get n = some o → o.bnd b = true

structure Stp (K : PySem.W.Frag) (β : List Addr) (M : Mem) (H : Hp) (β' : List Addr) (M' : Mem) (H' : Hp) : Prop where
  rel : RelH K β' M' H'
  pre : ∀ n a : Nat, β[n]? = some a → β'[n]? = some a
  szle : M.sz ≤ M'.sz
  frame : ∀ a o, H a = some o → (∀ n xs, M.get n = some (.lst xs) → β[n]? ≠ some a) → H' a = some o
  kind : ∀ n xs, n < M.sz → M'.get n = some (.lst xs) → ∃ ys, M.get n = some (.lst ys)
  kind2 : ∀ n xs, M.get n = some (.lst xs) → ∃ ys, M'.get n = some (.lst ys)
  fresh : ∀ (n : Nat) xs a, M.sz ≤ n → M'.get n = some (.lst xs) → β'[n]? = some a → H a = none
  esc : M.esc ≤ M'.esc
  clo : M'.esc = M.esc → ∀ b, b ≤ M.sz → Cl M b → Cl M' b

section
variable {K : PySem.W.Frag} {H H1 H2 : Hp} {β β1 β2 : List Addr} {M M1 M2 : Mem}
theorem get_lt {n : Nat} {o : MObj} (h : M.get n = some o) : n < M.sz := by
  unfold Mem.get at h
  split at h
  · assumption
  · cases h
theorem RelH.nolst (r : RelH K β M H) {a : Addr} (h : ∀ xs, H a ≠ some (.lst xs)) : ∀ n xs, M.get n = some (.lst xs) → β[n]? ≠ some a := fun n xs e z => by
  obtain ⟨b, e1, ys, e2, _⟩ := r.obj n _ e
  rw [z] at e1; cases e1
  exact h ys e2
theorem Stp.tup (s : Stp K β M H β1 M1 H1) (r : RelH K β M H) {a : Addr} {xs : List V} (h : Tup K H a xs) : Tup K H1 a xs := by
  rcases h with ⟨o, h, d⟩ | h
  · exact .inl ⟨o, s.frame a _ h (r.nolst fun xs e => by rw [h] at e; cases e), d⟩
  · exact .inr h
theorem Stp.rep (s : Stp K β M H β1 M1 H1) (r : RelH K β M H) {v : PV} {x : V} (h : Rep K H β v x) : Rep K H1 β1 v x := h.mono (fun _ _ => s.tup r) s.pre
theorem Stp.reps (s : Stp K β M H β1 M1 H1) (r : RelH K β M H) {v : List PV} {x : List V} (h : Reps K H β v x) : Reps K H1 β1 v x := h.mono (fun _ _ => s.tup r) s.pre
theorem Stp.refl (r : RelH K β M H) : Stp K β M H β M H := ⟨r, fun _ _ h => h, Nat.le_refl _, fun _ _ h _ => h, fun n xs _ h => ⟨xs, h⟩, fun n xs h => ⟨xs, h⟩, fun n xs a h1 h2 _ => absurd (get_lt h2) (by omega), Nat.le_refl _, fun _ _ _ h => h⟩
theorem Stp.trans (s : Stp K β M H β1 M1 H1) (t : Stp K β1 M1 H1 β2 M2 H2) (r : RelH K β M H) : Stp K β M H β2 M2 H2 where
  rel := t.rel
  pre := fun n a h => t.pre n a (s.pre n a h)
  szle := Nat.le_trans s.szle t.szle
  frame := fun a o h hn => t.frame a o (s.frame a o h hn) fun n xs e z => by
    by_cases hl : n < M.sz
    · obtain ⟨ys, e2⟩ := s.kind n xs hl e
      obtain ⟨b, e3, _⟩ := r.obj n _ e2
      have := s.pre n b e3
      rw [z] at this; cases this
      exact hn n ys e2 e3
    · have := s.fresh n xs a (by omega) e z
      rw [h] at this; cases this
  kind := fun n xs hl e => by
    obtain ⟨ys, e2⟩ := t.kind n xs (Nat.lt_of_lt_of_le hl s.szle) e
    exact s.kind n ys hl e2
  kind2 := fun n xs e => by
    obtain ⟨ys, e2⟩ := s.kind2 n xs e
    exact t.kind2 n ys e2
  fresh := fun n xs a hl e z => by
    by_cases h1 : n < M1.sz
    · obtain ⟨ys, e2⟩ := t.kind n xs h1 e
      obtain ⟨b, e3, _⟩ := s.rel.obj n _ e2
      have := t.pre n b e3
      rw [z] at this; cases this
      exact s.fresh n ys _ hl e2 e3
    · have hz := t.fresh n xs a (by omega) e z
      cases q : H a with
      | none => rfl
      | some o =>
        by_cases hm : ∀ n xs, M.get n = some (.lst xs) → β[n]? ≠ some a
        · rw [s.frame a o q hm] at hz; cases hz
        · exfalso
          apply hm
          intro m ys e1 e2
          have e3 := s.pre m a e2
          have hmlt := get_lt e1
          obtain ⟨zs, e7⟩ := s.kind2 m _ e1
          obtain ⟨c, e8, ws, e10, _⟩ := s.rel.obj m _ e7
          rw [e3] at e8; cases e8
          rw [e10] at hz; cases hz
  esc := Nat.le_trans s.esc t.esc
  clo := fun e b hb h => t.clo (by have := s.esc; have := t.esc; omega) b (Nat.le_trans hb s.szle) (s.clo (by have := s.esc; have := t.esc; omega) b hb h)

theorem stp_of (r : RelH K β1 M1 H1) (s : Stp K β M H β1 M1 H1) : Stp K β1 M1 H1 β1 M1 H1 := .refl r

/-! ### elementary steps -/
theorem tup_upd_new {p : Addr} {o : HO} (hp : H p = none) {a : Addr} {xs : List V} (h : Tup K H a xs) : Tup K (upd H p o) a xs := by
  rcases h with ⟨ob, h, d⟩ | h
  · exact .inl ⟨ob, by rw [upd_ne (ne_of_none h hp)]; exact h, d⟩
  · exact .inr h
theorem tup_upd_lst {p : Addr} {o : HO} {ys : List V} (hp : H p = some (.lst ys)) {a : Addr} {xs : List V} (h : Tup K H a xs) : Tup K (upd H p o) a xs := by
  rcases h with ⟨ob, h, d⟩ | h
  · exact .inl ⟨ob, by rw [upd_ne (ne_of h hp (by intro e; cases e))]; exact h, d⟩
  · exact .inr h
theorem rol_upd_new {p : Addr} {o : HO} (hp : H p = none) {a : Addr} {xs : List V} (h : Rol K H a xs) : Rol K (upd H p o) a xs := by
  rcases h with ⟨ob, h⟩ | h
  · exact .inl ⟨ob, by rw [upd_ne (ne_of_none h hp)]; exact h⟩
  · exact .inr h
theorem rol_upd_lst {p : Addr} {o : HO} {ys : List V} (hp : H p = some (.lst ys)) {a : Addr} {xs : List V} (h : Rol K H a xs) : Rol K (upd H p o) a xs := by
  rcases h with ⟨ob, h⟩ | h
  · exact .inl ⟨ob, by rw [upd_ne (ne_of h hp (by intro e; cases e))]; exact h⟩
  · exact .inr h
theorem get_push_old {n : Nat} {o : MObj} (h : n < M.sz) : (M.push o).get n = M.get n := by
  unfold Mem.get Mem.push
  rw [if_pos (by simp only; omega), if_pos h]
  simp only
  rw [show M.sz + 1 - 1 - n = (M.sz - 1 - n) + 1 by omega, List.getElem?_cons_succ]
theorem get_push_new {o : MObj} : (M.push o).get M.sz = some o := by
  unfold Mem.get Mem.push
  rw [if_pos (by simp only; omega)]
  simp only
  rw [show M.sz + 1 - 1 - M.sz = 0 by omega]
  rfl
theorem get_push {n : Nat} {o ob : MObj} (h : (M.push o).get n = some ob) : (n < M.sz ∧ M.get n = some ob) ∨ (n = M.sz ∧ ob = o) := by
  by_cases hn : n < M.sz
  · rw [get_push_old hn] at h; exact .inl ⟨hn, h⟩
  · have : n < M.sz + 1 := get_lt h
    have e : n = M.sz := by omega
    subst e
    rw [get_push_new] at h; cases h
    exact .inr ⟨rfl, rfl⟩
theorem getElem?_snoc {α : Type} {l : List α} {x : α} {n : Nat} {a : α} (h : (l ++ [x])[n]? = some a) : l[n]? = some a ∨ (n = l.length ∧ a = x) := by
  by_cases hn : n < l.length
  · rw [List.getElem?_append_left hn] at h; exact .inl h
  · rw [List.getElem?_append_right (by omega)] at h
    have : n - l.length = 0 := by
      have := (List.getElem?_eq_some_iff.mp h).1
      simp at this; omega
    rw [this] at h; cases h
    exact .inr ⟨by omega, rfl⟩
theorem snoc_old {α : Type} {l : List α} {x : α} {n : Nat} {a : α} (h : l[n]? = some a) : (l ++ [x])[n]? = some a := by
  rw [List.getElem?_append_left (List.getElem?_eq_some_iff.mp h).1]; exact h
/-- a heap that grows by an untracked-before thing that is no list -/
theorem stp_new (r : RelH K β M H) {p : Addr} {o : HO} (hp : H p = none) : Stp K β M H β M (upd H p o) where
  rel := ⟨r.len, r.olen, r.inj, fun n ob e => by
    obtain ⟨a, e1, e2⟩ := r.obj n ob e
    refine ⟨a, e1, ?_⟩
    cases ob with
    | lst xs =>
      obtain ⟨ys, e3, e4⟩ := e2
      exact ⟨ys, by rw [upd_ne (ne_of_none e3 hp)]; exact e3, e4.mono (fun _ _ => tup_upd_new hp) fun _ _ h => h⟩
    | rol xs =>
      obtain ⟨ys, e3, e4⟩ := e2
      exact ⟨ys, rol_upd_new hp e3, e4.mono (fun _ _ => tup_upd_new hp) fun _ _ h => h⟩⟩
  pre := fun _ _ h => h
  szle := Nat.le_refl _
  frame := fun a ob h _ => by rw [upd_ne (ne_of_none h hp)]; exact h
  kind := fun n xs _ h => ⟨xs, h⟩
  kind2 := fun n xs h => ⟨xs, h⟩
  fresh := fun n xs a h1 h2 _ => absurd (get_lt h2) (by omega)
  esc := Nat.le_refl _
  clo := fun _ _ _ h => h
/-- a new list -/
theorem stp_push (r : RelH K β M H) {p : Addr} {xs : List PV} {ys : List V} (hp : H p = none) (h : Reps K H β xs ys) : Stp K β M H (β ++ [p]) (M.push (.lst xs)) (upd H p (.lst ys)) where
  rel := {
    len := by rw [List.length_append, r.len]; rfl
    olen := by show (_ :: M.objs).length = M.sz + 1; rw [List.length_cons, r.olen]
    inj := fun n m a xs1 ys1 e1 e2 z1 z2 => by
      have hn : ∀ n xs, M.get n = some (.lst xs) → β[n]? ≠ some p := fun n xs e z => by
        obtain ⟨b, e1, ws, e2, _⟩ := r.obj n _ e
        rw [z] at e1; cases e1
        rw [hp] at e2; cases e2
      rcases get_push e1 with ⟨h1, g1⟩ | ⟨h1, g1⟩ <;> rcases get_push e2 with ⟨h2, g2⟩ | ⟨h2, g2⟩
      · rw [List.getElem?_append_left (by rw [r.len]; exact h1)] at z1
        rw [List.getElem?_append_left (by rw [r.len]; exact h2)] at z2
        exact r.inj n m a _ _ g1 g2 z1 z2
      · rw [List.getElem?_append_left (by rw [r.len]; exact h1)] at z1
        rw [h2, List.getElem?_append_right (by rw [r.len]; exact Nat.le_refl _), r.len, Nat.sub_self] at z2
        cases z2
        exact absurd z1 (hn _ _ g1)
      · rw [List.getElem?_append_left (by rw [r.len]; exact h2)] at z2
        rw [h1, List.getElem?_append_right (by rw [r.len]; exact Nat.le_refl _), r.len, Nat.sub_self] at z1
        cases z1
        exact absurd z2 (hn _ _ g2)
      · rw [h1, h2]
    obj := fun n ob e => by
      rcases get_push e with ⟨h1, g1⟩ | ⟨h1, g1⟩
      · obtain ⟨a, e1, e2⟩ := r.obj n ob g1
        refine ⟨a, snoc_old e1, ?_⟩
        cases ob with
        | lst xs =>
          obtain ⟨ys, e3, e4⟩ := e2
          exact ⟨ys, by rw [upd_ne (ne_of_none e3 hp)]; exact e3, e4.mono (fun _ _ => tup_upd_new hp) fun _ _ h => snoc_old h⟩
        | rol xs =>
          obtain ⟨ys, e3, e4⟩ := e2
          exact ⟨ys, rol_upd_new hp e3, e4.mono (fun _ _ => tup_upd_new hp) fun _ _ h => snoc_old h⟩
      · subst h1 g1
        refine ⟨p, ?_, ys, upd_same, h.mono (fun _ _ => tup_upd_new hp) fun _ _ h => snoc_old h⟩
        rw [List.getElem?_append_right (by rw [r.len]; exact Nat.le_refl _), r.len, Nat.sub_self]
        rfl }
  pre := fun _ _ h => snoc_old h
  szle := Nat.le_succ _
  frame := fun a ob h _ => by rw [upd_ne (ne_of_none h hp)]; exact h
  kind := fun n xs hl e => by rw [get_push_old hl] at e; exact ⟨xs, e⟩
  kind2 := fun n xs e => by rw [get_push_old (get_lt e)]; exact ⟨xs, e⟩
  fresh := fun n xs1 a hl e z => by
    rcases get_push e with ⟨h1, _⟩ | ⟨h1, _⟩
    · omega
    · rw [h1, List.getElem?_append_right (by rw [r.len]; exact Nat.le_refl _), r.len, Nat.sub_self] at z
      cases z
      exact hp
  esc := Nat.le_refl _
  clo := fun _ b hb h n ob hn e => by
    rw [get_push_old (by omega)] at e
    exact h n ob hn e
theorem push_at (r : RelH K β M H) {p : Addr} : (β ++ [p])[M.sz]? = some p := by
  rw [List.getElem?_append_right (by rw [r.len]; exact Nat.le_refl _), r.len, Nat.sub_self]
  rfl
theorem get_put_same {n : Nat} {o o' : MObj} {e : Nat} (h : M.get n = some o') (hl : M.objs.length = M.sz) : (M.put n o e).get n = some o := by
  have hn := get_lt h
  unfold Mem.get Mem.put
  simp only
  rw [if_pos hn, List.getElem?_set_self (by omega)]
theorem get_put_ne {n m : Nat} {o : MObj} {e : Nat} (hne : m ≠ n) (hn : n < M.sz) : (M.put n o e).get m = M.get m := by
  unfold Mem.get Mem.put
  simp only
  split
  · rw [List.getElem?_set_ne (by omega)]
  · rfl
/-- a list is changed -/
theorem stp_put (r : RelH K β M H) {n : Nat} {p : Addr} {xs0 xs : List PV} {ys0 ys : List V} {e : Nat} (hg : M.get n = some (.lst xs0)) (hb : β[n]? = some p) (hp : H p = some (.lst ys0)) (h : Reps K H β xs ys)
    (hc : e = 0 → ∀ b, xs0.all (PV.bnd b) = true → xs.all (PV.bnd b) = true) : Stp K β M H β (M.put n (.lst xs) e) (upd H p (.lst ys)) := by
  have hn := get_lt hg
  have gp : ∀ {m ob}, (M.put n (.lst xs) e).get m = some ob → (m = n ∧ ob = .lst xs) ∨ (m ≠ n ∧ M.get m = some ob) := fun {m ob} q => by
    by_cases hm : m = n
    · subst hm
      rw [get_put_same hg r.olen] at q; cases q
      exact .inl ⟨rfl, rfl⟩
    · rw [get_put_ne hm hn] at q
      exact .inr ⟨hm, q⟩
  refine ⟨⟨r.len, by show (M.objs.set _ _).length = M.sz; rw [List.length_set]; exact r.olen, fun m1 m2 a xs1 ys1 e1 e2 z1 z2 => ?_, fun m ob q => ?_⟩, fun _ _ h => h, Nat.le_refl _, fun a ob q hne => ?_, fun m zs _ q => ?_, fun m zs q => ?_, fun m zs a h1 h2 _ => ?_, Nat.le_add_right _ _, fun he b hb2 hcl m ob hm q => ?_⟩
  · have k : ∀ {m zs}, (M.put n (.lst xs) e).get m = some (.lst zs) → ∃ ws, M.get m = some (.lst ws) := fun {m zs} q => by
      rcases gp q with ⟨h1, _⟩ | ⟨_, h1⟩
      · exact ⟨xs0, h1 ▸ hg⟩
      · exact ⟨zs, h1⟩
    obtain ⟨w1, k1⟩ := k e1
    obtain ⟨w2, k2⟩ := k e2
    exact r.inj m1 m2 a _ _ k1 k2 z1 z2
  · rcases gp q with ⟨rfl, rfl⟩ | ⟨hm, q⟩
    · exact ⟨p, hb, ys, upd_same, h.mono (fun _ _ => tup_upd_lst hp) fun _ _ h => h⟩
    · obtain ⟨a, e1, e2⟩ := r.obj m ob q
      refine ⟨a, e1, ?_⟩
      cases ob with
      | lst zs =>
        obtain ⟨ws, e3, e4⟩ := e2
        have hap : a ≠ p := fun z => hm (r.inj m n a zs xs0 q hg e1 (z ▸ hb))
        exact ⟨ws, by rw [upd_ne hap]; exact e3, e4.mono (fun _ _ => tup_upd_lst hp) fun _ _ h => h⟩
      | rol zs =>
        obtain ⟨ws, e3, e4⟩ := e2
        exact ⟨ws, rol_upd_lst hp e3, e4.mono (fun _ _ => tup_upd_lst hp) fun _ _ h => h⟩
  · have hap : a ≠ p := fun z => hne n xs0 hg (z ▸ hb)
    rw [upd_ne hap]; exact q
  · rcases gp q with ⟨h1, _⟩ | ⟨_, h1⟩
    · exact ⟨xs0, h1 ▸ hg⟩
    · exact ⟨zs, h1⟩
  · by_cases hm : m = n
    · subst hm
      exact ⟨xs, get_put_same hg r.olen⟩
    · exact ⟨zs, by rw [get_put_ne hm hn]; exact q⟩
  · have := get_lt h2
    have : (M.put n (.lst xs) e).sz = M.sz := rfl
    omega
  · have he0 : e = 0 := by
      have : M.esc + e = M.esc := he
      omega
    rcases gp q with ⟨rfl, rfl⟩ | ⟨_, q⟩
    · exact hc he0 b (hcl m _ hm hg)
    · exact hcl m ob hm q
theorem RelH.cl (r : RelH K β M H) : Cl M M.sz := fun n o _ e => by
  obtain ⟨a, _, h⟩ := r.obj n o e
  cases o with
  | lst xs => obtain ⟨ys, _, h⟩ := h; exact h.bnd (Nat.le_of_eq r.len)
  | rol xs => obtain ⟨ys, _, h⟩ := h; exact h.bnd (Nat.le_of_eq r.len)
theorem get_cut {b n : Nat} (hb : b ≤ M.sz) (hn : n < b) (hl : M.objs.length = M.sz) : (M.cut b).get n = M.get n := by
  unfold Mem.get Mem.cut
  simp only
  rw [if_pos hn, if_pos (by omega), List.getElem?_drop]
  congr 1
  omega
theorem take_get {α : Type} {l : List α} {b n : Nat} {a : α} (h : (l.take b)[n]? = some a) : l[n]? = some a ∧ n < b := by
  by_cases hn : n < b
  · rw [List.getElem?_take_of_lt hn] at h; exact ⟨h, hn⟩
  · rw [List.getElem?_eq_none (by rw [List.length_take]; omega)] at h; cases h
theorem get_take {α : Type} {l : List α} {b n : Nat} {a : α} (h : l[n]? = some a) (hn : n < b) : (l.take b)[n]? = some a := by
  rw [List.getElem?_take_of_lt hn]; exact h
/-- what lies above is let go -/
theorem stp_cut (r : RelH K β M H) (s : Stp K β M H β1 M1 H1) (he : M1.esc = M.esc) : Stp K β M H (β1.take M.sz) (M1.cut M.sz) H1 := by
  have cl := s.clo he M.sz (Nat.le_refl _) r.cl
  have hz := s.szle
  have ol := s.rel.olen
  have gc : ∀ {n ob}, (M1.cut M.sz).get n = some ob → n < M.sz ∧ M1.get n = some ob := fun {n ob} q => by
    have h0 := get_lt q
    have h1 : n < M.sz := h0
    rw [get_cut hz h1 ol] at q
    exact ⟨h1, q⟩
  refine ⟨⟨?_, ?_, fun n m a xs ys e1 e2 z1 z2 => ?_, fun n ob q => ?_⟩, fun n a h => ?_, Nat.le_refl _, s.frame, fun n xs hl e => ?_, fun n xs e => ?_, fun n xs a hl e _ => ?_, Nat.le_of_eq he.symm, fun _ b hb h n ob hn q => ?_⟩
  · rw [List.length_take, s.rel.len]
    show min M.sz M1.sz = M.sz
    omega
  · show (M1.objs.drop (M1.sz - M.sz)).length = M.sz
    rw [List.length_drop]
    omega
  · exact s.rel.inj n m a xs ys (gc e1).2 (gc e2).2 (take_get z1).1 (take_get z2).1
  · obtain ⟨hn, q⟩ := gc q
    obtain ⟨a, e1, e2⟩ := s.rel.obj n ob q
    refine ⟨a, get_take e1 hn, ?_⟩
    have hbd := cl n ob hn q
    cases ob with
    | lst xs =>
      obtain ⟨ys, e3, e4⟩ := e2
      exact ⟨ys, e3, e4.low (fun m c hm z => get_take z hm) hbd⟩
    | rol xs =>
      obtain ⟨ys, e3, e4⟩ := e2
      exact ⟨ys, e3, e4.low (fun m c hm z => get_take z hm) hbd⟩
  · refine get_take (s.pre n a h) ?_
    have := (List.getElem?_eq_some_iff.mp h).1
    rw [r.len] at this; exact this
  · exact s.kind n xs hl (gc e).2
  · obtain ⟨ys, e2⟩ := s.kind2 n xs e
    exact ⟨ys, by rw [get_cut hz (get_lt e) ol]; exact e2⟩
  · have := (gc e).1
    omega
  · obtain ⟨_, q⟩ := gc q
    exact s.clo he b hb h n ob hn q
/-- .. but one list -/
theorem stp_keep (r : RelH K β M H) (s : Stp K β M H β1 M1 H1) (he : M1.esc = M.esc) {n : Nat} {xs : List PV} {p : Addr} (hg : M1.get n = some (.lst xs)) (hn : M.sz ≤ n) (hb : β1[n]? = some p) (hx : xs.all (PV.bnd M.sz) = true) :
    Stp K β M H (β1.take M.sz ++ [p]) ((M1.cut M.sz).push (.lst xs)) H1 := by
  have t := stp_cut r s he
  have hl : (β1.take M.sz).length = M.sz := t.rel.len
  have gp : ∀ {m ob}, ((M1.cut M.sz).push (.lst xs)).get m = some ob → (m < M.sz ∧ (M1.cut M.sz).get m = some ob) ∨ (m = M.sz ∧ ob = .lst xs) := fun q => get_push q
  have pz : (M1.cut M.sz).sz = M.sz := rfl
  have at_ : (β1.take M.sz ++ [p])[M.sz]? = some p := by
    rw [List.getElem?_append_right (by omega), hl, Nat.sub_self]; rfl
  obtain ⟨p', e1, ys, e2, e3⟩ := s.rel.obj n _ hg
  rw [hb] at e1; cases e1
  have old : ∀ {m zs a}, (M1.cut M.sz).get m = some (.lst zs) → m < M.sz → (β1.take M.sz ++ [p])[m]? = some a → a ≠ p := fun {m zs a} q hm z hap => by
    rw [List.getElem?_append_left (by omega)] at z
    rw [get_cut s.szle hm s.rel.olen] at q
    have := s.rel.inj m n a zs xs q hg (take_get z).1 (hap ▸ hb)
    omega
  refine ⟨⟨?_, ?_, fun m1 m2 a xs1 ys1 q1 q2 z1 z2 => ?_, fun m ob q => ?_⟩, fun m a h => snoc_old (t.pre m a h), Nat.le_succ _, s.frame, fun m zs hm q => ?_, fun m zs q => ?_, fun m zs a hm q z => ?_, Nat.le_of_eq he.symm, fun _ b hb2 h m ob hm q => ?_⟩
  · rw [List.length_append, hl]; rfl
  · show (_ :: (M1.cut M.sz).objs).length = M.sz + 1
    rw [List.length_cons, t.rel.olen]
    rfl
  · rcases gp q1 with ⟨h1, g1⟩ | ⟨h1, g1⟩ <;> rcases gp q2 with ⟨h2, g2⟩ | ⟨h2, g2⟩
    · rw [List.getElem?_append_left (by omega)] at z1 z2
      exact t.rel.inj m1 m2 a _ _ g1 g2 z1 z2
    · rw [h2, at_] at z2; cases z2
      exact absurd rfl (old g1 h1 z1)
    · rw [h1, at_] at z1; cases z1
      exact absurd rfl (old g2 h2 z2)
    · omega
  · rcases gp q with ⟨h1, g1⟩ | ⟨h1, g1⟩
    · obtain ⟨a, e1, e2⟩ := t.rel.obj m ob g1
      refine ⟨a, snoc_old e1, ?_⟩
      cases ob with
      | lst zs =>
        obtain ⟨ys, e3, e4⟩ := e2
        exact ⟨ys, e3, e4.mono (fun _ _ h => h) fun _ _ h => snoc_old h⟩
      | rol zs =>
        obtain ⟨ys, e3, e4⟩ := e2
        exact ⟨ys, e3, e4.mono (fun _ _ h => h) fun _ _ h => snoc_old h⟩
    · subst h1 g1
      exact ⟨p, at_, ys, e2, e3.low (fun m c hm z => snoc_old (get_take z hm)) hx⟩
  · rcases gp q with ⟨_, g1⟩ | ⟨h1, _⟩
    · exact t.kind m zs hm g1
    · omega
  · obtain ⟨ys, g⟩ := t.kind2 m zs q
    exact ⟨ys, by rw [get_push_old (get_lt g)]; exact g⟩
  · rcases gp q with ⟨h1, _⟩ | ⟨h1, _⟩
    · omega
    · subst h1
      rw [at_] at z; cases z
      exact s.fresh n xs p hn hg hb
  · rcases gp q with ⟨_, g1⟩ | ⟨h1, _⟩
    · exact t.clo he b hb2 h m ob hm g1
    · omega
/-- what trimming leaves -/
theorem trim_ok (r : RelH K β M H) (s : Stp K β M H β1 M1 H1) (v : PV) : ∃ v' β2 M2, trimV M v M1 = .ok v' M2 ∧ Stp K β M H β2 M2 H1 ∧ ∀ x, Rep K H1 β1 v x → Rep K H1 β2 v' x := by
  have same : ∃ v' β2 M2, Res.ok v M1 = .ok v' M2 ∧ Stp K β M H β2 M2 H1 ∧ ∀ x, Rep K H1 β1 v x → Rep K H1 β2 v' x := ⟨v, β1, M1, rfl, s, fun _ h => h⟩
  unfold trimV
  by_cases h1 : M1.sz = M.sz
  · rw [if_pos h1]; exact same
  rw [if_neg h1]
  by_cases h2 : M1.esc = M.esc
  · rw [if_pos h2]
    by_cases h3 : v.bnd M.sz = true
    · rw [if_pos h3]
      exact ⟨v, _, _, rfl, stp_cut r s h2, fun x h => h.low (fun n a hn z => get_take z hn) h3⟩
    · rw [if_neg h3]
      cases v with
      | ref n =>
        simp only
        split
        · rename_i xs hg
          by_cases h4 : xs.all (PV.bnd M.sz) = true
          · rw [if_pos h4]
            have hn : M.sz ≤ n := by
              simp only [PV.bnd, decide_eq_true_eq] at h3
              omega
            obtain ⟨p, hb, _⟩ := s.rel.obj n _ hg
            refine ⟨_, _, _, rfl, stp_keep r s h2 hg hn hb h4, fun x h => ?_⟩
            obtain ⟨a, e, z⟩ := rep_ref.mp h
            rw [hb] at z; cases z
            refine rep_ref.mpr ⟨p, e, ?_⟩
            have hl : (β1.take M.sz).length = M.sz := (stp_cut r s h2).rel.len
            rw [List.getElem?_append_right (by omega), hl, Nat.sub_self]; rfl
          · rw [if_neg h4]; exact same
        · exact same
      | non => exact same
      | bl b => exact same
      | int i => exact same
      | str x => exact same
      | tup xs => exact same
  · rw [if_neg h2]; exact same
end
end Mn
end
section
set_option Elab.async false
set_option linter.all false
set_option maxRecDepth 100000
set_option maxHeartbeats 4000000
namespace Mn
open PySem PySem.Spec PyProof.Rows L2

/-! ### what a run gives, and what is wanted of it -/
def Out {α : Type} (K : PySem.W.Frag) (β : List Addr) (M : Mem) (H : Hp) (r : Res α) (k : α → List Addr → Mem → Hp → Prop) (w : PV → List Addr → Mem → Hp → Prop) : Prop :=
  match r with
  | .ok a M' => ∀ β' H', Stp K β M H β' M' H' → k a β' M' H'
  | .exc v M' => ∀ β' H', Stp K β M H β' M' H' → w v β' M' H'
  | .stuck => False
abbrev WM := PV → List Addr → Mem → Hp → Prop
section
variable {K : PySem.W.Frag} {β β1 : List Addr} {M M1 : Mem} {H H1 : Hp} {w : WM}
theorem Out.bind {α γ : Type} {r : Res α} {f : α → Mem → Res γ} {k : γ → List Addr → Mem → Hp → Prop} (R : RelH K β M H) (h : Out K β M H (r.bind f) k w) :
    Out K β M H r (fun a β1 M1 H1 => Out K β1 M1 H1 (f a M1) k w) w := by
  cases r with
  | ok a M1 =>
    intro β1 H1 s
    have h : Out K β M H (f a M1) k w := h
    revert h
    cases f a M1 with
    | ok b M2 => exact fun h β2 H2 t => h β2 H2 (s.trans t R)
    | exc v M2 => exact fun h β2 H2 t => h β2 H2 (s.trans t R)
    | stuck => exact fun h => h
  | exc v M1 => exact h
  | stuck => exact h
theorem Out.imp {α : Type} {r : Res α} {k k' : α → List Addr → Mem → Hp → Prop} {w' : WM} (h : Out K β M H r k w) (hk : ∀ a β' M' H', Stp K β M H β' M' H' → k a β' M' H' → k' a β' M' H') (hw : ∀ a β' M' H', Stp K β M H β' M' H' → w a β' M' H' → w' a β' M' H') : Out K β M H r k' w' := by
  cases r with
  | ok a M1 => exact fun β' H' s => hk _ _ _ _ s (h β' H' s)
  | exc a M1 => exact fun β' H' s => hw _ _ _ _ s (h β' H' s)
  | stuck => exact h
theorem Out.ok {α : Type} {a : α} {k : α → List Addr → Mem → Hp → Prop} (R : RelH K β M H) (h : Out K β M H (.ok a M) k w) : k a β M H := h β H (.refl R)
/-- a value's end -/
def kQ (K : PySem.W.Frag) (Q : V → Hp → Prop) : PV → List Addr → Mem → Hp → Prop := fun v β' _ H' => ∀ x, Rep K H' β' v x → Q x H'
def kA (K : PySem.W.Frag) (Q : List V → Hp → Prop) : List PV → List Addr → Mem → Hp → Prop := fun v β' _ H' => ∀ x, Reps K H' β' v x → Q x H'
def kB (Q : Bool → Hp → Prop) : Bool → List Addr → Mem → Hp → Prop := fun b _ _ H' => Q b H'
theorem Out.trim {r : Res PV} {Q : V → Hp → Prop} (R : RelH K β M H) (h : Out K β M H (trim M r) (kQ K Q) w) : Out K β M H r (kQ K Q) w := by
  cases r with
  | ok v M1 =>
    intro β1 H1 s x hx
    obtain ⟨v', β2, M2, e, t, hr⟩ := trim_ok R s v
    have h : Out K β M H (trimV M v M1) (kQ K Q) w := h
    rw [e] at h
    exact h β2 H1 t x (hr x hx)
  | exc v M1 => exact h
  | stuck => exact h
/-- trimmed, then bound -/
theorem Out.trimB {γ : Type} {r : Res PV} {f : PV → Mem → Res γ} {k : γ → List Addr → Mem → Hp → Prop} (R : RelH K β M H) (h : Out K β M H ((Mn.trim M r).bind f) k w) :
    Out K β M H r (fun v β1 M1 H1 => ∃ v' β2 M2, Stp K β M H β2 M2 H1 ∧ (∀ x, Rep K H1 β1 v x → Rep K H1 β2 v' x) ∧ Out K β2 M2 H1 (f v' M2) k w) w := by
  cases r with
  | ok v M1 =>
    intro β1 H1 s
    obtain ⟨v', β2, M2, e, t, hr⟩ := trim_ok R s v
    have h : Out K β M H ((trimV M v M1).bind f) k w := h
    rw [e] at h
    have h : Out K β M H (f v' M2) k w := h
    refine ⟨v', β2, M2, t, hr, ?_⟩
    revert h
    cases f v' M2 with
    | ok b M3 => exact fun h β3 H3 u => h β3 H3 (t.trans u R)
    | exc b M3 => exact fun h β3 H3 u => h β3 H3 (t.trans u R)
    | stuck => exact fun h => h
  | exc v M1 => exact h
  | stuck => exact h
end

/-! ### slots -/
def RelS (K : PySem.W.Frag) (H : Hp) (β : List Addr) (mσ : Mn.St) (σ : L2.St) : Prop :=
  mσ.length = σ.length ∧ ∀ (i : Nat) (v : PV), mσ[i]? = some (some v) → ∃ x, σ[i]? = some (some x) ∧ Rep K H β v x
section
variable {K : PySem.W.Frag} {β β1 : List Addr} {M M1 : Mem} {H H1 : Hp} {mσ : Mn.St} {σ : L2.St}
theorem RelS.stp (h : RelS K H β mσ σ) (R : RelH K β M H) (s : Stp K β M H β1 M1 H1) : RelS K H1 β1 mσ σ :=
  ⟨h.1, fun i v e => by
    obtain ⟨x, e1, r⟩ := h.2 i v e
    exact ⟨x, e1, s.rep R r⟩⟩
theorem RelS.set (h : RelS K H β mσ σ) {i : Nat} {v : PV} {x : V} (r : Rep K H β v x) : RelS K H β (mσ.set i (some v)) (σ.set i (some x)) := by
  refine ⟨by rw [List.length_set, List.length_set]; exact h.1, fun j u e => ?_⟩
  by_cases hj : i = j
  · subst hj
    by_cases hl : i < mσ.length
    · rw [List.getElem?_set_self hl] at e
      cases e
      exact ⟨x, by rw [List.getElem?_set_self (by rw [← h.1]; exact hl)], r⟩
    · rw [List.getElem?_eq_none (by rw [List.length_set]; omega)] at e; cases e
  · rw [List.getElem?_set_ne hj] at e
    obtain ⟨y, e1, r1⟩ := h.2 j u e
    exact ⟨y, by rw [List.getElem?_set_ne hj]; exact e1, r1⟩
theorem RelS.wipe (h : RelS K H β mσ σ) : ∀ vs : List Nat, RelS K H β (Mn.wipe mσ vs) (L2.wipe σ vs)
  | [] => h
  | v :: vs => by
    have ih := RelS.wipe h vs
    unfold Mn.wipe L2.wipe
    refine ⟨by rw [List.length_set, List.length_set]; exact ih.1, fun j u e => ?_⟩
    by_cases hj : v = j
    · subst hj
      by_cases hl : v < (Mn.wipe mσ vs).length
      · rw [List.getElem?_set_self hl] at e; cases e
      · rw [List.getElem?_eq_none (by rw [List.length_set]; omega)] at e; cases e
    · rw [List.getElem?_set_ne hj] at e
      obtain ⟨y, e1, r1⟩ := ih.2 j u e
      exact ⟨y, by rw [List.getElem?_set_ne hj]; exact e1, r1⟩
end

/-! ### readings -/
/-- wishes for what is raised, by the slots -/
abbrev WS := L2.St → WM
def tE (K : PySem.W.Frag) (w : WS) (ev : Mn.Ev) : TE := fun σ H Q => ∃ mσ β M, RelH K β M H ∧ RelS K H β mσ σ ∧ Out K β M H (ev mσ M) (kQ K Q) (w σ)
def tAs (K : PySem.W.Frag) (w : WS) (ev : Mn.St → Mem → Res (List PV)) : TA := fun σ H Q => ∃ mσ β M, RelH K β M H ∧ RelS K H β mσ σ ∧ Out K β M H (ev mσ M) (kA K Q) (w σ)
def tTs (K : PySem.W.Frag) (w : WS) (ev : Mn.St → Mem → Res Bool) : TT := fun σ H Q => ∃ mσ β M, RelH K β M H ∧ RelS K H β mσ σ ∧ Out K β M H (ev mσ M) (kB Q) (w σ)
theorem PE.imp {X : Cx} {e : Expr} {t t' : TE} (h : PE X e t') (i : ∀ σ H Q, t σ H Q → t' σ H Q) : PE X e t := ⟨fun pins s σ H Q I q => h.run pins s σ H Q I (i σ H Q q)⟩
theorem PT.imp {X : Cx} {e : Expr} {t t' : TT} (h : PT X e t') (i : ∀ σ H Q, t σ H Q → t' σ H Q) : PT X e t := ⟨fun pins s σ H Q I q => h.run pins s σ H Q I (i σ H Q q)⟩
theorem PW.imp {X : Cx} {e : Expr} {t t' : TT} (h : PW X e t') (i : ∀ σ H Q, t σ H Q → t' σ H Q) : PW X e t := ⟨fun wh pins s σ H Q I q => h.run wh pins s σ H Q I (i σ H Q q)⟩
theorem PA.imp {X : Cx} {e : List Expr} {t t' : TA} (h : PA X e t') (i : ∀ σ H Q, t σ H Q → t' σ H Q) : PA X e t := ⟨fun pos pins s σ H Q I q => h.run pos pins s σ H Q I (i σ H Q q)⟩
theorem PS.imp {X : Cx} {e : Stmt} {t t' : TS} (h : PS X e t') (i : ∀ D σ H, t D σ H → t' D σ H) : PS X e t := ⟨fun pins s σ H D I q => h.run pins s σ H D I (i D σ H q)⟩
theorem PSs.imp {X : Cx} {e : List Stmt} {t t' : TS} (h : PSs X e t') (i : ∀ D σ H, t D σ H → t' D σ H) : PSs X e t := ⟨fun pins s σ H D I q => h.run pins s σ H D I (i D σ H q)⟩
theorem PO.imp {X : Cx} {e : Option Expr} {t t' : TO} (h : PO X e t') (i : ∀ σ H Q, t σ H Q → t' σ H Q) : PO X e t := ⟨fun pins s σ H Q I q => h.run pins s σ H Q I (i σ H Q q)⟩

section
variable {K : PySem.W.Frag} {β : List Addr} {M : Mem} {H : Hp} {mσ : Mn.St} {σ : L2.St} {w : WS}
/-- one value, then the rest -/
theorem tE_step {γ : Type} {ev : Mn.Ev} {f : PV → Mem → Res γ} {k : γ → List Addr → Mem → Hp → Prop} (R : RelH K β M H) (S : RelS K H β mσ σ) (h : Out K β M H ((ev mσ M).bind f) k (w σ)) :
    tE K w ev σ H fun x H1 => ∃ v β1 M1, Stp K β M H β1 M1 H1 ∧ Rep K H1 β1 v x ∧ Out K β1 M1 H1 (f v M1) k (w σ) :=
  ⟨mσ, β, M, R, S, (h.bind R).imp (fun a β1 M1 H1 s q x hx => ⟨a, β1, M1, s, hx, q⟩) fun _ _ _ _ _ q => q⟩
theorem tA_step {γ : Type} {ev : Mn.St → Mem → Res (List PV)} {f : List PV → Mem → Res γ} {k : γ → List Addr → Mem → Hp → Prop} (R : RelH K β M H) (S : RelS K H β mσ σ) (h : Out K β M H ((ev mσ M).bind f) k (w σ)) :
    tAs K w ev σ H fun x H1 => ∃ v β1 M1, Stp K β M H β1 M1 H1 ∧ Reps K H1 β1 v x ∧ Out K β1 M1 H1 (f v M1) k (w σ) :=
  ⟨mσ, β, M, R, S, (h.bind R).imp (fun a β1 M1 H1 s q x hx => ⟨a, β1, M1, s, hx, q⟩) fun _ _ _ _ _ q => q⟩
theorem tT_step {γ : Type} {ev : Mn.St → Mem → Res Bool} {f : Bool → Mem → Res γ} {k : γ → List Addr → Mem → Hp → Prop} (R : RelH K β M H) (S : RelS K H β mσ σ) (h : Out K β M H ((ev mσ M).bind f) k (w σ)) :
    tTs K w ev σ H fun b H1 => ∃ β1 M1, Stp K β M H β1 M1 H1 ∧ Out K β1 M1 H1 (f b M1) k (w σ) :=
  ⟨mσ, β, M, R, S, (h.bind R).imp (fun a β1 M1 H1 s q => ⟨β1, M1, s, q⟩) fun _ _ _ _ _ q => q⟩
theorem tE_trim {ev : Mn.Ev} {Q : VK} (h : tE K w (fun σ M => trim M (ev σ M)) σ H Q) : tE K w ev σ H Q := by
  obtain ⟨mσ, β, M, R, S, o⟩ := h
  exact ⟨mσ, β, M, R, S, o.trim R⟩
/-- trimmed, then the rest -/
theorem tE_stepT {γ : Type} {ev : Mn.Ev} {f : PV → Mem → Res γ} {k : γ → List Addr → Mem → Hp → Prop} (R : RelH K β M H) (S : RelS K H β mσ σ) (h : Out K β M H ((trim M (ev mσ M)).bind f) k (w σ)) :
    tE K w ev σ H fun x H1 => ∃ v β1 M1, Stp K β M H β1 M1 H1 ∧ Rep K H1 β1 v x ∧ Out K β1 M1 H1 (f v M1) k (w σ) :=
  ⟨mσ, β, M, R, S, (h.trimB R).imp (fun a β1 M1 H1 s q x hx => by
    obtain ⟨v', β2, M2, t, hr, o⟩ := q
    exact ⟨v', β2, M2, t, hr x hx, o⟩) fun _ _ _ _ _ q => q⟩
end

/-! ### values that are ready -/
section
variable {K : PySem.W.Frag} {β : List Addr} {M : Mem} {H : Hp} {Q : V → Hp → Prop} {w : WM}
theorem Out.flat {v : PV} {x : V} (R : RelH K β M H) (h : Out K β M H (.ok v M) (kQ K Q) w) (r : Rep K H β v x) : Q x H := h.ok R x r
theorem Out.tup {ps : List PV} {xs : List V} (R : RelH K β M H) (h : Out K β M H (.ok (.tup ps) M) (kQ K Q) w) (r : Reps K H β ps xs) {p : Addr} {o : Obj} (hp : H p = none) (ho : o.dict = none) : Q (.ref p) (upd H p (.frz o (.tup xs))) := by
  refine h β _ (stp_new R hp) _ (rep_tup.mpr ⟨p, xs, rfl, .inl ⟨o, upd_same, ho⟩, ?_⟩)
  exact r.mono (fun _ _ => tup_upd_new hp) fun _ _ h => h
theorem Out.lst {ps : List PV} {xs : List V} (R : RelH K β M H) (h : Out K β M H (.ok (.ref M.sz) (M.push (.lst ps))) (kQ K Q) w) (r : Reps K H β ps xs) {p : Addr} (hp : H p = none) : Q (.ref p) (upd H p (.lst xs)) :=
  h _ _ (stp_push R hp r) _ (rep_ref.mpr ⟨p, rfl, push_at R⟩)
theorem Out.put {n : Nat} {a : Addr} {xs0 xs : List PV} {ys0 ys : List V} {e : Nat} {α : Type} {r : α} {k : α → List Addr → Mem → Hp → Prop} (R : RelH K β M H) (h : Out K β M H (.ok r (M.put n (.lst xs) e)) k w) (hg : M.get n = some (.lst xs0)) (hb : β[n]? = some a) (hp : H a = some (.lst ys0)) (hr : Reps K H β xs ys)
    (hc : e = 0 → ∀ b, xs0.all (PV.bnd b) = true → xs.all (PV.bnd b) = true) : k r β (M.put n (.lst xs) e) (upd H a (.lst ys)) := h _ _ (stp_put R hg hb hp hr hc)
/-- the items of a list that is there -/
theorem RelH.list (R : RelH K β M H) {n : Nat} {xs : List PV} (h : M.lst? n = some xs) : ∃ a ys, β[n]? = some a ∧ SqL K H a ys ∧ Reps K H β xs ys := by
  unfold Mem.lst? at h
  split at h
  · rename_i ys e
    cases h
    obtain ⟨a, e1, ys, e2, e3⟩ := R.obj n _ e
    exact ⟨a, ys, e1, SqL.of e2, e3⟩
  · rename_i ys e
    cases h
    obtain ⟨a, e1, ys, e2, e3⟩ := R.obj n _ e
    exact ⟨a, ys, e1, e2.sq, e3⟩
  · cases h
theorem RelH.lst (R : RelH K β M H) {n : Nat} {xs : List PV} (h : M.get n = some (.lst xs)) : ∃ a ys, β[n]? = some a ∧ H a = some (.lst ys) ∧ Reps K H β xs ys := by
  obtain ⟨a, e1, ys, e2, e3⟩ := R.obj n _ h
  exact ⟨a, ys, e1, e2, e3⟩
theorem Rep.ref_of {n : Nat} {x : V} {a : Addr} (h : Rep K H β (.ref n) x) (e : β[n]? = some a) : x = .ref a := by
  obtain ⟨b, e1, e2⟩ := rep_ref.mp h
  rw [e] at e2; cases e2
  exact e1
end
end Mn
end
section
set_option Elab.async false
set_option linter.all false
set_option maxRecDepth 100000
set_option maxHeartbeats 4000000
namespace Mn
open PySem PySem.Spec PyProof.Rows L2

/-! ### plain data -/
theorem toDs_eq : ∀ xs : List PV, PV.toD.toDs xs = xs.map PV.toD
  | [] => by rw [PV.toD.toDs]; rfl
  | x :: xs => by rw [PV.toD.toDs, toDs_eq xs]; rfl
theorem toD_tup (xs : List PV) : (PV.tup xs).toD = .tuple (PV.toD.toDs xs) := by rw [PV.toD]
theorem dat_tup (xs : List PV) (d : Nat) : (PV.tup xs).dat d = (decide (0 < d) && PV.dat.dats xs d.pred) := by rw [PV.dat]; rfl
theorem dats_nil (d : Nat) : PV.dat.dats [] d = true := by rw [PV.dat.dats]
theorem dats_cons (x : PV) (xs : List PV) (d : Nat) : PV.dat.dats (x :: xs) d = (x.dat d && PV.dat.dats xs d) := by rw [PV.dat.dats]
theorem dats_eq (d : Nat) : ∀ xs : List PV, PV.dat.dats xs d = xs.all (fun x => x.dat d)
  | [] => dats_nil d
  | x :: xs => by rw [dats_cons, dats_eq d xs, List.all_cons]
theorem strOk_of {x : Str} (h : (x.cps.toList.all fun c => decide (c < 1114112)) = true) : PyData.strOk x = true := by
  unfold PyData.strOk
  rw [← Array.all_toList]
  exact h
mutual
theorem dat_can : ∀ (v : PV) (d : Nat), v.dat d = true → v.toD.canLay0 = true ∧ v.toD.depth ≤ d
  | .non, d, h => by rw [PV.toD]; exact ⟨by rw [PyData.canLay0], by rw [PyData.depth]; exact Nat.zero_le _⟩
  | .bl _, d, h => by rw [PV.toD]; exact ⟨by rw [PyData.canLay0], by rw [PyData.depth]; exact Nat.zero_le _⟩
  | .int _, d, h => by rw [PV.toD]; exact ⟨by rw [PyData.canLay0], by rw [PyData.depth]; exact Nat.zero_le _⟩
  | .str x, d, h => by
    rw [PV.toD]
    rw [PV.dat] at h
    exact ⟨by rw [PyData.canLay0]; exact strOk_of h, by rw [PyData.depth]; exact Nat.zero_le _⟩
  | .tup xs, d, h => by
    rw [toD_tup]
    rw [dat_tup, Bool.and_eq_true, decide_eq_true_eq] at h
    obtain ⟨h1, h2⟩ := dats_can xs _ h.2
    refine ⟨by rw [PyData.canLay0]; exact h1, ?_⟩
    rw [PyData.depth]
    have := Nat.succ_pred_eq_of_pos h.1
    omega
  | .ref _, d, h => by rw [PV.dat] at h; cases h
theorem dats_can : ∀ (vs : List PV) (d : Nat), PV.dat.dats vs d = true → PyData.canLayAll0 (PV.toD.toDs vs) = true ∧ PyData.depthAll (PV.toD.toDs vs) ≤ d
  | [], d, h => by rw [PV.toD.toDs]; exact ⟨by rw [PyData.canLayAll0], by rw [PyData.depthAll]; exact Nat.zero_le _⟩
  | v :: vs, d, h => by
    rw [dats_cons, Bool.and_eq_true] at h
    obtain ⟨h1, h2⟩ := dat_can v d h.1
    obtain ⟨h3, h4⟩ := dats_can vs d h.2
    rw [PV.toD.toDs]
    refine ⟨by rw [PyData.canLayAll0, h1, h3]; rfl, ?_⟩
    rw [PyData.depthAll]
    exact Nat.max_le.mpr ⟨h2, h4⟩
end
section
variable {K : PySem.W.Frag} {β : List Addr} {M : Mem} {H : Hp}
mutual
theorem dat_dp : ∀ (v : PV) (d : Nat) (x : V), v.dat d = true → Rep K H β v x → Dp K H x v.toD
  | .non, d, x, h, r => by rw [rep_non.mp r, PV.toD]; exact .non
  | .bl _, d, x, h, r => by rw [rep_bl.mp r, PV.toD]; exact .bl _
  | .int _, d, x, h, r => by rw [rep_int.mp r, PV.toD]; exact .int _
  | .str _, d, x, h, r => by rw [rep_str.mp r, PV.toD]; exact .str _
  | .tup xs, d, x, h, r => by
    obtain ⟨a, ys, rfl, ht, rs⟩ := rep_tup.mp r
    rw [dat_tup, Bool.and_eq_true] at h
    rw [toD_tup]
    exact .tup ht.sq (dats_dp xs _ ys h.2 rs)
  | .ref _, d, x, h, r => by rw [PV.dat] at h; cases h
theorem dats_dp : ∀ (vs : List PV) (d : Nat) (xs : List V), PV.dat.dats vs d = true → Reps K H β vs xs → DpAll K H xs (PV.toD.toDs vs)
  | [], d, xs, h, r => by rw [reps_nil.mp r, PV.toD.toDs]; exact .nil
  | v :: vs, d, xs, h, r => by
    obtain ⟨x, t, rfl, r1, r2⟩ := reps_cons.mp r
    rw [dats_cons, Bool.and_eq_true] at h
    rw [PV.toD.toDs]
    exact .cons (dat_dp v d x h.1 r1) (dats_dp vs d t h.2 r2)
end
end
mutual
theorem eqv_toD : ∀ (v u : PV) (d e : Nat), v.dat d = true → u.dat e = true → PyData.eqv v.toD u.toD = v.eqv u
  | .ref _, u, d, e, h, g => by rw [PV.dat] at h; cases h
  | v, .ref _, d, e, h, g => by rw [PV.dat] at g; cases g
  | .tup xs, .tup ys, d, e, h, g => by
    rw [dat_tup, Bool.and_eq_true] at h g
    rw [toD_tup, toD_tup, PyData.eqv, PV.eqv]
    exact eqvs_toD xs ys _ _ h.2 g.2
  | .tup xs, .non, d, e, h, g => by rw [toD_tup]; simp [PV.toD, PyData.eqv, PV.eqv]
  | .tup xs, .bl _, d, e, h, g => by rw [toD_tup]; simp [PV.toD, PyData.eqv, PV.eqv]
  | .tup xs, .int _, d, e, h, g => by rw [toD_tup]; simp [PV.toD, PyData.eqv, PV.eqv]
  | .tup xs, .str _, d, e, h, g => by rw [toD_tup]; simp [PV.toD, PyData.eqv, PV.eqv]
  | .non, .tup xs, d, e, h, g => by rw [toD_tup]; simp [PV.toD, PyData.eqv, PV.eqv]
  | .bl _, .tup xs, d, e, h, g => by rw [toD_tup]; simp [PV.toD, PyData.eqv, PV.eqv]
  | .int _, .tup xs, d, e, h, g => by rw [toD_tup]; simp [PV.toD, PyData.eqv, PV.eqv]
  | .str _, .tup xs, d, e, h, g => by rw [toD_tup]; simp [PV.toD, PyData.eqv, PV.eqv]
  | .non, .non, d, e, h, g => by simp [PV.toD, PyData.eqv, PV.eqv]
  | .non, .bl _, d, e, h, g => by simp [PV.toD, PyData.eqv, PV.eqv]
  | .non, .int _, d, e, h, g => by simp [PV.toD, PyData.eqv, PV.eqv]
  | .non, .str _, d, e, h, g => by simp [PV.toD, PyData.eqv, PV.eqv]
  | .bl _, .non, d, e, h, g => by simp [PV.toD, PyData.eqv, PV.eqv]
  | .bl _, .bl _, d, e, h, g => by simp [PV.toD, PyData.eqv, PV.eqv]
  | .bl _, .int _, d, e, h, g => by simp [PV.toD, PyData.eqv, PV.eqv]
  | .bl _, .str _, d, e, h, g => by simp [PV.toD, PyData.eqv, PV.eqv]
  | .int _, .non, d, e, h, g => by simp [PV.toD, PyData.eqv, PV.eqv]
  | .int _, .bl _, d, e, h, g => by simp [PV.toD, PyData.eqv, PV.eqv]
  | .int _, .int _, d, e, h, g => by simp [PV.toD, PyData.eqv, PV.eqv]
  | .int _, .str _, d, e, h, g => by simp [PV.toD, PyData.eqv, PV.eqv]
  | .str _, .non, d, e, h, g => by simp [PV.toD, PyData.eqv, PV.eqv]
  | .str _, .bl _, d, e, h, g => by simp [PV.toD, PyData.eqv, PV.eqv]
  | .str _, .int _, d, e, h, g => by simp [PV.toD, PyData.eqv, PV.eqv]
  | .str _, .str _, d, e, h, g => by simp [PV.toD, PyData.eqv, PV.eqv]
theorem eqvs_toD : ∀ (vs us : List PV) (d e : Nat), PV.dat.dats vs d = true → PV.dat.dats us e = true → PyData.eqvAll (PV.toD.toDs vs) (PV.toD.toDs us) = PV.eqv.eqvs vs us
  | [], [], d, e, h, g => by rw [PV.toD.toDs, PyData.eqvAll, PV.eqv.eqvs]
  | [], u :: us, d, e, h, g => by rw [PV.toD.toDs, PV.toD.toDs, PyData.eqvAll]; simp [PV.eqv.eqvs]
  | v :: vs, [], d, e, h, g => by rw [PV.toD.toDs, PV.toD.toDs, PyData.eqvAll]; simp [PV.eqv.eqvs]
  | v :: vs, u :: us, d, e, h, g => by
    rw [dats_cons, Bool.and_eq_true] at h g
    rw [PV.toD.toDs, PV.toD.toDs, PyData.eqvAll, PV.eqv.eqvs, eqv_toD v u d e h.1 g.1, eqvs_toD vs us d e h.2 g.2]
end
theorem shaped_of {v : PV} (h : shallow v = true) : SeqAt.shaped v.toD = true := by
  obtain ⟨h1, h2⟩ := dat_can v 60 h
  unfold SeqAt.shaped
  rw [h1, decide_eq_true (by omega)]
  rfl
theorem shallows {xs : List PV} (h : xs.all shallow = true) : PV.dat.dats xs 60 = true := by rw [dats_eq]; exact h
theorem shaped_list {xs : List PV} (h : xs.all shallow = true) : SeqAt.shaped (.list (PV.toD.toDs xs)) = true := by
  obtain ⟨h1, h2⟩ := dats_can xs 60 (shallows h)
  unfold SeqAt.shaped
  rw [PyData.canLay0, h1, PyData.depth, decide_eq_true (by omega)]
  rfl
theorem shaped_tup {xs : List PV} (h : xs.all shallow = true) : SeqAt.shaped (.tuple (PV.toD.toDs xs)) = true := by
  obtain ⟨h1, h2⟩ := dats_can xs 60 (shallows h)
  unfold SeqAt.shaped
  rw [PyData.canLay0, h1, PyData.depth, decide_eq_true (by omega)]
  rfl
section
variable {K : PySem.W.Frag} {β : List Addr} {M : Mem} {H : Hp}
theorem shal_dp {v : PV} {x : V} (h : shallow v = true) (r : Rep K H β v x) : Dp K H x v.toD := dat_dp v 60 x h r
/-- the data of the two sides, and what == says -/
theorem eqM_data (R : RelH K β M H) {v u : PV} {x y : V} {b : Bool} (h : eqM v u M = some b) (rv : Rep K H β v x) (ru : Rep K H β u y) :
    ∃ d e, Dp K H x d ∧ Dp K H y e ∧ SeqAt.shaped d = true ∧ SeqAt.shaped e = true ∧ PyData.eqv d e = b := by
  have lst : ∀ {n : Nat} {xs : List PV} {z : V}, M.lst? n = some xs → xs.all shallow = true → Rep K H β (.ref n) z → Dp K H z (.list (PV.toD.toDs xs)) := fun {n xs z} h1 h2 h3 => by
    obtain ⟨a, ys, e1, e2, e3⟩ := R.list h1
    rw [h3.ref_of e1]
    exact .lst e2 (dats_dp xs 60 ys (shallows h2) e3)
  have flat : ∀ {v u : PV}, (∀ n, v ≠ .ref n) → (∀ n, u ≠ .ref n) → eqM v u M = some b → Rep K H β v x → Rep K H β u y → ∃ d e, Dp K H x d ∧ Dp K H y e ∧ SeqAt.shaped d = true ∧ SeqAt.shaped e = true ∧ PyData.eqv d e = b := fun {v u} n1 n2 h rv ru => by
    have h' : (if shallow v && shallow u then some (v.eqv u) else none) = some b := by
      rw [← h]
      cases v <;> cases u <;> first | rfl | exact absurd rfl (n1 _) | exact absurd rfl (n2 _)
    split at h'
    · rename_i hc
      rw [Bool.and_eq_true] at hc
      cases h'
      exact ⟨_, _, shal_dp hc.1 rv, shal_dp hc.2 ru, shaped_of hc.1, shaped_of hc.2, eqv_toD v u 60 60 hc.1 hc.2⟩
    · cases h'
  have left : ∀ {n : Nat} {u : PV}, (∀ n, u ≠ .ref n) → eqM (.ref n) u M = some b → Rep K H β (.ref n) x → Rep K H β u y → ∃ d e, Dp K H x d ∧ Dp K H y e ∧ SeqAt.shaped d = true ∧ SeqAt.shaped e = true ∧ PyData.eqv d e = b := fun {n u} n2 h rv ru => by
    have h' : (match M.lst? n with | some xs => if xs.all shallow && shallow u then some false else none | none => none) = some b := by
      rw [← h]
      cases u <;> first | rfl | exact absurd rfl (n2 _)
    split at h'
    · rename_i xs e
      split at h'
      · rename_i hc
        rw [Bool.and_eq_true] at hc
        cases h'
        refine ⟨_, _, lst e hc.1 rv, shal_dp hc.2 ru, shaped_list hc.1, shaped_of hc.2, ?_⟩
        cases u with
        | tup ys => rw [toD_tup, PyData.eqv]
        | ref n => exact absurd rfl (n2 n)
        | _ => simp [PV.toD, PyData.eqv]
      · cases h'
    · cases h'
  cases v with
  | ref n =>
    cases u with
    | ref m =>
      have h' : (match M.lst? n, M.lst? m with | some xs, some ys => if xs.all shallow && ys.all shallow then some (PV.eqv.eqvs xs ys) else none | _, _ => none) = some b := h
      split at h'
      · rename_i xs ys e1 e2
        split at h'
        · rename_i hc
          rw [Bool.and_eq_true] at hc
          cases h'
          refine ⟨_, _, lst e1 hc.1 rv, lst e2 hc.2 ru, shaped_list hc.1, shaped_list hc.2, ?_⟩
          rw [PyData.eqv]
          exact eqvs_toD xs ys 60 60 (shallows hc.1) (shallows hc.2)
        · cases h'
      · cases h'
    | _ => exact left (fun n e => by cases e) h rv ru
  | _ =>
    cases u with
    | ref m =>
      have h' : ∀ v : PV, (∀ n, v ≠ .ref n) → eqM v (.ref m) M = some b → Rep K H β v x → ∃ d e, Dp K H x d ∧ Dp K H y e ∧ SeqAt.shaped d = true ∧ SeqAt.shaped e = true ∧ PyData.eqv d e = b := fun v n1 h rv => by
        have h' : (match M.lst? m with | some ys => if ys.all shallow && shallow v then some false else none | none => none) = some b := by
          rw [← h]
          cases v <;> first | rfl | exact absurd rfl (n1 _)
        split at h'
        · rename_i xs e
          split at h'
          · rename_i hc
            rw [Bool.and_eq_true] at hc
            cases h'
            refine ⟨_, _, shal_dp hc.2 rv, lst e hc.1 ru, shaped_of hc.2, shaped_list hc.1, ?_⟩
            cases v with
            | tup ys => rw [toD_tup, PyData.eqv]
            | ref n => exact absurd rfl (n1 n)
            | _ => simp [PV.toD, PyData.eqv]
          · cases h'
        · cases h'
      exact h' _ (fun n e => by cases e) h rv
    | _ => exact flat (fun n e => by cases e) (fun n e => by cases e) h rv ru
end
end Mn
end
section
set_option Elab.async false
set_option linter.all false
set_option maxRecDepth 100000
set_option maxHeartbeats 4000000
namespace Mn
open PySem PySem.Spec PyProof.Rows L2

/-! ### operations, by values -/
def rM (K : PySem.W.Frag) (f : PV → PV → Mem → Res PV) : R2 := fun x y H Q => ∃ v u β M w, RelH K β M H ∧ Rep K H β v x ∧ Rep K H β u y ∧ Out K β M H (f v u M) (kQ K Q) w
theorem LIM_eq : LIM = sizeLine := by rw [sizeLine_eq]; rfl

section
variable {X : Cx} {pins : List (Addr × Obj)} {σ : L2.St} {H : Hp} {s : Shared}
def tupObj (us : List Value) : Obj := { cls := .type "tuple", data := .seq us.toArray }
/-- a new tuple is laid -/
theorem newTup {xs : List V} {us : List Value} (I : Inv X pins σ H s) (r : Vals xs us) (hz : xs.length ≤ sizeLine) :
    Inv X pins σ (upd H s.heap.objs.size (.frz (tupObj us) (.tup xs))) { s with heap := s.heap.push (tupObj us) } :=
  I.laid (t' := s.toks) (fun _ _ e => Heap.get?_push_of_some _ e) (Nat.le_refl _) ⟨Heap.get?_push_size _ rfl, hz, us, r, IsTup.new _ _⟩
theorem op_addM : OpR X (binaryOp .Add) (rM X.K (binM .Add)) := by
  intro pins s σ H x y xv yv Q I rx ry h
  obtain ⟨v, u, β, M, w, R, hv, hu, o⟩ := h
  cases v with
  | int i =>
    cases u with
    | int j =>
      rw [rep_int] at hv hu; subst hv hu
      exact op_add pins s σ H _ _ _ _ Q I rx ry ⟨i, j, rfl, rfl, o.flat R (rep_int.mpr rfl)⟩
    | _ => exact o.elim
  | str i =>
    cases u with
    | str j =>
      rw [rep_str] at hv hu; subst hv hu
      simp only [binM] at o
      split at o
      · rename_i hz
        exact op_add_str pins s σ H _ _ _ _ Q I rx ry ⟨i, j, rfl, rfl, by rw [← LIM_eq]; exact hz, o.flat R (rep_str.mpr rfl)⟩
      · exact o.elim
    | _ => exact o.elim
  | tup ps =>
    cases u with
    | tup qs =>
      obtain ⟨a, xs, rfl, ta, ra⟩ := rep_tup.mp hv
      obtain ⟨b, ys, rfl, tb, rb⟩ := rep_tup.mp hu
      simp only [binM] at o
      split at o
      · rename_i hz
        rw [LIM_eq, ra.length, rb.length] at hz
        cases rx
        cases ry
        obtain ⟨its, r1, p1, _⟩ := I.tuple ta.sq
        obtain ⟨its2, r2, p2, _⟩ := I.tuple tb.sq
        by_cases hx : xs = []
        · subst hx
          cases r1
          have e0 : ps = [] := List.eq_nil_of_length_eq_zero ra.length
          subst e0
          exact cat_tup0 p1 p2 ⟨.ref b, H, I, rfl, o.flat R (rep_tup.mpr ⟨b, ys, rfl, tb, rb⟩)⟩
        · refine HT.cat_tup p1 p2 (fun z => hx (r1.nil_iff.mp z)) (fun z => ?_) (fun z => ?_) (by rw [← r1.length, ← r2.length]; exact hz)
          · have e1 := r2.nil_iff.mp z
            subst e1
            have e0 : qs = [] := List.eq_nil_of_length_eq_zero rb.length
            subst e0
            rw [List.append_nil] at o
            exact ⟨.ref a, H, I, rfl, o.flat R (rep_tup.mpr ⟨a, xs, rfl, ta, ra⟩)⟩
          · exact ⟨.ref s.heap.objs.size, _, newTup I (r1.append r2) (by rw [List.length_append]; exact hz), rfl, o.tup R (ra.append rb) (I.hok.fresh (Nat.le_refl _)) rfl⟩
      · exact o.elim
    | _ => exact o.elim
  | ref n =>
    cases u with
    | ref m =>
      simp only [binM] at o
      split at o
      · rename_i xs ys e1 e2
        split at o
        · rename_i hz
          obtain ⟨a, zs, b1, h1, r1⟩ := R.lst e1
          obtain ⟨b, ws, b2, h2, r2⟩ := R.lst e2
          rw [hv.ref_of b1] at rx
          rw [hu.ref_of b2] at ry
          exact op_cat pins s σ H _ _ _ _ Q I rx ry ⟨a, b, zs, ws, rfl, rfl, h1, h2, by rw [← LIM_eq, ← r1.length, ← r2.length]; exact hz, fun p hp => o.lst R (r1.append r2) hp⟩
        · exact o.elim
      · exact o.elim
    | _ => exact o.elim
  | _ => exact o.elim
theorem op_int {op : Operator} {C : Int → Int → Prop} {g : Int → Int → Int} (ho : OpR X (binaryOp op) (rI C fun i j => .int (g i j)))
    (hs : ∀ v u M, (∀ i j, v = .int i → u = .int j → False) → binM op v u M = .stuck) (hi : ∀ i j M, (C i j ∧ binM op (.int i) (.int j) M = .ok (.int (g i j)) M) ∨ binM op (.int i) (.int j) M = .stuck) : OpR X (binaryOp op) (rM X.K (binM op)) := by
  intro pins s σ H x y xv yv Q I rx ry h
  obtain ⟨v, u, β, M, w, R, hv, hu, o⟩ := h
  by_cases hc : ∀ i j, v = .int i → u = .int j → False
  · rw [hs v u M hc] at o; exact o.elim
  · have : ∃ i j, v = .int i ∧ u = .int j := by
      cases v with
      | int i =>
        cases u with
        | int j => exact ⟨i, j, rfl, rfl⟩
        | _ => exact absurd (fun i j _ e => by cases e) hc
      | _ => exact absurd (fun i j e _ => by cases e) hc
    obtain ⟨i, j, rfl, rfl⟩ := this
    rw [rep_int] at hv hu; subst hv hu
    rcases hi i j M with ⟨c, e⟩ | e
    · rw [e] at o
      exact ho pins s σ H _ _ _ _ Q I rx ry ⟨i, j, rfl, rfl, c, o.flat R (rep_int.mpr rfl)⟩
    · rw [e] at o; exact o.elim
theorem op_subM : OpR X (binaryOp .Sub) (rM X.K (binM .Sub)) := by
  refine op_int (C := fun _ _ => True) (g := fun i j => i - j) ?_ (fun v u M h => ?_) fun i j M => .inl ⟨trivial, rfl⟩
  · intro pins s σ H x y xv yv Q I rx ry h
    obtain ⟨i, j, e1, e2, _, q⟩ := h
    exact op_sub pins s σ H x y xv yv Q I rx ry ⟨i, j, e1, e2, q⟩
  · cases v <;> cases u <;> first | rfl | exact (h _ _ rfl rfl).elim
theorem op_mulM : OpR X (binaryOp .Mult) (rM X.K (binM .Mult)) := by
  refine op_int op_mul (fun v u M h => ?_) fun i j M => ?_
  · cases v <;> cases u <;> first | rfl | exact (h _ _ rfl rfl).elim
  · simp only [binM]
    by_cases c : isMul i j = true
    · rw [if_pos c]
      unfold isMul at c
      simp only [Bool.or_eq_true, Bool.and_eq_true, decide_eq_true_eq] at c
      exact .inl ⟨c, rfl⟩
    · rw [if_neg c]; exact .inr rfl
theorem op_divM : OpR X (binaryOp .FloorDiv) (rM X.K (binM .FloorDiv)) := by
  refine op_int op_fdiv (fun v u M h => ?_) fun i j M => ?_
  · cases v <;> cases u <;> first | rfl | exact (h _ _ rfl rfl).elim
  · simp only [binM]
    by_cases c : 0 < j ∧ j < 1073741824
    · rw [if_pos c]; exact .inl ⟨c, rfl⟩
    · rw [if_neg c]; exact .inr rfl
theorem op_modM : OpR X (binaryOp .Mod) (rM X.K (binM .Mod)) := by
  refine op_int op_mod (fun v u M h => ?_) fun i j M => ?_
  · cases v <;> cases u <;> first | rfl | exact (h _ _ rfl rfl).elim
  · simp only [binM]
    by_cases c : 0 < j
    · rw [if_pos c]; exact .inl ⟨c, rfl⟩
    · rw [if_neg c]; exact .inr rfl
theorem op_powM : OpR X (binaryOp .Pow) (rM X.K (binM .Pow)) := by
  refine op_int op_pow (fun v u M h => ?_) fun i j M => ?_
  · cases v <;> cases u <;> first | rfl | exact (h _ _ rfl rfl).elim
  · simp only [binM]
    by_cases c : 0 ≤ j ∧ j ≤ 1000000 ∧ i.natAbs < 2 ^ 64
    · rw [if_pos c]; exact .inl ⟨c, rfl⟩
    · rw [if_neg c]; exact .inr rfl
theorem op_shlM : OpR X (binaryOp .LShift) (rM X.K (binM .LShift)) := by
  refine op_int op_shl (fun v u M h => ?_) fun i j M => ?_
  · cases v <;> cases u <;> first | rfl | exact (h _ _ rfl rfl).elim
  · simp only [binM]
    by_cases c : 0 ≤ j ∧ j ≤ 1000000 ∧ i.natAbs < 2 ^ 64
    · rw [if_pos c]; exact .inl ⟨c, rfl⟩
    · rw [if_neg c]; exact .inr rfl
theorem op_shrM : OpR X (binaryOp .RShift) (rM X.K (binM .RShift)) := by
  refine op_int op_shr (fun v u M h => ?_) fun i j M => ?_
  · cases v <;> cases u <;> first | rfl | exact (h _ _ rfl rfl).elim
  · simp only [binM]
    by_cases c : 0 ≤ j
    · rw [if_pos c]; exact .inl ⟨c, rfl⟩
    · rw [if_neg c]; exact .inr rfl
theorem op_andM_ : OpR X (binaryOp .BitAnd) (rM X.K (binM .BitAnd)) := by
  refine op_int (C := fun _ _ => True) (g := fun i j => Builtin.bitAnd i j) ?_ (fun v u M h => ?_) fun i j M => .inl ⟨trivial, rfl⟩
  · intro pins s σ H x y xv yv Q I rx ry h
    obtain ⟨i, j, e1, e2, _, q⟩ := h
    exact op_and pins s σ H x y xv yv Q I rx ry ⟨i, j, e1, e2, q⟩
  · cases v <;> cases u <;> first | rfl | exact (h _ _ rfl rfl).elim
theorem op_noneM {op : Operator} (h : ∀ v u M, binM op v u M = .stuck) : OpR X (binaryOp op) (rM X.K (binM op)) := by
  intro pins s σ H x y xv yv Q I rx ry q
  obtain ⟨v, u, β, M, w, R, hv, hu, o⟩ := q
  rw [h] at o
  exact o.elim
theorem op_binM (op : Operator) : OpR X (binaryOp op) (rM X.K (binM op)) := by
  cases op with
  | Add => exact op_addM
  | Sub => exact op_subM
  | Mult => exact op_mulM
  | FloorDiv => exact op_divM
  | Mod => exact op_modM
  | Pow => exact op_powM
  | LShift => exact op_shlM
  | RShift => exact op_shrM
  | BitAnd => exact op_andM_
  | _ => exact op_noneM fun v u M => rfl

/-! ### comparisons -/
theorem op_eqM (hu : X.A.units + 65 < cLine) : OpR X (compareOp .Eq) (rM X.K (cmpM .Eq)) := by
  intro pins s σ H x y xv yv Q I rx ry h
  obtain ⟨v, u, β, M, w, R, hv, hu', o⟩ := h
  simp only [cmpM] at o
  split at o
  · rename_i b e
    obtain ⟨d, d', h1, h2, h3, h4, h5⟩ := eqM_data R e hv hu'
    exact op_eqD (by omega) pins s σ H x y xv yv Q I rx ry ⟨d, d', h1, h2, h3, h4, by rw [h5]; exact o.flat R (rep_bl.mpr rfl)⟩
  · exact o.elim
theorem op_neM (hu : X.A.units + 65 < cLine) : OpR X (compareOp .NotEq) (rM X.K (cmpM .NotEq)) := by
  intro pins s σ H x y xv yv Q I rx ry h
  obtain ⟨v, u, β, M, w, R, hv, hu', o⟩ := h
  simp only [cmpM] at o
  split at o
  · rename_i b e
    obtain ⟨d, d', h1, h2, h3, h4, h5⟩ := eqM_data R e hv hu'
    exact op_neD (by omega) pins s σ H x y xv yv Q I rx ry ⟨d, d', h1, h2, h3, h4, by rw [h5]; exact o.flat R (rep_bl.mpr rfl)⟩
  · exact o.elim
theorem any_toD {v : PV} (hv : shallow v = true) : ∀ {ys : List PV}, ys.all shallow = true → ((PV.toD.toDs ys).any fun z => PyData.eqv z v.toD) = ys.any fun y => y.eqv v
  | [], _ => by rw [PV.toD.toDs]; rfl
  | y :: ys, h => by
    rw [List.all_cons, Bool.and_eq_true] at h
    rw [PV.toD.toDs, List.any_cons, List.any_cons, eqv_toD y v 60 60 h.1 hv, any_toD hv h.2]
theorem inM_data {K : PySem.W.Frag} {β : List Addr} {M : Mem} (R : RelH K β M H) {v u : PV} {x y : V} {b : Bool} (h : inM v u M = some b) (rv : Rep K H β v x) (ru : Rep K H β u y) :
    ∃ d ds, Dp K H x d ∧ (Dp K H y (.list ds) ∨ Dp K H y (.tuple ds)) ∧ SeqAt.shaped d = true ∧ SeqAt.shaped (.list ds) = true ∧ (ds.any fun z => PyData.eqv z d) = b := by
  cases u with
  | tup ys =>
    simp only [inM] at h
    split at h
    · rename_i hc
      rw [Bool.and_eq_true] at hc
      cases h
      obtain ⟨a, zs, rfl, ht, rs⟩ := rep_tup.mp ru
      exact ⟨_, _, shal_dp hc.1 rv, .inr (.tup ht.sq (dats_dp ys 60 zs (shallows hc.2) rs)), shaped_of hc.1, shaped_list hc.2, any_toD hc.1 hc.2⟩
    · cases h
  | ref n =>
    simp only [inM] at h
    split at h
    · rename_i ys e
      split at h
      · rename_i hc
        rw [Bool.and_eq_true] at hc
        cases h
        obtain ⟨a, zs, e1, e2, e3⟩ := R.list e
        rw [ru.ref_of e1]
        exact ⟨_, _, shal_dp hc.1 rv, .inl (.lst e2 (dats_dp ys 60 zs (shallows hc.2) e3)), shaped_of hc.1, shaped_list hc.2, any_toD hc.1 hc.2⟩
      · cases h
    · cases h
  | _ => cases h
theorem room_in {d : PyData} {ds : List PyData} {A : Around} (sd : SeqAt.shaped d = true) (hu : A.units + 65 < cLine) : A.units + 1 + min (PyData.depthAll ds) d.depth < cLine := by
  have h1 := SeqAt.depth_of_shaped sd
  have h2 : min (PyData.depthAll ds) d.depth ≤ d.depth := Nat.min_le_right _ _
  omega
theorem canAll {ds : List PyData} (h : SeqAt.shaped (.list ds) = true) : PyData.canLayAll0 ds = true := SeqAt.canLay_of_shaped h
theorem op_inM (hu : X.A.units + 65 < cLine) : OpR X (compareOp .In) (rM X.K (cmpM .In)) := by
  intro pins s σ H x y xv yv Q I rx ry h
  obtain ⟨v, u, β, M, w, R, hv, hu', o⟩ := h
  simp only [cmpM] at o
  split at o
  · rename_i b e
    obtain ⟨d, ds, h1, h2, h3, h4, h5⟩ := inM_data R e hv hu'
    rw [← h5] at o
    obtain ⟨as, r1⟩ := Dp.reads I d x xv h1 rx
    rcases h2 with h2 | h2
    · obtain ⟨bs, r2⟩ := Dp.reads I _ y yv h2 ry
      exact SeqAt.in_list_reads r2 r1 (canAll h4) (SeqAt.canLay_of_shaped h3) (room_in h3 hu) ⟨.bl _, H, I, rfl, o.flat R (rep_bl.mpr rfl)⟩
    · obtain ⟨bs, r2⟩ := Dp.reads I _ y yv h2 ry
      exact SeqAt.in_tuple_reads r2 r1 (canAll h4) (SeqAt.canLay_of_shaped h3) (room_in h3 hu) ⟨.bl _, H, I, rfl, o.flat R (rep_bl.mpr rfl)⟩
  · exact o.elim
theorem op_notInM (hu : X.A.units + 65 < cLine) : OpR X (compareOp .NotIn) (rM X.K (cmpM .NotIn)) := by
  intro pins s σ H x y xv yv Q I rx ry h
  obtain ⟨v, u, β, M, w, R, hv, hu', o⟩ := h
  simp only [cmpM] at o
  split at o
  · rename_i b e
    obtain ⟨d, ds, h1, h2, h3, h4, h5⟩ := inM_data R e hv hu'
    rw [← h5] at o
    obtain ⟨as, r1⟩ := Dp.reads I d x xv h1 rx
    rcases h2 with h2 | h2
    · obtain ⟨bs, r2⟩ := Dp.reads I _ y yv h2 ry
      exact SeqAt.notIn_list_reads r2 r1 (canAll h4) (SeqAt.canLay_of_shaped h3) (room_in h3 hu) ⟨.bl _, H, I, rfl, o.flat R (rep_bl.mpr rfl)⟩
    · obtain ⟨bs, r2⟩ := Dp.reads I _ y yv h2 ry
      exact SeqAt.notIn_tuple_reads r2 r1 (canAll h4) (SeqAt.canLay_of_shaped h3) (room_in h3 hu) ⟨.bl _, H, I, rfl, o.flat R (rep_bl.mpr rfl)⟩
  · exact o.elim
theorem isNon_rep {K : PySem.W.Frag} {β : List Addr} {v : PV} {x : V} (h : Rep K H β v x) : decide (x = V.non) = isNon v := by
  cases v with
  | non => rw [rep_non.mp h]; rfl
  | bl b => rw [rep_bl.mp h]; rfl
  | int b => rw [rep_int.mp h]; rfl
  | str b => rw [rep_str.mp h]; rfl
  | tup b => obtain ⟨a, xs, rfl, _⟩ := rep_tup.mp h; rfl
  | ref b => obtain ⟨a, rfl, _⟩ := rep_ref.mp h; rfl
theorem op_isM : OpR X (compareOp .Is) (rM X.K (cmpM .Is)) := by
  intro pins s σ H x y xv yv Q I rx ry h
  obtain ⟨v, u, β, M, w, R, hv, hu', o⟩ := h
  cases u with
  | non =>
    have e := rep_non.mp hu'
    exact op_isN pins s σ H x y xv yv Q I rx ry ⟨e, by rw [isNon_rep hv]; exact o.flat R (rep_bl.mpr rfl)⟩
  | _ => exact o.elim
theorem op_isNotM : OpR X (compareOp .IsNot) (rM X.K (cmpM .IsNot)) := by
  intro pins s σ H x y xv yv Q I rx ry h
  obtain ⟨v, u, β, M, w, R, hv, hu', o⟩ := h
  cases u with
  | non =>
    have e := rep_non.mp hu'
    exact op_notN pins s σ H x y xv yv Q I rx ry ⟨e, by rw [isNon_rep hv]; exact o.flat R (rep_bl.mpr rfl)⟩
  | _ => exact o.elim
/-! ### order of data -/
mutual
theorem alk_toD : ∀ (v u : PV), v.alk u = true → PySem.W.alike v.toD u.toD = true
  | .int _, .int _, _ => by simp [PV.toD, PySem.W.alike]
  | .str _, .str _, _ => by simp [PV.toD, PySem.W.alike]
  | .tup xs, .tup ys, h => by
    rw [PV.alk] at h
    rw [toD_tup, toD_tup, PySem.W.alike]
    exact alks_toD xs ys h
  | .non, u, h => by simp [PV.alk] at h
  | .bl _, u, h => by simp [PV.alk] at h
  | .ref _, u, h => by simp [PV.alk] at h
  | .int _, .non, h | .int _, .bl _, h | .int _, .str _, h | .int _, .tup _, h | .int _, .ref _, h => by simp [PV.alk] at h
  | .str _, .non, h | .str _, .bl _, h | .str _, .int _, h | .str _, .tup _, h | .str _, .ref _, h => by simp [PV.alk] at h
  | .tup _, .non, h | .tup _, .bl _, h | .tup _, .str _, h | .tup _, .int _, h | .tup _, .ref _, h => by simp [PV.alk] at h
theorem alks_toD : ∀ (vs us : List PV), PV.alk.alks vs us = true → PySem.W.alikeAll (PV.toD.toDs vs) (PV.toD.toDs us) = true
  | [], us, _ => by rw [PV.toD.toDs]; simp [PySem.W.alikeAll]
  | v :: vs, [], _ => by simp [PV.toD.toDs, PySem.W.alikeAll]
  | v :: vs, u :: us, h => by
    rw [PV.alk.alks, Bool.and_eq_true] at h
    rw [PV.toD.toDs, PV.toD.toDs, PySem.W.alikeAll, alk_toD v u h.1, alks_toD vs us h.2]
    rfl
end
mutual
theorem lt_toD : ∀ (v u : PV) (d e : Nat), v.dat d = true → u.dat e = true → v.alk u = true → PySem.W.dataLt v.toD u.toD = v.lt u
  | .int _, .int _, d, e, _, _, _ => by simp [PV.toD, PySem.W.dataLt_int, PV.lt]
  | .str _, .str _, d, e, _, _, _ => by simp [PV.toD, PySem.W.dataLt_str, PV.lt]
  | .tup xs, .tup ys, d, e, h1, h2, h => by
    rw [PV.alk] at h
    rw [dat_tup, Bool.and_eq_true] at h1 h2
    rw [toD_tup, toD_tup, PySem.W.dataLt_tuple, PV.lt]
    exact lts_toD xs ys _ _ h1.2 h2.2 h
  | .non, u, _, _, _, _, h => by simp [PV.alk] at h
  | .bl _, u, _, _, _, _, h => by simp [PV.alk] at h
  | .ref _, u, _, _, _, _, h => by simp [PV.alk] at h
  | .int _, .non, _, _, _, _, h | .int _, .bl _, _, _, _, _, h | .int _, .str _, _, _, _, _, h | .int _, .tup _, _, _, _, _, h | .int _, .ref _, _, _, _, _, h => by simp [PV.alk] at h
  | .str _, .non, _, _, _, _, h | .str _, .bl _, _, _, _, _, h | .str _, .int _, _, _, _, _, h | .str _, .tup _, _, _, _, _, h | .str _, .ref _, _, _, _, _, h => by simp [PV.alk] at h
  | .tup _, .non, _, _, _, _, h | .tup _, .bl _, _, _, _, _, h | .tup _, .str _, _, _, _, _, h | .tup _, .int _, _, _, _, _, h | .tup _, .ref _, _, _, _, _, h => by simp [PV.alk] at h
theorem lts_toD : ∀ (vs us : List PV) (d e : Nat), PV.dat.dats vs d = true → PV.dat.dats us e = true → PV.alk.alks vs us = true → PyProof.Rows.lexLt itemOrd (PySem.W.keyToksAll (PV.toD.toDs vs)) (PySem.W.keyToksAll (PV.toD.toDs us)) = PV.lt.lts vs us
  | [], [], _, _, _, _, _ => by simp only [PV.toD.toDs, PySem.W.keyToksAll, PV.lt.lts]; decide +kernel
  | [], u :: us, _, _, _, _, _ => by
    simp only [PV.toD.toDs, PySem.W.keyToksAll, PV.lt.lts, List.isEmpty_cons]
    rw [PySem.W.lex_atom (by decide)]; decide +kernel
  | v :: vs, [], _, _, _, _, _ => by
    simp only [PV.toD.toDs, PySem.W.keyToksAll, PV.lt.lts]
    rw [PySem.W.lex_atom (by decide)]; decide +kernel
  | v :: vs, u :: us, d, e, h1, h2, h => by
    rw [PV.alk.alks, Bool.and_eq_true] at h
    rw [dats_cons, Bool.and_eq_true] at h1 h2
    have a := alk_toD v u h.1
    have q := eqv_toD v u d e h1.1 h2.1
    rw [PV.toD.toDs, PV.toD.toDs, PV.lt.lts]
    cases hq : v.eqv u with
    | true => rw [PySem.W.dataLt_all_yes a (q.trans hq)]; simpa using lts_toD vs us d e h1.2 h2.2 h.2
    | false => rw [PySem.W.dataLt_all_no a (q.trans hq)]; simpa using lt_toD v u d e h1.1 h2.1 h.1
end
theorem eqv_comm_ : ∀ (v u : PV), v.alk u = true → u.alk v = true := by
  intro v u h
  have key : ∀ n, ∀ v u : PV, sizeOf v < n → v.alk u = true → u.alk v = true := by
    intro n
    induction n with
    | zero => intro v u h; omega
    | succ n ih =>
      intro v u hs h
      cases v with
      | int i => cases u <;> simp [PV.alk] at h ⊢
      | str i => cases u <;> simp [PV.alk] at h ⊢
      | tup xs =>
        cases u with
        | tup ys =>
          rw [PV.alk] at h ⊢
          have : ∀ xs : List PV, (∀ x ∈ xs, sizeOf x < n) → ∀ ys, PV.alk.alks xs ys = true → PV.alk.alks ys xs = true := by
            intro xs
            induction xs with
            | nil => intro _ ys _; cases ys <;> simp [PV.alk.alks]
            | cons x xs ihx =>
              intro hx ys h
              cases ys with
              | nil => simp [PV.alk.alks]
              | cons y ys =>
                rw [PV.alk.alks, Bool.and_eq_true] at h ⊢
                exact ⟨ih x y (hx x List.mem_cons_self) h.1, ihx (fun z hz => hx z (List.mem_cons_of_mem _ hz)) ys h.2⟩
          refine this xs (fun x hx => ?_) ys h
          have := List.sizeOf_lt_of_mem hx
          simp at hs; omega
        | _ => simp [PV.alk] at h
      | _ => simp [PV.alk] at h
  exact key _ v u (Nat.lt_succ_self _) h
theorem alk_ne {v u : PV} (h : v.alk u = true) : v.toD ≠ .none := by
  cases v with
  | tup xs => rw [toD_tup]; exact fun e => by cases e
  | int i => simp [PV.toD]
  | str i => simp [PV.toD]
  | _ => simp [PV.alk] at h
theorem room_lt {v u : PV} {A : Around} (sv : shallow v = true) (hu : A.units + 65 < cLine) : A.units + min v.toD.depth u.toD.depth < cLine := by
  have := (dat_can v 60 sv).2
  omega
theorem op_cmpD {op : CmpOp} {g : Int → Int → Bool} {f : PV → PV → Bool} (hu : X.A.units + 65 < cLine) (ho : OpR X (compareOp op) (rI0 fun i j => .bl (g i j)))
    (hi : ∀ i j M, cmpM op (.int i) (.int j) M = .ok (.bl (g i j)) M)
    (hd : ∀ v u M, (∀ i j, v = .int i → u = .int j → False) → cmpM op v u M = if ltOk v u then .ok (.bl (f v u)) M else .stuck)
    (hr : ∀ {s : Shared} {a b : Value} {v u : PV} {as bs : List Addr} {Q : Value → Shared → Prop} {E : Value → Shared → Prop}, Reads s.heap a v.toD as → Reads s.heap b u.toD bs → ltOk v u = true → Q (.bool (f v u)) s → wpAny (model X.prog X.w) X.A (compareOp op a b) Q E s) :
    OpR X (compareOp op) (rM X.K (cmpM op)) := by
  intro pins s σ H x y xv yv Q I rx ry h
  obtain ⟨v, u, β, M, w, R, hv, hu, o⟩ := h
  by_cases hc : ∀ i j, v = .int i → u = .int j → False
  · rw [hd v u M hc] at o
    split at o
    · rename_i ok
      have ok' := ok
      unfold ltOk at ok'
      simp only [Bool.and_eq_true] at ok'
      obtain ⟨⟨_, s1⟩, s2⟩ := ok'
      obtain ⟨as, r1⟩ := Dp.reads I _ _ _ (dat_dp v 60 x s1 hv) rx
      obtain ⟨bs, r2⟩ := Dp.reads I _ _ _ (dat_dp u 60 y s2 hu) ry
      exact hr r1 r2 ok ⟨.bl _, H, I, rfl, o.flat R (rep_bl.mpr rfl)⟩
    · exact o.elim
  · have : ∃ i j, v = .int i ∧ u = .int j := by
      cases v with
      | int i =>
        cases u with
        | int j => exact ⟨i, j, rfl, rfl⟩
        | _ => exact absurd (fun i j _ e => by cases e) hc
      | _ => exact absurd (fun i j e _ => by cases e) hc
    obtain ⟨i, j, rfl, rfl⟩ := this
    rw [rep_int] at hv hu; subst hv hu
    rw [hi] at o
    exact ho pins s σ H _ _ _ _ Q I rx ry ⟨i, j, rfl, rfl, o.flat R (rep_bl.mpr rfl)⟩
theorem ltOk_of {v u : PV} (h : ltOk v u = true) : v.alk u = true ∧ shallow v = true ∧ shallow u = true := by
  unfold ltOk at h
  simp only [Bool.and_eq_true] at h
  exact ⟨h.1.1, h.1.2, h.2⟩
theorem op_cmpM (hu : X.A.units + 65 < cLine) (op : CmpOp) : OpR X (compareOp op) (rM X.K (cmpM op)) := by
  cases op with
  | Eq => exact op_eqM hu
  | NotEq => exact op_neM hu
  | In => exact op_inM hu
  | NotIn => exact op_notInM hu
  | Is => exact op_isM
  | IsNot => exact op_isNotM
  | Lt =>
    refine op_cmpD (f := fun v u => v.lt u) hu op_lt (fun _ _ _ => rfl) (fun v u M h => by cases v <;> cases u <;> first | rfl | exact (h _ _ rfl rfl).elim) ?_
    intro s a b v u as bs Q E r1 r2 ok q
    obtain ⟨a1, s1, s2⟩ := ltOk_of ok
    refine PySem.W.lt_data r1 r2 (alk_toD _ _ a1) (alk_ne a1) (room_lt s1 hu) ?_
    rw [lt_toD v u 60 60 s1 s2 a1]; exact q
  | LtE =>
    refine op_cmpD (f := fun v u => !u.lt v) hu op_le (fun _ _ _ => rfl) (fun v u M h => by cases v <;> cases u <;> first | rfl | exact (h _ _ rfl rfl).elim) ?_
    intro s a b v u as bs Q E r1 r2 ok q
    obtain ⟨a1, s1, s2⟩ := ltOk_of ok
    refine PySem.W.le_data r1 r2 (alk_toD _ _ a1) (alk_ne a1) (room_lt s1 hu) ?_
    rw [lt_toD u v 60 60 s2 s1 (eqv_comm_ _ _ a1)]; exact q
  | Gt =>
    refine op_cmpD (f := fun v u => u.lt v) hu op_gt (fun _ _ _ => rfl) (fun v u M h => by cases v <;> cases u <;> first | rfl | exact (h _ _ rfl rfl).elim) ?_
    intro s a b v u as bs Q E r1 r2 ok q
    obtain ⟨a1, s1, s2⟩ := ltOk_of ok
    refine PySem.W.gt_data r1 r2 (alk_toD _ _ a1) (alk_ne a1) (room_lt s1 hu) ?_
    rw [lt_toD u v 60 60 s2 s1 (eqv_comm_ _ _ a1)]; exact q
  | GtE =>
    refine op_cmpD (f := fun v u => !v.lt u) hu op_ge (fun _ _ _ => rfl) (fun v u M h => by cases v <;> cases u <;> first | rfl | exact (h _ _ rfl rfl).elim) ?_
    intro s a b v u as bs Q E r1 r2 ok q
    obtain ⟨a1, s1, s2⟩ := ltOk_of ok
    refine PySem.W.ge_data r1 r2 (alk_toD _ _ a1) (alk_ne a1) (room_lt s1 hu) ?_
    rw [lt_toD v u 60 60 s1 s2 a1]; exact q

/-! ### truth -/
theorem truth_ok {K : PySem.W.Frag} {β : List Addr} {M : Mem} {γ : Type} {v : PV} {x : V} {f : Bool → Mem → Res γ} {k : γ → List Addr → Mem → Hp → Prop} {w : WM} (R : RelH K β M H) (r : Rep K H β v x) (h : Out K β M H ((truth v M).bind f) k w) :
    ∃ b, TruV K x H b ∧ Out K β M H (f b M) k w := by
  cases v with
  | non => rw [rep_non.mp r]; exact ⟨false, rfl, h⟩
  | bl b => rw [rep_bl.mp r]; exact ⟨b, rfl, h⟩
  | int i => rw [rep_int.mp r]; exact ⟨_, rfl, h⟩
  | str z =>
    rw [rep_str.mp r]
    simp only [truth] at h
    split at h
    · rename_i hz
      exact ⟨_, ⟨by rw [← LIM_eq]; exact hz, rfl⟩, h⟩
    · exact h.elim
  | tup xs =>
    obtain ⟨a, ys, rfl, ht, rs⟩ := rep_tup.mp r
    refine ⟨!xs.isEmpty, .inr (.inl ⟨ys, ht.sq, ?_⟩), h⟩
    cases xs with
    | nil => rw [reps_nil.mp rs]; rfl
    | cons p ps => obtain ⟨y, t, rfl, _⟩ := reps_cons.mp rs; rfl
  | ref n =>
    simp only [truth] at h
    split at h
    · rename_i xs e
      obtain ⟨a, ys, e1, e2, e3⟩ := R.list e
      rw [r.ref_of e1]
      refine ⟨!xs.isEmpty, .inl ⟨ys, e2, ?_⟩, h⟩
      cases xs with
      | nil => rw [reps_nil.mp e3]; rfl
      | cons p ps => obtain ⟨y, t, rfl, _⟩ := reps_cons.mp e3; rfl
    · exact h.elim

/-! ### places and slices -/
theorem ixOf_eq (n : Nat) (i : Int) : ixOf n i = ixN n i := by
  unfold ixOf ixN
  by_cases h : 0 ≤ i
  · rw [if_pos h, if_pos h]
  · rw [if_neg h, if_neg h]
    by_cases h2 : 0 ≤ i + n
    · rw [if_pos h2, if_pos (by omega)]
    · rw [if_neg h2, if_neg (by omega)]
theorem ix_okM : IxR X (rM X.K ixM) := by
  intro value slice pins s σ H x y xv yv Q I rx ry h hs
  obtain ⟨v, u, β, M, w, R, hv, hu, o⟩ := h
  have at_ : ∀ {xs : List PV} {ys : List V} {i : Int} {p : PV}, Reps X.K H β xs ys → (ixOf xs.length i).bind (fun j => xs[j]?) = some p → ∃ z, atI ys i = some z ∧ Rep X.K H β p z := fun {xs ys i p} r e => by
    rw [ixOf_eq, r.length] at e
    unfold atI
    cases q : ixN ys.length i with
    | none => rw [q] at e; cases e
    | some j =>
      rw [q] at e
      exact r.get e
  cases v with
  | tup ps =>
    cases u with
    | int i =>
      simp only [ixM] at o
      split at o
      · rename_i p e
        obtain ⟨a, xs, rfl, ht, rs⟩ := rep_tup.mp hv
        rw [rep_int] at hu; subst hu
        obtain ⟨z, e1, e2⟩ := at_ rs e
        exact ix_tup value slice pins s σ H _ _ _ _ Q I rx ry ⟨a, xs, i, z, rfl, rfl, ht.sq, e1, o.flat R e2⟩ hs
      · exact o.elim
    | _ => exact o.elim
  | ref n =>
    cases u with
    | int i =>
      simp only [ixM] at o
      split at o
      · rename_i xs e
        split at o
        · rename_i p e'
          obtain ⟨a, ys, b1, h1, r1⟩ := R.list e
          rw [hv.ref_of b1] at rx
          rw [rep_int] at hu; subst hu
          obtain ⟨z, e1, e2⟩ := at_ r1 e'
          exact ix_list value slice pins s σ H _ _ _ _ Q I rx ry ⟨a, ys, i, z, rfl, rfl, h1, e1, o.flat R e2⟩ hs
        · exact o.elim
      · exact o.elim
    | _ => exact o.elim
  | _ => exact o.elim
theorem sIx_eq (n d : Nat) (i : Option Int) : sIx n d i = HT.sIx n d i := by
  cases i with
  | none => rfl
  | some v =>
    show (if 0 ≤ v then Nat.min v.toNat n else (v + n).toNat) = (if v < 0 then (v + (n : Int)).toNat else min v.toNat n)
    by_cases h : 0 ≤ v
    · rw [if_pos h, if_neg (by omega)]
    · rw [if_neg h, if_pos (by omega)]
theorem Reps.cut {K : PySem.W.Frag} {β : List Addr} {xs : List PV} {ys : List V} (r : Reps K H β xs ys) (lo hi : Option Int) : Reps K H β (Mn.cut xs lo hi) (cutV ys lo hi) := by
  unfold Mn.cut cutV
  rw [sIx_eq, sIx_eq, r.length]
  exact (r.drop _).take _
def rSlM (K : PySem.W.Frag) : V → Option Int → Option Int → Hp → VK → Prop := fun x lo hi H Q => ∃ v β M w, RelH K β M H ∧ Rep K H β v x ∧ Out K β M H (slM v lo hi M) (kQ K Q) w
theorem sl_okM : SlR X (rSlM X.K) := by
  intro pins s σ H x v vl vu lo hi sl Q I rx hs pl pu h
  obtain ⟨pv, β, M, w, R, hv, o⟩ := h
  cases pv with
  | tup ps =>
    obtain ⟨a, xs, rfl, ht, rs⟩ := rep_tup.mp hv
    have o : Out X.K β M H (.ok (.tup (cut ps lo hi)) M) (kQ X.K Q) w := o
    cases rx
    obtain ⟨its, r, it, hz⟩ := I.tuple ht.sq
    have hlen : its.toArray.size = xs.length := by rw [List.size_toArray]; exact r.length.symm
    refine ⟨"tuple", _, PyProof.Rows.slot_tuple_getitem.lookup, it.typeIs, ?_⟩
    by_cases hw : HT.sIx xs.length 0 lo = 0 ∧ HT.sIx xs.length xs.length hi = xs.length
    · have e : cut ps lo hi = ps := by
        unfold cut
        rw [sIx_eq, sIx_eq, rs.length, hw.1, hw.2, ← rs.length]
        simp
      rw [e] at o
      exact getItem_tuple_whole it hs pl pu (by rw [hlen]; exact hw) ⟨.ref a, H, I, rfl, o.flat R hv⟩
    · refine HT.getItem_tuple_cut it hs pl pu (by rw [hlen]; exact hw) ?_ (by rw [hlen]; exact hz)
      rw [hlen]
      have rc := (r.drop (HT.sIx xs.length 0 lo)).take (HT.sIx xs.length xs.length hi - HT.sIx xs.length 0 lo)
      refine ⟨.ref s.heap.objs.size, _, newTup I rc (Nat.le_trans (cutV_length xs lo hi) hz), rfl, o.tup R (rs.cut lo hi) (I.hok.fresh (Nat.le_refl _)) rfl⟩
  | ref n =>
    simp only [slM] at o
    split at o
    · rename_i xs e
      obtain ⟨a, ys, b1, h1, r1⟩ := R.list e
      rw [hv.ref_of b1] at rx
      exact sl_list pins s σ H _ v vl vu lo hi sl Q I rx hs pl pu ⟨a, ys, rfl, h1, fun p hp => o.lst R (r1.cut lo hi) hp⟩
    · exact o.elim
  | _ => exact o.elim
/-- o[i] = v -/
def rSetM (K : PySem.W.Frag) : V → V → V → Hp → (Hp → Prop) → Prop := fun o i v H Q => ∃ po pi pv β M w, RelH K β M H ∧ Rep K H β po o ∧ Rep K H β pi i ∧ Rep K H β pv v ∧ Out K β M H (setM po pi pv M) (fun _ _ _ H' => Q H') w
theorem all_set {p : PV → Bool} {v : PV} (hv : p v = true) : ∀ {xs : List PV} (j : Nat), xs.all p = true → (xs.set j v).all p = true
  | [], _, _ => rfl
  | x :: xs, 0, h => by
    rw [List.all_cons, Bool.and_eq_true] at h
    rw [List.set_cons_zero, List.all_cons, hv, h.2]; rfl
  | x :: xs, j + 1, h => by
    rw [List.all_cons, Bool.and_eq_true] at h
    rw [List.set_cons_succ, List.all_cons, h.1, all_set hv j h.2]; rfl
theorem pure_bnd {v : PV} (h : v.pure = true) (b : Nat) : v.bnd b = true := bnd_mono (Nat.zero_le _) h
theorem set_okM : PSet X (rSetM X.K) := by
  intro pins s σ H o i v ov iv u Q I ro ri rv h
  obtain ⟨po, pi, pv, β, M, w, R, h1, h2, h3, out⟩ := h
  cases po with
  | ref n =>
    cases pi with
    | int k =>
      simp only [setM] at out
      split at out
      · rename_i xs e
        split at out
        · rename_i j ej
          obtain ⟨a, ys, b1, hl, rl⟩ := R.lst e
          rw [h1.ref_of b1] at ro
          rw [rep_int] at h2; subst h2
          rw [ixOf_eq, rl.length] at ej
          exact set_list pins s σ H _ _ v ov iv u Q I ro ri rv ⟨a, ys, k, j, rfl, rfl, hl, ej, out.put R e b1 hl (rl.set h3 j) fun he b hb => all_set (pure_bnd (by
            by_cases hp : pv.pure = true
            · exact hp
            · rw [if_neg hp] at he; cases he) b) j hb⟩
        · exact out.elim
      · exact out.elim
    | _ => exact out.elim
  | _ => exact out.elim
end
end Mn
end
section
set_option Elab.async false
set_option linter.all false
set_option maxRecDepth 100000
set_option maxHeartbeats 4000000
namespace Mn
open PySem PySem.Spec PyProof.Rows L2

def rC (K : PySem.W.Frag) (f : BF) : List V → Hp → VK → Prop := fun xs H Q => ∃ vs β M w, RelH K β M H ∧ Reps K H β vs xs ∧ Out K β M H (bcallM f vs M) (kQ K Q) w
def rMt (K : PySem.W.Frag) (m : MF) : V → List V → Hp → VK → Prop := fun x xs H Q => ∃ v vs β M w, RelH K β M H ∧ Rep K H β v x ∧ Reps K H β vs xs ∧ Out K β M H (methM m v vs M) (kQ K Q) w
section
variable {K : PySem.W.Frag} {β : List Addr} {H : Hp} {M : Mem}
theorem reps1 {v : PV} {xs : List V} (h : Reps K H β [v] xs) : ∃ x, xs = [x] ∧ Rep K H β v x := by
  obtain ⟨x, r, rfl, h1, h2⟩ := reps_cons.mp h
  exact ⟨x, by rw [reps_nil.mp h2], h1⟩
theorem reps2 {v u : PV} {xs : List V} (h : Reps K H β [v, u] xs) : ∃ x y, xs = [x, y] ∧ Rep K H β v x ∧ Rep K H β u y := by
  obtain ⟨x, r, rfl, h1, h2⟩ := reps_cons.mp h
  obtain ⟨y, rfl, h3⟩ := reps1 h2
  exact ⟨x, y, rfl, h1, h3⟩
/-- the items of a tuple or a list -/
theorem seq_rep (R : RelH K β M H) {v : PV} {x : V} {xs : List PV} (h : seq? v M = some xs) (r : Rep K H β v x) : ∃ a ys, x = .ref a ∧ (SqL K H a ys ∨ Tup K H a ys) ∧ Reps K H β xs ys := by
  cases v with
  | tup ps =>
    cases h
    obtain ⟨a, ys, rfl, ht, rs⟩ := rep_tup.mp r
    exact ⟨a, ys, rfl, .inr ht, rs⟩
  | ref n =>
    obtain ⟨a, ys, e1, e2, e3⟩ := R.list (show M.lst? n = some xs from h)
    exact ⟨a, ys, r.ref_of e1, .inl e2, e3⟩
  | _ => cases h
theorem bls_rep : ∀ {xs : List PV} {ys : List V} {bs : List Bool}, bls? xs = some bs → Reps K H β xs ys → ys = bs.map V.bl
  | [], ys, bs, h, r => by cases h; exact reps_nil.mp r
  | x :: xs, ys, bs, h, r => by
    cases x with
    | bl b =>
      obtain ⟨y, t, rfl, h1, h2⟩ := reps_cons.mp r
      simp only [bls?, Option.map_eq_some_iff] at h
      obtain ⟨cs, e, rfl⟩ := h
      rw [rep_bl.mp h1, bls_rep e h2]
      rfl
    | _ => cases h
theorem ints_rep : ∀ {xs : List PV} {ys : List V} {ns : List Int}, ints? xs = some ns → Reps K H β xs ys → ys = ns.map V.int
  | [], ys, bs, h, r => by cases h; exact reps_nil.mp r
  | x :: xs, ys, bs, h, r => by
    cases x with
    | int b =>
      obtain ⟨y, t, rfl, h1, h2⟩ := reps_cons.mp r
      simp only [ints?, Option.map_eq_some_iff] at h
      obtain ⟨cs, e, rfl⟩ := h
      rw [rep_int.mp h1, ints_rep e h2]
      rfl
    | _ => cases h
/-- a list's items by a look -/
theorem list_look {α : Type} (R : RelH K β M H) {n : Nat} {x : V} {f : List PV → Option α} {a : α} (h : (M.lst? n).bind f = some a) (r : Rep K H β (.ref n) x) : ∃ p xs ys, x = .ref p ∧ f xs = some a ∧ SqL K H p ys ∧ Reps K H β xs ys := by
  cases e : M.lst? n with
  | none => rw [e] at h; cases h
  | some xs =>
    rw [e] at h
    obtain ⟨p, ys, e1, e2, e3⟩ := R.list e
    exact ⟨p, xs, ys, r.ref_of e1, h, e2, e3⟩
end
section
variable {X : Cx}
theorem cb_len : CallR X (.builtin "len") (rC X.K .len) := by
  intro pins s σ H xs us Q I r h
  obtain ⟨vs, β, M, w, R, rs, o⟩ := h
  match vs, rs, o with
  | [], rs, o => exact o.elim
  | _ :: _ :: _, rs, o => exact o.elim
  | [v], rs, o =>
    obtain ⟨x, rfl, rx⟩ := reps1 rs
    have sq : ∀ {xs : List PV}, seq? v M = some xs → Out X.K β M H (.ok (.int xs.length) M) (kQ X.K Q) w → wpAny (model X.prog X.w) X.A (call (.builtin "len") us) (EP X pins σ Q) X.xe s := fun {xs} e o => by
      obtain ⟨a, ys, rfl, hq, rr⟩ := seq_rep R e rx
      refine call_len pins s σ H _ us Q I r ⟨.ref a, ys.length, rfl, ?_, by rw [← rr.length]; exact o.flat R (rep_int.mpr rfl)⟩
      rcases hq with hq | hq
      · exact .inl ⟨ys, hq, rfl⟩
      · exact .inr ⟨ys, hq.sq, rfl⟩
    cases v with
    | str z =>
      simp only [bcallM] at o
      split at o
      · rename_i hz
        rw [rep_str.mp rx] at r
        exact call_len pins s σ H _ us Q I r ⟨.str z, z.length, rfl, ⟨by rw [← LIM_eq]; exact hz, rfl⟩, o.flat R (rep_int.mpr rfl)⟩
      · exact o.elim
    | tup ps => exact sq rfl o
    | ref n =>
      simp only [bcallM] at o
      split at o
      · rename_i xs e
        exact sq e o
      · exact o.elim
    | _ => exact o.elim
theorem cb_all (hc : X.calm = true) : CallR X (.builtin "all") (rC X.K .all) := by
  intro pins s σ H xs us Q I r h
  obtain ⟨vs, β, M, w, R, rs, o⟩ := h
  unfold bcallM at o
  split at o <;> try contradiction
  rename_i n _ _
  split at o
  · rename_i bs e
    obtain ⟨x, rfl, rx⟩ := reps1 rs
    obtain ⟨p, ps, ys, rfl, e1, e2, e3⟩ := list_look R e rx
    rw [bls_rep e1 e3] at e2
    exact cr_all hc pins s σ H _ us Q I r ⟨p, bs, rfl, e2, o.flat R (rep_bl.mpr rfl)⟩
  · exact o.elim
theorem cb_any (hc : X.calm = true) : CallR X (.builtin "any") (rC X.K .any) := by
  intro pins s σ H xs us Q I r h
  obtain ⟨vs, β, M, w, R, rs, o⟩ := h
  unfold bcallM at o
  split at o <;> try contradiction
  rename_i n _ _
  split at o
  · rename_i bs e
    obtain ⟨x, rfl, rx⟩ := reps1 rs
    obtain ⟨p, ps, ys, rfl, e1, e2, e3⟩ := list_look R e rx
    rw [bls_rep e1 e3] at e2
    exact cr_any hc pins s σ H _ us Q I r ⟨p, bs, rfl, e2, o.flat R (rep_bl.mpr rfl)⟩
  · exact o.elim
theorem cb_sum (hc : X.calm = true) : CallR X (.builtin "sum") (rC X.K .sum) := by
  intro pins s σ H xs us Q I r h
  obtain ⟨vs, β, M, w, R, rs, o⟩ := h
  unfold bcallM at o
  split at o <;> try contradiction
  rename_i n _ _
  split at o
  · rename_i bs e
    obtain ⟨x, rfl, rx⟩ := reps1 rs
    obtain ⟨p, ps, ys, rfl, e1, e2, e3⟩ := list_look R e rx
    rw [ints_rep e1 e3] at e2
    exact cr_sum hc pins s σ H _ us Q I r ⟨p, bs, rfl, e2, o.flat R (rep_int.mpr rfl)⟩
  · exact o.elim
theorem cb_int : CallR X (.type "int") (rC X.K .int) := by
  intro pins s σ H xs us Q I r h
  obtain ⟨vs, β, M, w, R, rs, o⟩ := h
  unfold bcallM at o
  split at o <;> try contradiction
  · rename_i i _
    obtain ⟨x, rfl, rx⟩ := reps1 rs
    rw [rep_int.mp rx] at r
    exact call_int1 pins s σ H _ us Q I r (.inl ⟨i, rfl, o.flat R (rep_int.mpr rfl)⟩)
  · rename_i i _
    obtain ⟨x, rfl, rx⟩ := reps1 rs
    rw [rep_bl.mp rx] at r
    exact call_int1 pins s σ H _ us Q I r (.inr ⟨i, rfl, o.flat R (rep_int.mpr rfl)⟩)
theorem cb_max2 (hc : X.calm = true) : CallR X (.builtin "max") (rC X.K .max2) := by
  intro pins s σ H xs us Q I r h
  obtain ⟨vs, β, M, w, R, rs, o⟩ := h
  unfold bcallM at o
  split at o <;> try contradiction
  rename_i i j _
  obtain ⟨x, y, rfl, rx, ry⟩ := reps2 rs
  rw [rep_int.mp rx, rep_int.mp ry] at r
  exact call_max2 hc pins s σ H _ us Q I r ⟨i, j, rfl, o.flat R (rep_int.mpr rfl)⟩
theorem cb_min2 (hc : X.calm = true) : CallR X (.builtin "min") (rC X.K .min2) := by
  intro pins s σ H xs us Q I r h
  obtain ⟨vs, β, M, w, R, rs, o⟩ := h
  unfold bcallM at o
  split at o <;> try contradiction
  rename_i i j _
  obtain ⟨x, y, rfl, rx, ry⟩ := reps2 rs
  rw [rep_int.mp rx, rep_int.mp ry] at r
  exact call_min2 hc pins s σ H _ us Q I r ⟨i, j, rfl, o.flat R (rep_int.mpr rfl)⟩
theorem maxL_ok : ∀ (i : Int) (is : List Int), maxL i is ∈ i :: is ∧ ∀ y ∈ i :: is, y ≤ maxL i is
  | i, [] => by simp [maxL]
  | i, j :: js => by
    obtain ⟨h1, h2⟩ := maxL_ok (if j > i then j else i) js
    rw [maxL]
    constructor
    · rcases List.mem_cons.mp h1 with h | h
      · rw [h]; split <;> simp
      · exact List.mem_cons_of_mem _ (List.mem_cons_of_mem _ h)
    · intro y hy
      have h3 := h2 (if j > i then j else i) List.mem_cons_self
      have h4 : i ≤ (if j > i then j else i) ∧ j ≤ (if j > i then j else i) := by split <;> omega
      rcases List.mem_cons.mp hy with rfl | hy
      · exact Int.le_trans h4.1 h3
      · rcases List.mem_cons.mp hy with rfl | hy
        · exact Int.le_trans h4.2 h3
        · exact h2 y (List.mem_cons_of_mem _ hy)
theorem minL_ok : ∀ (i : Int) (is : List Int), minL i is ∈ i :: is ∧ ∀ y ∈ i :: is, minL i is ≤ y
  | i, [] => by simp [minL]
  | i, j :: js => by
    obtain ⟨h1, h2⟩ := minL_ok (if j < i then j else i) js
    rw [minL]
    constructor
    · rcases List.mem_cons.mp h1 with h | h
      · rw [h]; split <;> simp
      · exact List.mem_cons_of_mem _ (List.mem_cons_of_mem _ h)
    · intro y hy
      have h3 := h2 (if j < i then j else i) List.mem_cons_self
      have h4 : (if j < i then j else i) ≤ i ∧ (if j < i then j else i) ≤ j := by split <;> omega
      rcases List.mem_cons.mp hy with rfl | hy
      · exact Int.le_trans h3 h4.1
      · rcases List.mem_cons.mp hy with rfl | hy
        · exact Int.le_trans h3 h4.2
        · exact h2 y (List.mem_cons_of_mem _ hy)
theorem insI_perm (i : Int) : ∀ is : List Int, (insI i is).Perm (i :: is)
  | [] => .refl _
  | j :: js => by
    rw [insI]; split
    · exact .refl _
    · exact ((insI_perm i js).cons j).trans (.swap i j js)
theorem isort_perm : ∀ is : List Int, (isort is).Perm is
  | [] => .refl _
  | i :: is => (insI_perm i (isort is)).trans ((isort_perm is).cons i)
theorem insI_sorted (i : Int) : ∀ is : List Int, is.Pairwise (· ≤ ·) → (insI i is).Pairwise (· ≤ ·)
  | [], _ => by simp [insI]
  | j :: js, h => by
    rw [insI]; split
    · rename_i hij
      refine List.pairwise_cons.mpr ⟨fun a ha => ?_, h⟩
      rcases List.mem_cons.mp ha with rfl | ha
      · exact hij
      · exact Int.le_trans hij ((List.pairwise_cons.mp h).1 a ha)
    · rename_i hij
      refine List.pairwise_cons.mpr ⟨fun a ha => ?_, insI_sorted i js (List.pairwise_cons.mp h).2⟩
      rcases List.mem_cons.mp ((insI_perm i js).mem_iff.mp ha) with rfl | ha
      · omega
      · exact (List.pairwise_cons.mp h).1 a ha
theorem isort_sorted : ∀ is : List Int, (isort is).Pairwise (· ≤ ·)
  | [] => .nil
  | i :: is => insI_sorted i _ (isort_sorted is)
theorem isort_eq {ns is : List Int} (h : ns.Perm is) (hs : ns.Pairwise (· ≤ ·)) : ns = isort is :=
  List.Perm.eq_of_pairwise (fun a b _ _ h1 h2 => Int.le_antisymm h1 h2) hs (isort_sorted is) (h.trans (isort_perm is).symm)
theorem reps_ints_ {K : PySem.W.Frag} {H : Hp} {β : List Addr} : ∀ ns : List Int, Reps K H β (ns.map PV.int) (ns.map V.int)
  | [] => reps_nil.mpr rfl
  | i :: is => reps_cons.mpr ⟨_, _, rfl, rep_int.mpr rfl, reps_ints_ is⟩
theorem cb_max1 (hc : X.calm = true) : CallR X (.builtin "max") (rC X.K .max1) := by
  intro pins s σ H xs us Q I r h
  obtain ⟨vs, β, M, w, R, rs, o⟩ := h
  unfold bcallM at o
  split at o <;> try contradiction
  rename_i n _ _
  split at o
  · rename_i i is e
    obtain ⟨x, rfl, rx⟩ := reps1 rs
    obtain ⟨p, ps, ys, rfl, e1, e2, e3⟩ := list_look R e rx
    rw [ints_rep e1 e3] at e2
    obtain ⟨m1, m2⟩ := maxL_ok i is
    refine cr_max hc pins s σ H _ us Q I r ⟨p, i :: is, rfl, e2, by simp, fun m hm hle => ?_⟩
    have : m = maxL i is := Int.le_antisymm (m2 m hm) (hle _ m1)
    rw [this]
    exact o.flat R (rep_int.mpr rfl)
  · exact o.elim
theorem cb_min1 (hc : X.calm = true) : CallR X (.builtin "min") (rC X.K .min1) := by
  intro pins s σ H xs us Q I r h
  obtain ⟨vs, β, M, w, R, rs, o⟩ := h
  unfold bcallM at o
  split at o <;> try contradiction
  rename_i n _ _
  split at o
  · rename_i i is e
    obtain ⟨x, rfl, rx⟩ := reps1 rs
    obtain ⟨p, ps, ys, rfl, e1, e2, e3⟩ := list_look R e rx
    rw [ints_rep e1 e3] at e2
    obtain ⟨m1, m2⟩ := minL_ok i is
    refine cr_min hc pins s σ H _ us Q I r ⟨p, i :: is, rfl, e2, by simp, fun m hm hle => ?_⟩
    have : m = minL i is := Int.le_antisymm (hle _ m1) (m2 m hm)
    rw [this]
    exact o.flat R (rep_int.mpr rfl)
  · exact o.elim
theorem Vals.get_ {xs : List V} {us : List Value} {i : Nat} {x : V} (r : Vals xs us) (h : xs[i]? = some x) : ∃ u, us[i]? = some u ∧ RelV x u := r.get h
/-- items that read as data, with what they are -/
theorem each_reps {X : Cx} {pins : List (Addr × Obj)} {σ : L2.St} {H : Hp} {s : Shared} {β : List Addr} (I : Inv X pins σ H s) : ∀ {ps : List PV} {xs : List V} {us : List Value}, Reps X.K H β ps xs → Vals xs us → ps.all shallow = true →
    PySem.W.EachIs (fun u p => (∃ as, Reads s.heap u p.toD as) ∧ ∃ x, RelV x u ∧ Rep X.K H β p x) us ps
  | [], xs, us, r, v, _ => by
    rw [reps_nil.mp r] at v
    cases v
    exact .nil
  | p :: ps, xs, us, r, v, h => by
    obtain ⟨x, t, rfl, r1, r2⟩ := reps_cons.mp r
    cases v with
    | cons v1 v2 =>
      rw [List.all_cons, Bool.and_eq_true] at h
      exact .cons ⟨Dp.reads I _ _ _ (dat_dp p 60 x h.1 r1) v1, x, v1, r1⟩ (each_reps I r2 v2 h.2)
theorem each_back {X : Cx} {H : Hp} {β : List Addr} {F : Value → PV → Prop} : ∀ {ps : List PV} {us : List Value}, PySem.W.EachIs (fun u p => F u p ∧ ∃ x, RelV x u ∧ Rep X.K H β p x) us ps → ∃ xs, Vals xs us ∧ Reps X.K H β ps xs
  | [], us, h => by cases h; exact ⟨[], .nil, reps_nil.mpr rfl⟩
  | p :: ps, us, h => by
    cases h with
    | cons a b =>
      obtain ⟨_, x, v1, r1⟩ := a
      obtain ⟨xs, v2, r2⟩ := each_back b
      exact ⟨x :: xs, .cons v1 v2, reps_cons.mpr ⟨x, xs, rfl, r1, r2⟩⟩
theorem le_data_ {ps : List PV} (hs : ps.all shallow = true) (ha : (ps.all fun x => ps.all fun y => x.alk y) = true) : ∀ x ∈ ps, ∀ y ∈ ps, PySem.W.dataLe false PV.toD x y = !y.lt x := by
  intro x hx y hy
  rw [PySem.W.dataLe_eq]
  show (!PySem.W.dataLt y.toD x.toD) = _
  rw [lt_toD y x 60 60 (List.all_eq_true.mp hs y hy) (List.all_eq_true.mp hs x hx) (List.all_eq_true.mp (List.all_eq_true.mp ha y hy) x hx)]
theorem merge_congr {α : Type} {f g : α → α → Bool} {xs : List α} (h : ∀ x ∈ xs, ∀ y ∈ xs, f x y = g x y) : xs.mergeSort f = xs.mergeSort g := by
  have := List.map_mergeSort (r := f) (s := g) (f := id) (l := xs) h
  simpa using this
theorem cb_sorted (hu : X.A.units + 65 < cLine) : CallR X (.builtin "sorted") (rC X.K .sorted) := by
  intro pins s σ H xs us Q I r h
  obtain ⟨vs, β, M, w, R, rs, o⟩ := h
  unfold bcallM at o
  split at o <;> try contradiction
  rename_i n _ _
  split at o
  · rename_i is e
    obtain ⟨x, rfl, rx⟩ := reps1 rs
    obtain ⟨p, ps, ys, rfl, e1, e2, e3⟩ := list_look R e rx
    rw [ints_rep e1 e3] at e2
    refine cr_sortedI pins s σ H _ us Q I r ⟨p, is, rfl, e2, fun ns' l hp hs hl => ?_⟩
    rw [isort_eq hp hs]
    exact o.lst R (reps_ints_ _) hl
  · split at o
    · rename_i ps e
      split at o
      · rename_i ok
        unfold srtOk at ok
        simp only [Bool.and_eq_true, decide_eq_true_eq] at ok
        obtain ⟨⟨⟨o1, o2⟩, o3⟩, o4⟩ := ok
        obtain ⟨x, rfl, rx⟩ := reps1 rs
        obtain ⟨a, ys, hb, hl, rr⟩ := R.list e
        rw [rx.ref_of hb] at r
        obtain ⟨its, rv, pl, hz⟩ := I.list hl
        rw [Vals.ref1 r]
        have ea := each_reps I rr rv o2
        refine PySem.W.sorted_data (enc := PV.toD) pl.isList ea (ea.mono fun _ _ h => h.1) ?_ ?_ (by rw [← LIM_eq]; exact o4) (fun b hb => ?_) fun out hout eo => ?_
        · intro d hd d' hd'
          obtain ⟨p, hp, rfl⟩ := List.mem_map.mp hd
          obtain ⟨q, hq, rfl⟩ := List.mem_map.mp hd'
          exact alk_toD _ _ (List.all_eq_true.mp (List.all_eq_true.mp o3 p hp) q hq)
        · refine .inl fun d hd => ?_
          obtain ⟨p, hp, rfl⟩ := List.mem_map.mp hd
          have := List.all_eq_true.mp o1 p hp
          cases p with
          | tup zs =>
            cases zs with
            | nil => simp [isTup1] at this
            | cons z zs => rw [toD_tup, PV.toD.toDs]; exact ⟨_, _, rfl⟩
          | _ => simp [isTup1] at this
        · have := (dat_can b 60 (List.all_eq_true.mp o2 b hb)).2
          omega
        · obtain ⟨zs, v2, r2⟩ := each_back eo
          rw [merge_congr (le_data_ o2 o3)] at r2
          obtain ⟨ep, he'⟩ := PyProof.Rows.sortedAll_at s.heap its out.toArray
          have hlen : zs.length ≤ sizeLine := by
            rw [v2.length, hout, ← LIM_eq]; exact o4
          exact ⟨.ref _, upd H (s.heap.objs.size + 1) (.lst zs), I.laid (t' := s.toks) (fun _ _ => PyProof.Rows.sortedAll_old) (Nat.le_succ _) ⟨hlen, out, ep, v2, he'⟩, rfl, o.lst R r2 (I.hok.fresh (Nat.le_succ _))⟩
      · exact o.elim
    · exact o.elim
/-- repr -/
theorem cb_repr (hu : X.A.units + 65 < cLine) (hg : X.A.guards = some []) : CallR X (.builtin "repr") (rC X.K .repr) := by
  intro pins s σ H xs us Q I r h
  obtain ⟨vs, β, M, w, R, rs, o⟩ := h
  unfold bcallM at o
  split at o <;> try contradiction
  rename_i v _
  obtain ⟨x, rfl, rx⟩ := reps1 rs
  have fin : ∀ (d : PyData) (z : V) (hz : z = x), (∀ u, RelV z u → ∃ a as, u = .ref a ∧ Reads s.heap (.ref a) d as) → d.canLay0 = true → d.depth ≤ 61 → repOk d = true → Out X.K β M H (Res.ok (PV.str d.shown) M) (kQ X.K Q) w → wpAny (model X.prog X.w) X.A (call (.builtin "repr") us) (EP X pins σ Q) X.xe s := by
    intro d z hz hd hc hp hr o
    subst hz
    obtain ⟨u, rfl, ru⟩ := vals1 r
    obtain ⟨a, as, rfl, rd⟩ := hd u ru
    unfold repOk at hr
    rw [Bool.and_eq_true, decide_eq_true_eq] at hr
    refine repr_of_reads' rd hr.1 (PyData.noDict_hsm (PyData.hasDict_of_canLay d hc)) hg (by omega) (fun _ _ e => e) (fun h' u tk hk => ?_) (by rw [← LIM_eq]; exact hr.2)
    exact ⟨.str d.shown, H, I.kept (t' := tk) hk, ⟨u, rfl⟩, o.flat R (rep_str.mpr rfl)⟩
  split at o
  · rename_i n
    split at o
    · rename_i ps e
      split at o
      · rename_i ok
        rw [Bool.and_eq_true] at ok
        obtain ⟨a, ys, hb, hl, rr⟩ := R.list e
        have hx := rx.ref_of hb
        have hd : PV.dat.dats ps 60 = true := by rw [dats_eq]; exact ok.1
        obtain ⟨c1, c2⟩ := dats_can ps 60 hd
        refine fin (.list (PV.toD.toDs ps)) x rfl (fun u ru => ?_) (by rw [PyData.canLay0]; exact c1) (by rw [PyData.depth]; omega) ok.2 o
        subst hx
        cases ru
        obtain ⟨as, rd⟩ := Dp.reads I (.list (PV.toD.toDs ps)) _ _ (.lst hl (dats_dp ps 60 ys hd rr)) rfl
        exact ⟨a, as, rfl, rd⟩
      · exact o.elim
    · exact o.elim
  · rename_i hnr
    split at o
    · rename_i ok
      rw [Bool.and_eq_true] at ok
      have ok2 := ok.2
      unfold repOk at ok2
      rw [Bool.and_eq_true, decide_eq_true_eq] at ok2
      cases v with
      | ref n => exact (hnr n rfl).elim
      | non =>
        obtain ⟨u, rfl, ru⟩ := vals1 r
        rw [rep_non.mp rx] at ru
        cases ru
        exact PySem.P.repr_of_none ⟨.str _, H, I.tok _, ⟨_, rfl⟩, o.flat R (rep_str.mpr (by rfl))⟩
      | bl b =>
        obtain ⟨u, rfl, ru⟩ := vals1 r
        rw [rep_bl.mp rx] at ru
        cases ru
        exact PySem.P.repr_of_bool ⟨.str _, H, I.tok _, ⟨_, rfl⟩, o.flat R (rep_str.mpr (by rfl))⟩
      | int i =>
        obtain ⟨u, rfl, ru⟩ := vals1 r
        rw [rep_int.mp rx] at ru
        obtain ⟨t, rfl⟩ := ru
        have hs := ok2.1
        simp only [PV.toD, PyData.showable, decide_eq_true_eq] at hs
        exact PySem.P.repr_of_int hs ⟨.str _, H, I.tok _, ⟨_, rfl⟩, o.flat R (rep_str.mpr (by rfl))⟩
      | str i =>
        obtain ⟨u, rfl, ru⟩ := vals1 r
        rw [rep_str.mp rx] at ru
        obtain ⟨t, rfl⟩ := ru
        refine PySem.P.repr_of_str ⟨.str _, H, I.tok _, ⟨_, rfl⟩, o.flat R (rep_str.mpr (by rfl))⟩ ?_
        have := ok2.2
        rw [LIM_eq] at this
        exact this
      | tup ps =>
        obtain ⟨c1, c2⟩ := dat_can (.tup ps) 60 ok.1
        refine fin (PV.tup ps).toD x rfl (fun u ru => ?_) c1 (by omega) ok.2 o
        obtain ⟨a, ys, rfl, ht, rr⟩ := rep_tup.mp rx
        cases ru
        obtain ⟨as, rd⟩ := Dp.reads I (PV.tup ps).toD _ _ (dat_dp (.tup ps) 60 _ ok.1 rx) rfl
        exact ⟨a, as, rfl, rd⟩
    · exact o.elim
theorem cb_list : CallR X (.type "list") (rC X.K .list) := by
  intro pins s σ H xs us Q I r h
  obtain ⟨vs, β, M, w, R, rs, o⟩ := h
  unfold bcallM at o
  split at o <;> try contradiction
  rename_i v _ _
  split at o
  · rename_i ps e
    obtain ⟨x, rfl, rx⟩ := reps1 rs
    obtain ⟨a, ys, rfl, hq, rr⟩ := seq_rep R e rx
    refine call_list_of pins s σ H _ us Q I r ⟨a, ys, rfl, ?_, fun l hl => o.lst R rr hl⟩
    rcases hq with hq | hq
    · exact .inl hq
    · exact .inr hq.sq
  · exact o.elim
theorem cb_tuple : CallR X (.type "tuple") (rC X.K .tuple) := by
  intro pins s σ H xs us Q I r h
  obtain ⟨vs, β, M, w, R, rs, o⟩ := h
  unfold bcallM at o
  split at o <;> try contradiction
  rename_i v _ _
  split at o
  · rename_i ps e
    obtain ⟨x, rfl, rx⟩ := reps1 rs
    obtain ⟨a, ys, rfl, hq, rr⟩ := seq_rep R e rx
    obtain ⟨u, rfl, ru⟩ := vals1 r
    cases ru
    rcases hq with hq | hq
    · obtain ⟨its, r', pl, hz⟩ := I.list hq
      have hlen := r'.length
      refine call_tuple_list pl.isList (fun h' kp => ?_) (by rw [List.size_toArray]; omega)
      have I1 : Inv X pins σ H { s with heap := h' } := I.kept (t' := s.toks) kp
      exact ⟨.ref h'.objs.size, _, newTup I1 r' hz, rfl, o.tup R rr (I1.hok.fresh (Nat.le_refl _)) rfl⟩
    · obtain ⟨its, r', pl, hz⟩ := I.tuple hq.sq
      exact call_tuple_same pl ⟨.ref a, H, I, rfl, o.flat R (rep_tup.mpr ⟨a, ys, rfl, hq, rr⟩)⟩
  · exact o.elim

/-! ### methods -/
theorem all_app {p : PV → Bool} {xs ys : List PV} (h1 : xs.all p = true) (h2 : ys.all p = true) : (xs ++ ys).all p = true := by rw [List.all_append, h1, h2]; rfl
theorem mm_append : MtR X "list.append" (rMt X.K .append) := by
  intro pins s σ H x xs v us Q I rx rv h
  obtain ⟨pv, vs, β, M, w, R, hx, hs, o⟩ := h
  unfold methM at o
  split at o <;> try contradiction
  rename_i n y _
  split at o
  · rename_i ys e
    split at o
    · rename_i hz
      obtain ⟨a, zs, b1, hl, rl⟩ := R.lst e
      obtain ⟨z, rfl, rz⟩ := reps1 hs
      rw [hx.ref_of b1] at rx
      refine mt_append pins s σ H _ _ v us Q I rx rv ⟨a, zs, z, rfl, rfl, hl, by rw [← LIM_eq, ← rl.length]; exact hz, ?_⟩
      refine o.put R e b1 hl (rl.append (.one rz)) (fun he b hb => all_app hb ?_) _ (rep_non.mpr rfl)
      by_cases hp : y.pure = true
      · rw [List.all_cons, pure_bnd hp]; rfl
      · rw [if_neg hp] at he; cases he
    · exact o.elim
  · exact o.elim
theorem all_pure {ys : List PV} (h : ys.all PV.pure = true) (b : Nat) : ys.all (PV.bnd b) = true := bnds_mono (Nat.zero_le _) h
theorem mm_extend : MtR X "list.extend" (rMt X.K .extend) := by
  intro pins s σ H x xs v us Q I rx rv h
  obtain ⟨pv, vs, β, M, w, R, hx, hs, o⟩ := h
  unfold methM at o
  split at o <;> try contradiction
  rename_i n m _ _ _
  split at o
  · rename_i ps qs e1 e2
    split at o
    · rename_i hz
      obtain ⟨a, zs, b1, hl, rl⟩ := R.lst e1
      obtain ⟨b, ws, b2, hl2, rl2⟩ := R.lst e2
      obtain ⟨z, rfl, rz⟩ := reps1 hs
      rw [hx.ref_of b1] at rx
      rw [rz.ref_of b2] at rv
      refine mt_extend pins s σ H _ _ v us Q I rx rv ⟨a, b, zs, ws, rfl, rfl, hl, hl2, by rw [← LIM_eq, ← rl.length, ← rl2.length]; exact hz, ?_⟩
      refine o.put R e1 b1 hl (rl.append rl2) (fun he b hb => all_app hb ?_) _ (rep_non.mpr rfl)
      by_cases hp : qs.all PV.pure = true
      · exact all_pure hp b
      · rw [if_neg hp] at he; cases he
    · exact o.elim
  · exact o.elim
theorem all_erase {p : PV → Bool} : ∀ {xs : List PV} (j : Nat), xs.all p = true → (xs.eraseIdx j).all p = true
  | [], _, _ => rfl
  | x :: xs, 0, h => by rw [List.all_cons, Bool.and_eq_true] at h; exact h.2
  | x :: xs, j + 1, h => by
    rw [List.all_cons, Bool.and_eq_true] at h
    rw [List.eraseIdx_cons_succ, List.all_cons, h.1, all_erase j h.2]; rfl
theorem mm_pop : MtR X "list.pop" (rMt X.K .pop) := by
  intro pins s σ H x xs v us Q I rx rv h
  obtain ⟨pv, vs, β, M, w, R, hx, hs, o⟩ := h
  unfold methM at o
  split at o <;> try contradiction
  rename_i n i _
  split at o
  · rename_i ps e1
    split at o
    · rename_i j ej
      split at o
      · rename_i p ep
        obtain ⟨a, zs, b1, hl, rl⟩ := R.lst e1
        obtain ⟨z, rfl, rz⟩ := reps1 hs
        rw [rep_int.mp rz] at rv
        rw [hx.ref_of b1] at rx
        rw [ixOf_eq, rl.length] at ej
        obtain ⟨q1, q2, q3, q4⟩ := ixN_seq ej
        obtain ⟨y, ey, ry⟩ := rl.get ep
        have hzl := (I.lstM hl).1
        have hsl := sizeLine_eq
        refine mt_popAt pins s σ H _ _ v us Q I rx rv ⟨a, zs, i, j, y, rfl, rfl, hl, by omega, by omega, q1, ey, ?_⟩
        refine o.put R e1 b1 hl (rl.erase j) (fun _ b hb => all_erase j hb) _ ?_
        exact ry.mono (fun _ _ => tup_upd_lst hl) fun _ _ h => h
      · exact o.elim
    · exact o.elim
  · exact o.elim
theorem mm_reverse : MtR X "list.reverse" (rMt X.K .reverse) := by
  intro pins s σ H x xs v us Q I rx rv h
  obtain ⟨pv, vs, β, M, w, R, hx, hs, o⟩ := h
  unfold methM at o
  split at o <;> try contradiction
  rename_i n _ _ _
  split at o
  · rename_i ps e1
    obtain ⟨a, zs, b1, hl, rl⟩ := R.lst e1
    have e := reps_nil.mp hs
    subst e
    rw [hx.ref_of b1] at rx
    refine mt_reverse pins s σ H _ _ v us Q I rx rv ⟨a, zs, rfl, rfl, hl, ?_⟩
    exact o.put R e1 b1 hl rl.rev (fun _ b hb => by rw [List.all_reverse]; exact hb) _ (rep_non.mpr rfl)
  · exact o.elim
theorem mm_clear : MtR X "list.clear" (rMt X.K .clear) := by
  intro pins s σ H x xs v us Q I rx rv h
  obtain ⟨pv, vs, β, M, w, R, hx, hs, o⟩ := h
  unfold methM at o
  split at o <;> try contradiction
  rename_i n _ _ _
  split at o
  · rename_i ps e1
    obtain ⟨a, zs, b1, hl, rl⟩ := R.lst e1
    have e := reps_nil.mp hs
    subst e
    rw [hx.ref_of b1] at rx
    refine mt_clear pins s σ H _ _ v us Q I rx rv ⟨a, zs, rfl, rfl, hl, ?_⟩
    exact o.put R e1 b1 hl (reps_nil.mpr rfl) (fun _ b hb => rfl) _ (rep_non.mpr rfl)
  · exact o.elim
/-- where the first equal one stands -/
theorem find_toD {v : PV} (hv : shallow v = true) {xs : List PV} (hx : xs.all shallow = true) {j : Nat} (h : xs.findIdx? (fun x => x.eqv v) = some j) :
    (∃ z, (PV.toD.toDs xs)[j]? = some z ∧ PyData.eqv z v.toD = true) ∧ ∀ (m : Nat) z, m < j → (PV.toD.toDs xs)[m]? = some z → PyData.eqv z v.toD = false := by
  rw [List.findIdx?_eq_some_iff_getElem] at h
  obtain ⟨hj, h1, h2⟩ := h
  have sh : ∀ (m : Nat) (hm : m < xs.length), shallow xs[m] = true := fun m hm => List.all_eq_true.mp hx _ (List.getElem_mem hm)
  rw [toDs_eq]
  refine ⟨⟨xs[j].toD, by rw [List.getElem?_map, List.getElem?_eq_getElem hj]; rfl, by rw [eqv_toD _ _ 60 60 (sh j hj) hv]; exact h1⟩, fun m z hm e => ?_⟩
  rw [List.getElem?_map, List.getElem?_eq_getElem (Nat.lt_trans hm hj)] at e
  cases e
  rw [eqv_toD _ _ 60 60 (sh m (Nat.lt_trans hm hj)) hv]
  exact eq_false_of_ne_true (by simpa using h2 m hm)
/-- t.index(x) of a tuple of plain data -/
theorem mt_tupIndex (hu : X.A.units + 65 < cLine) : MtR X "tuple.index" (fun x xs H Q => ∃ (a : Addr) (y : V) (d : PyData) (zs : List V) (ds : List PyData) (j : Nat) (z : PyData), x = V.ref a ∧ xs = [y] ∧ SqT X.K H a zs ∧ DpAll X.K H zs ds ∧ Dp X.K H y d ∧
    SeqAt.shaped (.list ds) = true ∧ SeqAt.shaped d = true ∧ ds[j]? = some z ∧ PyData.eqv z d = true ∧ (∀ (m : Nat) (z' : PyData), m < j → ds[m]? = some z' → PyData.eqv z' d = false) ∧ Q (.int (j : Nat)) H) := by
  intro pins s σ H x xs v us Q I rx rxs h
  obtain ⟨a, y, d, zs, ds, j, z, rfl, rfl, hs, ha, hy, sl, sd, hz, hzj, hno, q⟩ := h
  cases rx
  obtain ⟨uy, rfl, ry⟩ := vals1 rxs
  obtain ⟨bs, r1⟩ := Dp.reads I d y uy hy ry
  have hxs : PyData.canLayAll0 ds = true := SeqAt.canLay_of_shaped sl
  have hroom : X.A.units + 1 + min (PyData.depthAll ds) d.depth < cLine := room_in sd hu
  obtain ⟨its, rv, pl, hlen⟩ := I.tuple hs
  obtain ⟨⟨cls, dd, data, sls⟩, ho, hc, n, hdt⟩ := pl
  simp only at hc hdt
  subst hc hdt
  obtain ⟨as, h4⟩ := Dp.readsAll I ds _ its ha rv
  have hn : its.length = ds.length := SeqAt.ReadsAll.length ds its as h4
  have hmap : its.map (SeqAt.readOf s.heap) = ds := SeqAt.readsAll_map ds its as hxs h4
  obtain ⟨hjd, _⟩ := List.getElem?_eq_some_iff.mp hz
  have hjl : j < its.length := by omega
  have hj : j < its.toArray.size := by simpa using hjl
  have at_ : ∀ (m : Nat) (hm : m < its.toArray.size) (z' : PyData), ds[m]? = some z' → SeqAt.readOf s.heap its.toArray[m] = z' := by
    intro m hm z' hz'
    have hml : m < its.length := by simpa using hm
    rw [← hmap, List.getElem?_map, List.getElem?_eq_getElem hml] at hz'
    have e1 : SeqAt.readOf s.heap its[m] = z' := Option.some.inj hz'
    simpa using e1
  refine call_meets PySem.F.slot_tuple_index ⟨_, ho, rfl⟩ PySem.F.entry_tuple_index (PySem.F.args_tuple_index_2 _ _)
    (TI.tuple_indexAt a its.toArray n dd sls uy (fun u => PyData.eqv (SeqAt.readOf s.heap u) d) j hj ?_ ?_)
    ⟨ho, SeqAt.items_eqAt (vs := its.toArray) (show ReadsAll s.heap its.toArray.toList ds as from h4) r1 hxs (SeqAt.canLay_of_shaped sd) hroom, ?_⟩
  · show PyData.eqv (SeqAt.readOf s.heap its.toArray[j]) d = true
    rw [at_ j hj z hz]
    exact hzj
  · intro m hm hmj
    show PyData.eqv (SeqAt.readOf s.heap its.toArray[m]) d = false
    have hmd : m < ds.length := by
      have : m < its.length := by simpa using hm
      omega
    rw [at_ m hm ds[m] (List.getElem?_eq_getElem hmd)]
    exact hno m _ hmj (List.getElem?_eq_getElem hmd)
  · exact ⟨.int (j : Nat), H, I.tok _, ⟨_, rfl⟩, q⟩
theorem methM_index (v : PV) (vs : List PV) (M : Mem) : methM .index v vs M = (match vs with
    | [w] => (match seq? v M with
      | some xs => if xs.all shallow && shallow w then (match xs.findIdx? (fun x => x.eqv w) with | some j => .ok (.int j) M | none => .stuck) else .stuck
      | none => .stuck)
    | _ => .stuck) := by
  match vs with
  | [] => cases v <;> rfl
  | [w] => cases v <;> rfl
  | _ :: _ :: _ => cases v <;> rfl
theorem index_look {K : PySem.W.Frag} {β : List Addr} {H : Hp} {M : Mem} {v : PV} {vs : List PV} {Q : VK} {w : WM} (o : Out K β M H (methM .index v vs M) (kQ K Q) w) :
    ∃ u xs j, vs = [u] ∧ seq? v M = some xs ∧ xs.all shallow = true ∧ shallow u = true ∧ xs.findIdx? (fun x => x.eqv u) = some j ∧ Out K β M H (.ok (.int j) M) (kQ K Q) w := by
  rw [methM_index] at o
  match vs, o with
  | [], o => exact o.elim
  | _ :: _ :: _, o => exact o.elim
  | [u], o =>
    simp only at o
    split at o
    · rename_i xs e
      split at o
      · rename_i hc
        rw [Bool.and_eq_true] at hc
        split at o
        · rename_i j ej
          exact ⟨_, xs, j, rfl, e, hc.1, hc.2, ej, o⟩
        · exact o.elim
      · exact o.elim
    · exact o.elim
theorem mm_indexT (hu : X.A.units + 65 < cLine) : MtR X "tuple.index" (fun x xs H Q => (∃ a zs, x = .ref a ∧ Tup X.K H a zs) ∧ ∃ ps vs β M w, RelH X.K β M H ∧ Rep X.K H β (.tup ps) x ∧ Reps X.K H β vs xs ∧ Out X.K β M H (methM .index (.tup ps) vs M) (kQ X.K Q) w) := by
  intro pins s σ H x xs v us Q I rx rv h
  obtain ⟨_, ps, vs, β, M, w, R, hx, hs, o⟩ := h
  obtain ⟨u, qs, j, rfl, e, h1, h2, h3, o⟩ := index_look o
  cases e
  obtain ⟨y, rfl, ry⟩ := reps1 hs
  obtain ⟨a, zs, rfl, ht, rs⟩ := rep_tup.mp hx
  obtain ⟨⟨z, f1, f2⟩, f3⟩ := find_toD h2 h1 h3
  exact mt_tupIndex hu pins s σ H _ _ v us Q I rx rv ⟨a, y, u.toD, zs, _, j, z, rfl, rfl, ht.sq, dats_dp ps 60 zs (shallows h1) rs, shal_dp h2 ry, shaped_list h1, shaped_of h2, f1, f2, f3, o.flat R (rep_int.mpr rfl)⟩
theorem mm_indexL (hu : X.A.units + 65 < cLine) : MtR X "list.index" (fun x xs H Q => ∃ n vs β M w, RelH X.K β M H ∧ Rep X.K H β (.ref n) x ∧ Reps X.K H β vs xs ∧ Out X.K β M H (methM .index (.ref n) vs M) (kQ X.K Q) w) := by
  intro pins s σ H x xs v us Q I rx rv h
  obtain ⟨n, vs, β, M, w, R, hx, hs, o⟩ := h
  obtain ⟨u, qs, j, rfl, e, h1, h2, h3, o⟩ := index_look o
  obtain ⟨y, rfl, ry⟩ := reps1 hs
  obtain ⟨a, zs, e1, e2, e3⟩ := R.list (show M.lst? n = some qs from e)
  rw [hx.ref_of e1] at rx
  obtain ⟨⟨z, f1, f2⟩, f3⟩ := find_toD h2 h1 h3
  exact mt_indexD hu pins s σ H _ _ v us Q I rx rv ⟨a, y, u.toD, _, j, z, rfl, rfl, .lst e2 (dats_dp qs 60 zs (shallows h1) e3), shal_dp h2 ry, shaped_list h1, shaped_of h2, f1, f2, f3, o.flat R (rep_int.mpr rfl)⟩
end
end Mn
end
section
set_option Elab.async false
set_option linter.all false
set_option maxRecDepth 100000
set_option maxHeartbeats 4000000
namespace Mn
open PySem PySem.Spec PyProof.Rows L2

/-! ### enumerate over a tuple -/
section
open AutoSeq1 (wpAny_loadPart')
theorem enum_newT (l : Addr) (items : Array Value) (n : Nat) (dct : Option Addr) (sl : Array (Option Value)) :
    Meets (Builtin.«enumerate.__new__» ⟨[.type "enumerate", .ref l], []⟩) (fun _ R s => s.heap.get? l = some { cls := .type "tuple", dict := dct, data := .seq items n, slots := sl } ∧
      R (.ok (.ret (.ref (s.heap.push { cls := .type "tuple_iterator", data := .fields #[.ref l, .int 0 0] }).objs.size)))
        { s with heap := (s.heap.push { cls := .type "tuple_iterator", data := .fields #[.ref l, .int 0 0] }).push { cls := .type "enumerate", data := .fields #[.none, .bool false, .ref s.heap.objs.size, rawInt 0, .none, .none] } }) :=
  .of_wp fun prog w A R s h => by
    obtain ⟨hp, g, d, tk, os⟩ := s; obtain ⟨hl, h⟩ := h
    have hsub := sub_enumerate
    have hL : Heap.IsTuple (Shared.heap ⟨hp, g, d, tk, os⟩) l items := ⟨_, hl, rfl, n, rfl⟩
    wp_walk using wpAny_loadPart' hl
    refine wpAny_stack_any fun st => wpAny_pure ?_
    split
    · rename_i c _ _ _ _ _
      cases (c == Value.type "enumerate")
      · wp_walk using wpAny_loadPart' hl, wpAny_pyIter_tuple hL
        exact ⟨_, rfl, h⟩
      · wp_walk using wpAny_loadPart' hl, wpAny_pyIter_tuple hL
        exact ⟨_, rfl, h⟩
    · wp_walk using wpAny_loadPart' hl, wpAny_pyIter_tuple hL
      exact ⟨_, rfl, h⟩
end
section
variable {prog : Program} {w : World} {A : Around} {E : Value → Shared → Prop} {s : Shared}
theorem call_enumT {l : Addr} {items : Array Value} {Q : Value → Shared → Prop} (hL : s.heap.IsTuple l items)
    (h : ∀ h', IsEnum h' (s.heap.objs.size + 1) s.heap.objs.size 0 .none → h'.IsTupleIter s.heap.objs.size l 0 → h'.objs.size = s.heap.objs.size + 2 →
      (∀ b o, s.heap.get? b = some o → h'.get? b = some o) → Q (.ref (s.heap.objs.size + 1)) { s with heap := h' }) :
    wpAny (model prog w) A (call (.type "enumerate") [.ref l]) Q E s := by
  obtain ⟨⟨c, dct, dt, sl⟩, hl, hc, n, hd⟩ := hL
  replace hc : c = .type "tuple" := hc
  replace hd : dt = .seq items n := hd
  subst hc hd
  refine callType_new F.called_enumerate (by decide) (F.typeCall_enumerate_1 _) (F.newCall_enumerate_1 _) (fun obj => F.args_object_init_2 obj _) F.entry_enumerate_new
    (enum_newT l items n dct sl) ⟨hl, ?_⟩
  generalize hit : ({ cls := .type "tuple_iterator", data := .fields #[.ref l, .int 0 0] } : Obj) = oi
  generalize hen : ({ cls := .type "enumerate", data := .fields #[.none, .bool false, .ref s.heap.objs.size, rawInt 0, .none, .none] } : Obj) = oe
  have hz : (s.heap.push oi).objs.size = s.heap.objs.size + 1 := Heap.size_push ..
  show _ ∧ _
  rw [hz]
  have he0 := Heap.get?_push_size (s.heap.push oi) (o := oe) (by rw [← hen]; rfl)
  rw [hz] at he0
  have he : IsEnum ((s.heap.push oi).push oe) (s.heap.objs.size + 1) s.heap.objs.size 0 .none := by rw [← hen] at he0 ⊢; exact he0
  have hi0 := Heap.get?_push_size s.heap (o := oi) (by rw [← hit]; rfl)
  refine ⟨⟨_, he0, by rw [← hen]⟩, h _ he ⟨_, Heap.get?_push_of_some _ hi0, by rw [← hit], by rw [← hit]; rfl⟩ (by rw [Heap.size_push, hz]) fun b o x => Heap.get?_push_of_some _ (Heap.get?_push_of_some _ x)⟩
theorem draws_tuple (hh : A.handled = none) (it l : Addr) (hne : l ≠ it) (items : Array Value) :
    Draws prog w A it [it, l] items.size (fun i v => items[i]? = some v) (fun i h => h.IsTupleIter it l i ∧ h.IsTuple l items) where
  live := fun _ _ st => let ⟨o, ho, _⟩ := st.1; ⟨o, ho⟩
  frame := fun _ _ _ st hk => ⟨by
      obtain ⟨o, ho, r⟩ := st.1
      exact ⟨o, hk it (by simp) o ho, r⟩, by
      obtain ⟨o, ho, r⟩ := st.2
      exact ⟨o, hk l (by simp) o ho, r⟩⟩
  item := fun i s Q E hi st hQ => by
    refine PySem.wpAny_nextOf_tuple_item st.1 st.2 (x := items[i]) (by simp [hi]) fun h' hit' hs' => ?_
    exact hQ _ h' s.toks (by simp [hi]) ⟨hit', by
      obtain ⟨o, ho, r⟩ := st.2
      exact ⟨o, (hs'.2 l hne).trans ho, r⟩⟩ hs'
  done := fun s Q E st hE => PySem.wpAny_nextOf_tuple_end hh st.1 st.2 (by simp) hE
end
/-- the tuple at a, the items in new pairs with their places -/
def IteT (K : PySem.W.Frag) (a : Addr) : It :=
  ⟨fun i H => ∃ (xs : List V) (x : V), SqT K H a xs ∧ xs[i]? = some x, fun i H v H' => ∃ T x, v = .ref T ∧ H T = none ∧ H' = upd H T (.tup [.int (i : Nat), x]) ∧ ∀ xs, SqT K H a xs → xs[i]? = some x, fun i H => ∃ xs : List V, SqT K H a xs ∧ xs.length = i⟩
theorem turn_enumT {P : Program} {w : World} {K : PySem.W.Frag} {elts : List Expr} {kk : Nat} {tpos : Pos} (a e it : Addr) (hae : a ≠ e) (hai : a ≠ it) :
    Turn P w K (.Tuple elts kk tpos) (IteT K a) [e, it] e (fun i h => (∃ old, IsEnum h e it ((i : Nat) : Int) old) ∧ h.IsTupleIter it a i ∧ e ≠ it) where
  mem := by simp
  obj := fun i h st b hb => by
    obtain ⟨⟨old, he⟩, ⟨o, ho, hc, hd⟩, _⟩ := st
    have e' : b = e ∨ b = it := by simpa using hb
    rcases e' with z | z
    · rw [z]; exact ⟨_, he, fun v q => nomatch q⟩
    · rw [z]; exact ⟨o, ho, fun v q => by rw [hd] at q; cases q⟩
  keep := fun i h h' st k => by
    obtain ⟨⟨old, he⟩, ⟨o, ho, r⟩, hne⟩ := st
    exact ⟨⟨old, k e (by simp) _ he⟩, ⟨o, k it (by simp) o ho, r⟩, hne⟩
  item := by
    intro X hP hw hK hc i pins s σ H E I hf st hg
    subst hP hw hK
    obtain ⟨⟨old, he⟩, hit, hne⟩ := st
    obtain ⟨xs, x, hq, hx⟩ := hg
    obtain ⟨its, rv, p, hz⟩ := I.tuple hq
    obtain ⟨u, hu, ru⟩ := rv.get hx
    have hel : e < s.heap.objs.size := Heap.lt_size he
    have hil : it < s.heap.objs.size := by obtain ⟨_, q, _⟩ := hit; exact Heap.lt_size q
    have hlt : i < its.toArray.size := by
      rw [List.size_toArray]
      exact (List.getElem?_eq_some_iff.mp hu).1
    refine wpAny_pyNext_enum_itemD (draws_tuple (A := X.A.in1) (show X.A.in1.handled = none from I.ok.hd hc) it a hai its.toArray) he ⟨hit, p⟩ hlt hne (by
      intro hm
      have : e = it ∨ e = a := by simpa using hm
      rcases this with z | z
      · exact hne z
      · exact hae z.symm) fun u' h' tk hu' ho hst' hT hsz hk => ?_
    have eu : u' = u := by
      rw [List.getElem?_toArray] at hu'
      rw [hu] at hu'
      exact (Option.some.inj hu').symm
    subst eu
    refine ⟨_, rfl, wpAny_letOwnedTupleGo_enum (s := { s with heap := h', toks := tk + 1 }) ho fun h'' he' sb => ?_⟩
    have hT2 := (sb.2 _ (Nat.ne_of_gt hel)).trans hT
    have new : ObjOk X.prog X.w (upd H s.heap.objs.size (.tup [.int (i : Nat), x])) h'' s.heap.objs.size (.tup [.int (i : Nat), x]) :=
      ⟨by show 2 ≤ sizeLine; decide, [.int i tk, u'], .cons ⟨_, rfl⟩ (.cons ru .nil), ⟨_, hT2, rfl, _, rfl⟩⟩
    have I1 : Inv X pins σ (upd H s.heap.objs.size (.tup [.int (i : Nat), x])) { s with heap := h'', toks := tk + 1 } :=
      I.turnedNew (ch := [e, it]) (fun b ob hb q => (sb.2 b (fun z => hb (by simp [z]))).trans (hk b ob (fun z => hb (by simp [z])) (fun z => hb (by simp [z])) q)) hf (Nat.le_refl _) new
    refine ⟨.ref s.heap.objs.size, _, I1, rfl, ⟨_, x, rfl, I.hok.fresh (Nat.le_refl _), rfl, fun ys hy => by rw [I.tuple_inj hy hq]; exact hx⟩, ⟨⟨u', ?_⟩, ?_, hne⟩, fun b hb => ?_⟩
    · have e1 : ((i + 1 : Nat) : Int) = (i : Int) + 1 := by omega
      rw [e1]; exact he'
    · obtain ⟨o, ho, r⟩ := hst'.1
      exact ⟨o, (sb.2 it (Ne.symm hne)).trans ho, r⟩
    · have hb' : b < s.heap.objs.size := by
        have e' : b = e ∨ b = it := by simpa using hb
        rcases e' with z | z
        · rw [z]; exact hel
        · rw [z]; exact hil
      rw [upd_ne (Nat.ne_of_lt hb')]
      exact (hf b hb).1
  done := by
    intro X hP hw hK hc i pins s σ H E I hf st hg
    subst hP hw hK
    obtain ⟨⟨old, he⟩, hit, hne⟩ := st
    obtain ⟨xs, hq, hx⟩ := hg
    obtain ⟨its, rv, p, hz⟩ := I.tuple hq
    obtain ⟨f0, f1, f2, f3, f4, f5⟩ := hf it (by simp)
    have hl := rv.length
    have hn : its.toArray.size = i := by rw [List.size_toArray]; omega
    refine wpAny_pyNext_enum_endD (draws_tuple (A := X.A.in1) (show X.A.in1.handled = none from I.ok.hd hc) it a hai its.toArray) he ⟨by rw [hn]; exact hit, p⟩ fun h' eb => ⟨rfl, I.turned (t' := s.toks) (fun b o hb q => eb b o hb q) f0 f1 f3 f4 f5⟩
  self := fun A i s Q E st h => let ⟨⟨_, he⟩, _⟩ := st; wpAny_pyIter_enum he h
def iEnumA (K : PySem.W.Frag) (ta : TA) : TI := fun σ H R => ta σ H fun vs H1 => ∃ a xs, vs = [.ref a] ∧ ((SqL K H1 a xs ∧ R (Ite K a) H1) ∨ (SqT K H1 a xs ∧ R (IteT K a) H1))
theorem pi_enumA {X : Cx} {e : Expr} {ta : TA} {p pos tpos : Pos} {elts : List Expr} {kk : Nat} (hg : Gl X "enumerate") (hm : X.mg "enumerate" = none) (ha : PA X [e] ta) (hs : starEach [e] X.env = [(false, eval e X.env)]) :
    PI X (.Tuple elts kk tpos) (.Call (.Name "enumerate" p) [e] [] pos) (iEnumA X.K ta) := by
  refine ⟨fun pins s σ H R I h => ?_⟩
  refine Call_ (ld_blt I hg hm boot_enumerate (PyProof.Rows.callWith_type1 (thn (ha.run pos pins s σ H _ I h) fun us s1 ⟨vs, H1, I1, r1, q1⟩ => ?_) hs rfl))
  obtain ⟨a, xs, ex, hq⟩ := q1
  subst ex
  have eu := Vals.ref1 r1
  subst eu
  have fp : ∀ b ∈ [s1.heap.objs.size + 1, s1.heap.objs.size], FpOk X pins H1 b := fun b hb => by
    have hle : s1.heap.objs.size ≤ b := by
      have e' : b = s1.heap.objs.size + 1 ∨ b = s1.heap.objs.size := by simpa using hb
      omega
    exact I1.fpOk hle (I1.hok.fresh hle)
  rcases hq with ⟨hq, q⟩ | ⟨hq, q⟩
  · obtain ⟨its, rv, p', hz⟩ := I1.list hq
    refine call_enumerate_list p'.isList fun h' he hit hsz hk => wpAny_pyIter_enum he ?_
    exact ⟨s1.heap.objs.size + 1, _, _, _, H1, rfl, I1.kept (t' := s1.toks) hk, turn_enum a (s1.heap.objs.size + 1) s1.heap.objs.size, ⟨⟨.none, he⟩, hit, Nat.succ_ne_self _⟩, fp, q⟩
  · obtain ⟨its, rv, p', hz⟩ := I1.tuple hq
    have hal : a < s1.heap.objs.size := p'.lt
    refine call_enumT p' fun h' he hit hsz hk => wpAny_pyIter_enum he ?_
    exact ⟨s1.heap.objs.size + 1, _, _, _, H1, rfl, I1.kept (t' := s1.toks) hk, turn_enumT a (s1.heap.objs.size + 1) s1.heap.objs.size (Nat.ne_of_lt (Nat.lt_succ_of_lt hal)) (Nat.ne_of_lt hal), ⟨⟨.none, he⟩, hit, Nat.succ_ne_self _⟩, fp, q⟩
end Mn
end
section
set_option Elab.async false
set_option linter.all false
set_option maxRecDepth 100000
set_option maxHeartbeats 4000000
namespace Mn
open PySem PySem.Spec PyProof.Rows L2

/-! ### the look: does the small syntax tell the text? -/
/-- a scope as it runs, and which of its cells may be written (none: all) -/
structure SC where
  sc : Scope
  fnl : Option (List Str)
def SC.fnOk (S : SC) (x : Str) : Bool := match S.fnl with | none => true | some l => l.contains x
def visB (sc : Scope) (x : Str) : Bool := match sc.names.lookup x with | some .local => true | some .cell => true | some .free => true | _ => false
def glB (sc : Scope) (x : Str) : Bool := match sc.names.lookup x with | some .globalImplicit => true | _ => false
def nmB (x : Str) : Bool := !(x == ("__debug__" : Str)) && !(x == ("__classdict__" : Str))
def locB (S : SC) (x : Str) : Bool := match S.sc.names.lookup x with | some .local => true | some .cell => S.fnOk x | _ => false
def BF.id : BF → Option Str
  | .len => some "len" | .all => some "all" | .any => some "any" | .int => some "int" | .list => some "list" | .tuple => some "tuple" | .sum => some "sum"
  | .max2 => some "max" | .min2 => some "min" | .max1 => some "max" | .min1 => some "min" | .sorted => some "sorted" | .repr => some "repr" | _ => none
def MF.id : MF → Str
  | .append => "append" | .extend => "extend" | .index => "index" | .pop => "pop" | .reverse => "reverse" | .insert => "insert" | .clear => "clear" | .count => "count" | .join => "join"
def TyK.id : TyK → Str
  | .list => "list" | .tuple => "tuple" | .bool => "bool" | .int => "int" | .str => "str"
def notStar : Expr → Bool
  | .Starred _ _ => false
  | _ => true
def notSlice : Expr → Bool
  | .Slice _ _ _ _ => false
  | _ => true
/-- no call without arguments (super) -/
def notCall0 : Expr → Bool
  | .Call _ [] _ _ => false
  | _ => true
def notSet : Expr → Bool
  | .Set _ _ _ => false
  | _ => true
def notIf : Expr → Bool
  | .IfExp _ _ _ _ => false
  | _ => true
def MEs.len : MEs → Nat
  | .nil => 0
  | .cons _ es => es.len + 1
mutual
def MG.slots : MG → List Nat
  | .name i => [i]
  | .tup gs => gs.slots
def MGs.slots : MGs → List Nat
  | .nil => []
  | .cons g gs => g.slots ++ gs.slots
end
mutual
/-- a target -/
def chkG (N : List Str) (S : SC) : MG → Expr → Bool
  | .name i, e => (match e with | .Name x _ => (N[i]? == some x) && locB S x | _ => false)
  | .tup gs, e => (match e with | .Tuple xs _ _ => chkGs N S gs xs | _ => false)
def chkGs (N : List Str) (S : SC) : MGs → List Expr → Bool
  | .nil, es => es.isEmpty
  | .cons g gs, es => (match es with | e :: es => chkG N S g e && notStar e && chkGs N S gs es | [] => false)
end
def isTup : Expr → Bool
  | .Tuple _ _ _ => true
  | _ => false
/-- the names of a comprehension's own -/
def ownP (N : List Str) (own : List Nat) : List (Str × Nat) := own.map fun i => ((N[i]?).getD "", i)
def tysB (sc : Scope) : List TyK → List Expr → Bool
  | [], [] => true
  | t :: ts, .Name x _ :: es => (x == t.id) && glB sc x && tysB sc ts es
  | _, _ => false

mutual
def chkE (N : List Str) (fn : List (Nat × Str)) : SC → ME → Expr → Bool
  | S, .var i, e => (match e with | .Name x _ => (N[i]? == some x) && visB S.sc x && nmB x | _ => false)
  | _, .int i, e => (match e with | .Constant (.int j) _ _ => decide (i = j) | _ => false)
  | _, .bl b, e => (match e with | .Constant (.bool c) _ _ => b == c | _ => false)
  | _, .non, e => (match e with | .Constant .none _ _ => true | _ => false)
  | _, .str x, e => (match e with | .Constant (.str y) _ _ => decide (x = y) | _ => false)
  | S, .tup es, e => (match e with | .Tuple xs _ _ => chkEs N fn S es xs | _ => false)
  | S, .lst es, e => (match e with | .List xs _ => chkEs N fn S es xs | _ => false)
  | S, .bin op a b, e => (match e with | .BinOp x op' y _ => (op == op') && chkE N fn S a x && chkE N fn S b y | _ => false)
  | S, .neg a, e => (match e with | .UnaryOp .USub x _ => chkE N fn S a x | _ => false)
  | S, .not a, e => (match e with | .UnaryOp .Not x _ => chkE N fn S a x && notIf x | _ => false)
  | S, .cmp op a b, e => (match e with | .Compare x [op'] [y] _ => (op == op') && chkE N fn S a x && chkE N fn S b y && notSet y | _ => false)
  | S, .chain op1 op2 a b c, e => (match e with | .Compare x [o1, o2] [y, z] _ => (op1 == o1) && (op2 == o2) && chkE N fn S a x && chkE N fn S b y && chkE N fn S c z && notSet y && notSet z | _ => false)
  | S, .and es, e => (match e with | .BoolOp .And xs _ => chkEs N fn S es xs && xs.all notIf | _ => false)
  | S, .or es, e => (match e with | .BoolOp .Or xs _ => chkEs N fn S es xs && xs.all notIf | _ => false)
  | S, .ife c a b, e => (match e with | .IfExp x y z _ => chkE N fn S c x && chkE N fn S a y && chkE N fn S b z && notIf x | _ => false)
  | S, .ix a i, e => (match e with | .Subscript x y _ => chkE N fn S a x && chkE N fn S i y && notSlice y | _ => false)
  | S, .sl a lo hi, e => (match e with | .Subscript x (.Slice l h none _) _ => chkE N fn S a x && chkO N fn S lo l && chkO N fn S hi h | _ => false)
  | S, .stp a st, e => (match e with | .Subscript x (.Slice none none (some y) _) _ => chkE N fn S a x && chkE N fn S st y | _ => false)
  | S, .call f args, e => (match e with | .Call (.Name x _) es [] _ => (fn.lookup f == some x) && glB S.sc x && nmB x && chkEs N fn S args es | _ => false)
  | S, .bcall f args, e => (match f, args, e with
    | .listR1, .cons a .nil, .Call (.Name x _) [.Call (.Name y _) [z] [] _] [] _ => (x == ("list" : Str)) && (y == ("range" : Str)) && glB S.sc x && glB S.sc y && chkE N fn S a z && notStar z
    | .tupR1, .cons a .nil, .Call (.Name x _) [.Call (.Name y _) [z] [] _] [] _ => (x == ("tuple" : Str)) && (y == ("range" : Str)) && glB S.sc x && glB S.sc y && chkE N fn S a z && notStar z
    | .tupRev, .cons a .nil, .Call (.Name x _) [.Call (.Name y _) [z] [] _] [] _ => (x == ("tuple" : Str)) && (y == ("reversed" : Str)) && glB S.sc x && glB S.sc y && chkE N fn S a z && notStar z
    | f, args, .Call (.Name x _) es [] _ => (f.id == some x) && glB S.sc x && chkEs N fn S args es && decide (0 < es.length)
    | _, _, _ => false)
  | S, .meth m o args, e => (match e with | .Call (.Attribute x name apos) es [] cpos => (name == m.id) && chkE N fn S o x && chkEs N fn S args es && notCall0 x && (apos.endLine == cpos.line) && decide (es.length < 20) | _ => false)
  | S, .isi a ts tup, e => (match e with
    | .Call (.Name x _) [y, .Tuple es _ _] [] _ => tup && (x == ("isinstance" : Str)) && glB S.sc x && chkE N fn S a y && notStar y && tysB S.sc ts es
    | .Call (.Name x _) [y, .Name z _] [] _ => !tup && (x == ("isinstance" : Str)) && glB S.sc x && chkE N fn S a y && notStar y && (match ts with | [t] => (z == t.id) && glB S.sc z | _ => false)
    | _ => false)
  | S, .lc own g it cnd elt, e => (match e with
    | .ListComp el [⟨tg, iter, ifs, ia⟩] scope _ => decide (ia = 0) && blkC N S.sc scope (ownP N own) && g.slots.all (fun i => own.contains i) && chkI N fn S it (isTup tg) iter && notSet iter &&
        chkG N ⟨relS scope S.sc, some (scope.names.filterMap fun p => if p.2 == .cell then some p.1 else none)⟩ g tg &&
        (match cnd, ifs with
          | .none, [] => true
          | .some c, [x] => chkE N fn ⟨relS scope S.sc, some (scope.names.filterMap fun p => if p.2 == .cell then some p.1 else none)⟩ c x && notIf x
          | _, _ => false) &&
        chkE N fn ⟨relS scope S.sc, some (scope.names.filterMap fun p => if p.2 == .cell then some p.1 else none)⟩ elt el
    | _ => false)
def chkEs (N : List Str) (fn : List (Nat × Str)) : SC → MEs → List Expr → Bool
  | _, .nil, es => es.isEmpty
  | S, .cons m ms, es => (match es with | e :: es => chkE N fn S m e && notStar e && chkEs N fn S ms es | [] => false)
def chkO (N : List Str) (fn : List (Nat × Str)) : SC → MEo → Option Expr → Bool
  | _, .none, o => o.isNone
  | S, .some m, o => (match o with | some e => chkE N fn S m e | none => false)
/-- tp: the target is a tuple -/
def chkI (N : List Str) (fn : List (Nat × Str)) : SC → MI → Bool → Expr → Bool
  | S, .seq m, _, e => chkE N fn S m e
  | S, .range1 a, _, e => (match e with | .Call (.Name x _) [y] [] _ => (x == ("range" : Str)) && glB S.sc x && chkE N fn S a y && notStar y | _ => false)
  | S, .range2 a b, _, e => (match e with | .Call (.Name x _) [y, z] [] _ => (x == ("range" : Str)) && glB S.sc x && chkE N fn S a y && chkE N fn S b z && notStar y && notStar z | _ => false)
  | S, .enum a, tp, e => (match e with | .Call (.Name x _) [y] [] _ => tp && (x == ("enumerate" : Str)) && glB S.sc x && chkE N fn S a y && notStar y | _ => false)
  | S, .zip a b, tp, e => (match e with | .Call (.Name x _) [y, z] [] _ => tp && (x == ("zip" : Str)) && glB S.sc x && chkE N fn S a y && chkE N fn S b z && notStar y && notStar z | _ => false)
end

/-! ### what stands around -/
/-- a def's promise: what the evaluator says -/
def spM (K : PySem.W.Frag) (cf : CF) (f : Nat) : Sp := fun vs H Q _ => ∃ pvs β M, RelH K β M H ∧ Reps K H β pvs vs ∧ Out K β M H (cf f pvs M) (kQ K Q) (fun _ _ _ _ => False)
/-- a def's promise, kept wherever nothing is being shown -/
structure FnG (P : Program) (w : World) (K : PySem.W.Frag) (mg : Str → Option Value) (base : Heap) (k : Nat) (f : Addr) (fd : FuncData) (ps : List Str) (sp : Sp) : Prop where
  many : ∀ xs H Q E, sp xs H Q E → xs.length = ps.length
  goes : ∀ (B : Around) (out : List Env) (s : Shared) (H : Hp) (as : Args) (us : List Value) (xs : List V) (Q : VK) (E : XK), Room k B → B.guards = some [] → Env0 P w K mg base B out s H → BindsTo s fd as (ps.zip us) → Vals xs us → sp xs H Q E →
    codeAny (model P w) B (.call (.ref f) as) (CR CX0 out P w H s Q E) s
/-- a def of the text is at hand -/
def FnAt (P : Program) (w : World) (K : PySem.W.Frag) (mg : Str → Option Value) (base : Heap) (k : Nat) (cf : CF) (f : Nat) (x : Str) : Prop :=
  ∃ fa fd ps, mg x = some (.ref fa) ∧ PySem.W.keepIn K (.ref fa) = true ∧ Binds K fd ps [] ∧ FnG P w K mg base k fa fd ps (spM K cf f)
def bltNames : List Str := ["len", "all", "any", "int", "list", "tuple", "sum", "max", "min", "range", "enumerate", "zip", "isinstance", "bool", "str", "sorted", "repr", "reversed", "set", "dict"]
structure Gd (X : Cx) (k : Nat) (cf : CF) (fn : List (Nat × Str)) (S : SC) : Prop where
  calm : X.calm = true
  nd : X.N.Nodup
  room : Room k X.A
  gd : X.A.guards = some []
  sc : X.env.scope = S.sc
  fnk : ∀ x, S.fnOk x = true → X.fn x = true
  po : PassesOwn (model X.prog X.w) X.A X.env X.xe
  blt : ∀ x ∈ bltNames, X.mg x = none
  fns : ∀ f x, fn.lookup f = some x → FnAt X.prog X.w X.K X.mg X.base k cf f x

section
variable {X : Cx} {k : Nat} {cf : CF} {fn : List (Nat × Str)} {S : SC}
theorem Gd.hu (G : Gd X k cf fn S) : X.A.units + 65 < cLine := by
  have := G.room.un
  omega
theorem Gd.vis (G : Gd X k cf fn S) {x : Str} (h : visB S.sc x = true) : Vis X.env.scope x := by
  rw [G.sc]
  unfold visB at h
  unfold Vis
  split at h <;> first | (cases h; done) | simp_all
theorem Gd.gl (G : Gd X k cf fn S) {x : Str} (h : glB S.sc x = true) : Gl X x := by
  unfold Gl Env.kindOf
  rw [G.sc]
  unfold glB at h
  split at h <;> first | assumption | cases h
theorem Gd.loc (G : Gd X k cf fn S) {x : Str} (h : locB S x = true) : Loc X.env.scope x ∧ (X.fn x = true ∨ X.env.scope.names.lookup x = some .local) := by
  rw [G.sc]
  unfold locB at h
  split at h
  · rename_i e; exact ⟨.inl e, .inr e⟩
  · rename_i e; exact ⟨.inr e, .inl (G.fnk x h)⟩
  · cases h
theorem nmB_of {x : Str} (h : nmB x = true) : (x == ("__debug__" : Str)) = false ∧ (x == ("__classdict__" : Str)) = false := by
  unfold nmB at h
  simpa using h
theorem notStar_of {e : Expr} {es : List Expr} {env : Env} (h : notStar e = true) : starEach (e :: es) env = (false, eval e env) :: starEach es env := by
  cases e <;> first | rfl | cases h
theorem star_any (pos : Pos) {env : Env} : ∀ {es : List Expr}, es.all notStar = true → (backTo pos (starEach es env)).any (·.1) = false
  | [], _ => rfl
  | e :: es, h => by
    rw [List.all_cons, Bool.and_eq_true] at h
    rw [notStar_of h.1]
    show (false || (backTo pos (starEach es env)).any (·.1)) = false
    rw [star_any pos h.2]
    rfl
theorem chkEs_star {N : List Str} : ∀ {ms : MEs} {es : List Expr}, chkEs N fn S ms es = true → es.all notStar = true
  | .nil, es, h => by
    unfold chkEs at h
    cases es with
    | nil => rfl
    | cons _ _ => cases h
  | .cons m ms, es, h => by
    unfold chkEs at h
    cases es with
    | nil => cases h
    | cons e es =>
      simp only [Bool.and_eq_true] at h
      rw [List.all_cons, h.1.2, chkEs_star h.2]
      rfl
end
end Mn
end
section
set_option Elab.async false
set_option linter.all false
set_option maxRecDepth 100000
set_option maxHeartbeats 4000000
namespace Mn
open PySem PySem.Spec PyProof.Rows L2

section
variable {X : Cx} {w : WS} {a b c e : Expr} {pos : Pos} {ea eb ec : Mn.Ev}

theorem s_var {i : Nat} {x : Str} (hN : X.N[i]? = some x) (hv : Vis X.env.scope x) (hd : (x == ("__debug__" : Str)) = false) (hcd : (x == ("__classdict__" : Str)) = false) :
    PE X (.Name x pos) (tE X.K w (fun σ M => (match σ[i]? with | some (some v) => .ok v M | _ => .stuck))) := by
  refine PE.imp (pe_var hN hv hd hcd) fun σ H Q h => ?_
  obtain ⟨mσ, β, M, R, Sl, o⟩ := h
  simp only at o
  split at o
  · rename_i v ev
    obtain ⟨y, e1, r⟩ := Sl.2 i v ev
    exact ⟨y, e1, o.flat R r⟩
  · exact o.elim
theorem s_const {v : PV} {x : V} (h : PE X e (tC x)) (r : ∀ H β, Rep X.K H β v x) : PE X e (tE X.K w (fun _ M => .ok v M)) := by
  refine PE.imp h fun σ H Q h => ?_
  obtain ⟨mσ, β, M, R, Sl, o⟩ := h
  exact o.flat R (r H β)
theorem s_trim (h : PE X e (tE X.K w ea)) : PE X e (tE X.K w (fun σ M => trim M (ea σ M))) := PE.imp h fun σ H Q q => tE_trim q
/-- two values, then an operation -/
theorem two {f : PV → PV → Mem → Res PV} {σ : L2.St} {H : Hp} {Q : VK} (h : tE X.K w (fun σ M => (ea σ M).bind fun v M1 => (eb σ M1).bind fun u M2 => f v u M2) σ H Q) :
    tE X.K w ea σ H fun x H1 => tE X.K w eb σ H1 fun y H2 => rM X.K f x y H2 Q := by
  obtain ⟨mσ, β, M, R, Sl, o⟩ := h
  obtain ⟨mσ', β', M', R', Sl', o'⟩ := tE_step R Sl o
  refine ⟨mσ', β', M', R', Sl', o'.imp (fun v β1 M1 H1 s1 q x hx => ?_) fun _ _ _ _ _ q => q⟩
  obtain ⟨v1, β2, M2, s2, r2, o2⟩ := q x hx
  have h3 := tE_step (w := w) s2.rel (Sl.stp R s2) o2
  obtain ⟨mσ3, β3, M3, R3, Sl3, o3⟩ := h3
  refine ⟨mσ3, β3, M3, R3, Sl3, o3.imp (fun u β4 M4 H4 s4 q4 y hy => ?_) fun _ _ _ _ _ q => q⟩
  obtain ⟨u1, β5, M5, s5, r5, o5⟩ := q4 y hy
  exact ⟨v1, u1, β5, M5, w σ, s5.rel, s5.rep s2.rel r2, r5, o5⟩
theorem s_bin {op : Operator} (ha : PE X a (tE X.K w ea)) (hb : PE X b (tE X.K w eb)) : PE X (.BinOp a op b pos) (tE X.K w (fun σ M => (ea σ M).bind fun v M1 => (eb σ M1).bind fun u M2 => binM op v u M2)) :=
  PE.imp (pe_op (op_binM op) ha hb) fun σ H Q h => two h
theorem s_cmp {op : CmpOp} (hu : X.A.units + 65 < cLine) (hm : behindInMarks op b = false) (ha : PE X a (tE X.K w ea)) (hb : PE X b (tE X.K w eb)) : PE X (.Compare a [op] [b] pos) (tE X.K w (fun σ M => (ea σ M).bind fun v M1 => (eb σ M1).bind fun u M2 => cmpM op v u M2)) :=
  PE.imp (pe_cmpR (op_cmpM hu op) ha hb hm) fun σ H Q h => two h
theorem s_ix (hs : PlainIx b) (ha : PE X a (tE X.K w ea)) (hb : PE X b (tE X.K w eb)) : PE X (.Subscript a b pos) (tE X.K w (fun σ M => (ea σ M).bind fun v M1 => (eb σ M1).bind fun u M2 => ixM v u M2)) :=
  PE.imp (pe_ix ix_okM ha hb hs) fun σ H Q h => two h
/-- one value, and a continuation -/
theorem one {γ : Type} {f : PV → Mem → Res γ} {k : γ → List Addr → Mem → Hp → Prop} {mσ : Mn.St} {σ : L2.St} {β : List Addr} {M : Mem} {H : Hp} {Q : VK} (R : RelH X.K β M H) (Sl : RelS X.K H β mσ σ)
    (o : Out X.K β M H ((ea mσ M).bind f) k (w σ)) (hq : ∀ v x β1 M1 H1, Stp X.K β M H β1 M1 H1 → Rep X.K H1 β1 v x → RelS X.K H1 β1 mσ σ → Out X.K β1 M1 H1 (f v M1) k (w σ) → Q x H1) : tE X.K w ea σ H Q := by
  obtain ⟨mσ', β', M', R', Sl', o'⟩ := tE_step R Sl o
  refine ⟨mσ', β', M', R', Sl', o'.imp (fun v β1 M1 H1 s1 q x hx => ?_) fun _ _ _ _ _ q => q⟩
  obtain ⟨v1, β2, M2, s2, r2, o2⟩ := q x hx
  exact hq v1 x β2 M2 H1 s2 r2 (Sl.stp R s2) o2
theorem oneT {γ : Type} {f : PV → Mem → Res γ} {k : γ → List Addr → Mem → Hp → Prop} {mσ : Mn.St} {σ : L2.St} {β : List Addr} {M : Mem} {H : Hp} {Q : VK} (R : RelH X.K β M H) (Sl : RelS X.K H β mσ σ)
    (o : Out X.K β M H ((trim M (ea mσ M)).bind f) k (w σ)) (hq : ∀ v x β1 M1 H1, Stp X.K β M H β1 M1 H1 → Rep X.K H1 β1 v x → RelS X.K H1 β1 mσ σ → Out X.K β1 M1 H1 (f v M1) k (w σ) → Q x H1) : tE X.K w ea σ H Q := by
  obtain ⟨mσ', β', M', R', Sl', o'⟩ := tE_stepT R Sl o
  refine ⟨mσ', β', M', R', Sl', o'.imp (fun v β1 M1 H1 s1 q x hx => ?_) fun _ _ _ _ _ q => q⟩
  obtain ⟨v1, β2, M2, s2, r2, o2⟩ := q x hx
  exact hq v1 x β2 M2 H1 s2 r2 (Sl.stp R s2) o2
theorem oneA {γ : Type} {ev : Mn.St → Mem → Res (List PV)} {f : List PV → Mem → Res γ} {k : γ → List Addr → Mem → Hp → Prop} {mσ : Mn.St} {σ : L2.St} {β : List Addr} {M : Mem} {H : Hp} {Q : List V → Hp → Prop} (R : RelH X.K β M H) (Sl : RelS X.K H β mσ σ)
    (o : Out X.K β M H ((ev mσ M).bind f) k (w σ)) (hq : ∀ v x β1 M1 H1, Stp X.K β M H β1 M1 H1 → Reps X.K H1 β1 v x → RelS X.K H1 β1 mσ σ → Out X.K β1 M1 H1 (f v M1) k (w σ) → Q x H1) : tAs X.K w ev σ H Q := by
  obtain ⟨mσ', β', M', R', Sl', o'⟩ := tA_step R Sl o
  refine ⟨mσ', β', M', R', Sl', o'.imp (fun v β1 M1 H1 s1 q x hx => ?_) fun _ _ _ _ _ q => q⟩
  obtain ⟨v1, β2, M2, s2, r2, o2⟩ := q x hx
  exact hq v1 x β2 M2 H1 s2 r2 (Sl.stp R s2) o2
theorem oneB {γ : Type} {ev : Mn.St → Mem → Res Bool} {f : Bool → Mem → Res γ} {k : γ → List Addr → Mem → Hp → Prop} {mσ : Mn.St} {σ : L2.St} {β : List Addr} {M : Mem} {H : Hp} {Q : Bool → Hp → Prop} (R : RelH X.K β M H) (Sl : RelS X.K H β mσ σ)
    (o : Out X.K β M H ((ev mσ M).bind f) k (w σ)) (hq : ∀ b β1 M1 H1, Stp X.K β M H β1 M1 H1 → RelS X.K H1 β1 mσ σ → Out X.K β1 M1 H1 (f b M1) k (w σ) → Q b H1) : tTs X.K w ev σ H Q := by
  obtain ⟨mσ', β', M', R', Sl', o'⟩ := tT_step R Sl o
  refine ⟨mσ', β', M', R', Sl', o'.imp (fun v β1 M1 H1 s1 q => ?_) fun _ _ _ _ _ q => q⟩
  obtain ⟨β2, M2, s2, o2⟩ := q
  exact hq v β2 M2 H1 s2 (Sl.stp R s2) o2
theorem s_neg (ha : PE X a (tE X.K w ea)) : PE X (.UnaryOp .USub a pos) (tE X.K w (fun σ M => (ea σ M).bind fun v M1 => (intR v M1).bind fun i M2 => .ok (.int (-i)) M2)) := by
  refine PE.imp (pe_un un_neg ha) fun σ H Q h => ?_
  obtain ⟨mσ, β, M, R, Sl, o⟩ := h
  refine one R Sl o fun v x β1 M1 H1 s1 r1 S1 o1 => ?_
  cases v with
  | int i => exact ⟨i, rep_int.mp r1, o1.flat s1.rel (rep_int.mpr rfl)⟩
  | _ => exact o1.elim
theorem s_not (ha : PE X a (tE X.K w ea)) : PE X (.UnaryOp .Not a pos) (tE X.K w (fun σ M => (ea σ M).bind fun v M1 => (truth v M1).bind fun b M2 => .ok (.bl (!b)) M2)) := by
  refine PE.imp (pe_notT ha) fun σ H Q h => ?_
  obtain ⟨mσ, β, M, R, Sl, o⟩ := h
  refine one R Sl o fun v x β1 M1 H1 s1 r1 S1 o1 => ?_
  obtain ⟨b, tb, o2⟩ := truth_ok s1.rel r1 o1
  exact ⟨b, tb, o2.flat s1.rel (rep_bl.mpr rfl)⟩
theorem s_chain {op op' : CmpOp} (hu : X.A.units + 65 < cLine) (hm : lastMarks [op, op'] [b, c] = false) (ha : PE X a (tE X.K w ea)) (hb : PE X b (tE X.K w eb)) (hc : PE X c (tE X.K w ec)) :
    PE X (.Compare a [op, op'] [b, c] pos) (tE X.K w (fun σ M => (ea σ M).bind fun v M1 => (eb σ M1).bind fun u M2 => (cmpM op v u M2).bind fun r M3 =>
      match r with
      | .bl true => (ec σ M3).bind fun z M4 => cmpM op' u z M4
      | .bl false => .ok (.bl false) M3
      | _ => .stuck)) := by
  refine PE.imp (pe_chain (op_cmpM hu op) (op_cmpM hu op') ha hb hc hm) fun σ H Q h => ?_
  obtain ⟨mσ, β, M, R, Sl, o⟩ := h
  refine one R Sl o fun v x β1 M1 H1 s1 r1 S1 o1 => ?_
  refine one s1.rel S1 o1 fun u y β2 M2 H2 s2 r2 S2 o2 => ?_
  refine ⟨v, u, β2, M2, w σ, s2.rel, s2.rep s1.rel r1, r2, (o2.bind s2.rel).imp (fun r β3 M3 H3 s3 q z rz => ?_) fun _ _ _ _ _ q => q⟩
  cases r with
  | bl b =>
    have ez := rep_bl.mp rz
    cases b with
    | true =>
      refine ⟨true, ez, ?_⟩
      rw [if_pos rfl]
      refine one s3.rel (S2.stp s2.rel s3) q fun t yy β4 M4 H4 s4 r4 S4 o4 => ?_
      exact ⟨u, t, β4, M4, w σ, s4.rel, s4.rep s3.rel (s3.rep s2.rel r2), r4, o4⟩
    | false =>
      refine ⟨false, ez, ?_⟩
      rw [if_neg Bool.false_ne_true]
      exact q.flat s3.rel (rep_bl.mpr rfl)
  | _ => exact q.elim
theorem s_ife (hc : PT X c (tTs X.K w (fun σ M => (ec σ M).bind truth))) (ha : PE X a (tE X.K w ea)) (hb : PE X b (tE X.K w eb)) :
    PE X (.IfExp c a b pos) (tE X.K w (fun σ M => ((ec σ M).bind truth).bind fun t M2 => if t then ea σ M2 else eb σ M2)) := by
  refine PE.imp (pe_ifExp hc ha hb) fun σ H Q h => ?_
  obtain ⟨mσ, β, M, R, Sl, o⟩ := h
  refine oneB (ev := fun σ M => (ec σ M).bind truth) R Sl o fun t β1 M1 H1 s1 S1 o1 => ?_
  cases t with
  | true => rw [if_pos rfl] at o1 ⊢; exact ⟨mσ, β1, M1, s1.rel, S1, o1⟩
  | false => rw [if_neg Bool.false_ne_true] at o1 ⊢; exact ⟨mσ, β1, M1, s1.rel, S1, o1⟩

/-! ### tests -/
theorem plain_of (hp : ∀ whole, isTrue e X.env whole = (do let v ← whole; standAt e.pos; holding [v] (truthy v))) (ha : PE X e (tE X.K w ea)) : PT X e (tTs X.K w (fun σ M => (ea σ M).bind truth)) := by
  refine PT.imp (pt_truth ha hp) fun σ H Q h => ?_
  obtain ⟨mσ, β, M, R, Sl, o⟩ := h
  refine one R Sl o fun v x β1 M1 H1 s1 r1 S1 o1 => ?_
  have o1' : Out X.K β1 M1 H1 ((truth v M1).bind fun b M => .ok b M) (kB Q) (w σ) := by
    revert o1
    cases truth v M1 with
    | ok v M1 => exact fun o => o
    | exc v M1 => exact fun o => o
    | stuck => exact fun o => o
  obtain ⟨b, tb, o2⟩ := truth_ok s1.rel r1 o1'
  exact ⟨b, tb, o2.ok s1.rel⟩
end
end Mn
end
section
set_option Elab.async false
set_option linter.all false
set_option maxRecDepth 100000
set_option maxHeartbeats 4000000
namespace Mn
open PySem PySem.Spec PyProof.Rows L2

section
variable {X : Cx} {w : WS} {a b c e : Expr} {es : List Expr} {pos : Pos} {ea eb ec : Mn.Ev} {eA : Mn.St → Mem → Res (List PV)}

theorem a_nil : PA X [] (tAs X.K w (fun _ M => .ok [] M)) := by
  refine PA.imp pa_nil fun σ H Q h => ?_
  obtain ⟨mσ, β, M, R, Sl, o⟩ := h
  exact o.ok R [] (reps_nil.mpr rfl)
theorem a_cons (hs : notStar e = true) (ha : PE X e (tE X.K w ea)) (hr : PA X es (tAs X.K w eA)) : PA X (e :: es) (tAs X.K w (fun σ M => (ea σ M).bind fun v M1 => (eA σ M1).bind fun vs M2 => .ok (v :: vs) M2)) := by
  refine PA.imp (pa_cons ha hr (notStar_of hs)) fun σ H Q h => ?_
  obtain ⟨mσ, β, M, R, Sl, o⟩ := h
  refine one R Sl o fun v x β1 M1 H1 s1 r1 S1 o1 => ?_
  refine oneA s1.rel S1 o1 fun vs xs β2 M2 H2 s2 r2 S2 o2 => ?_
  exact o2.ok s2.rel (x :: xs) (reps_cons.mpr ⟨x, xs, rfl, s2.rep s1.rel r1, r2⟩)
theorem s_tup {kk : Nat} (ha : PA X es (tAs X.K w eA)) : PE X (.Tuple es kk pos) (tE X.K w (fun σ M => (eA σ M).bind fun vs M1 => if vs.length ≤ LIM then .ok (.tup vs) M1 else .stuck)) := by
  refine ⟨fun pins s σ H Q I h => ?_⟩
  obtain ⟨mσ, β, M, R, Sl, o⟩ := h
  have key : tAs X.K w eA σ H fun xs H1 => xs.length ≤ sizeLine ∧ ∀ p ob, H1 p = none → ob.dict = none → Q (.ref p) (upd H1 p (.frz ob (.tup xs))) :=
    oneA R Sl o fun vs xs β1 M1 H1 s1 r1 S1 o1 => by
      by_cases hz : vs.length ≤ LIM
      · rw [if_pos hz] at o1
        exact ⟨by rw [← r1.length, ← LIM_eq]; exact hz, fun p ob hp ho => o1.tup s1.rel r1 hp ho⟩
      · rw [if_neg hz] at o1; exact o1.elim
  refine wpAny_Tuple_spliced (thn (ha.run pos pins s σ H _ I key) fun us s1 ⟨xs, H1, I1, r, z, q⟩ => ⟨by rw [← r.length]; exact z, ?_⟩)
  exact ⟨.ref s1.heap.objs.size, _, newTup I1 r z, rfl, q _ _ (I1.hok.fresh (Nat.le_refl _)) rfl⟩
theorem s_lst (ha : PA X es (tAs X.K w eA)) : PE X (.List es pos) (tE X.K w (fun σ M => (eA σ M).bind fun vs M1 => if vs.length ≤ LIM then .ok (.ref M1.sz) (M1.push (.lst vs)) else .stuck)) := by
  refine PE.imp (pe_lst ha) fun σ H Q h => ?_
  obtain ⟨mσ, β, M, R, Sl, o⟩ := h
  refine oneA R Sl o fun vs xs β1 M1 H1 s1 r1 S1 o1 => ?_
  by_cases hz : vs.length ≤ LIM
  · rw [if_pos hz] at o1
    exact ⟨by rw [← r1.length, ← LIM_eq]; exact hz, fun p hp => o1.lst s1.rel r1 hp⟩
  · rw [if_neg hz] at o1; exact o1.elim
theorem s_and {rest : List Expr} (ha : PE X a (tE X.K w ea)) (hb : PE X (.BoolOp .And (b :: rest) pos) (tE X.K w eb)) :
    PE X (.BoolOp .And (a :: b :: rest) pos) (tE X.K w (fun σ M => (ea σ M).bind fun v M1 => (truth v M1).bind fun t M2 => if t then eb σ M2 else .ok v M2)) := by
  refine PE.imp (pe_andT ha hb) fun σ H Q h => ?_
  obtain ⟨mσ, β, M, R, Sl, o⟩ := h
  refine one R Sl o fun v x β1 M1 H1 s1 r1 S1 o1 => ?_
  obtain ⟨t, tb, o2⟩ := truth_ok s1.rel r1 o1
  refine ⟨t, tb, ?_⟩
  cases t with
  | true => rw [if_pos rfl] at o2 ⊢; exact ⟨mσ, β1, M1, s1.rel, S1, o2⟩
  | false => rw [if_neg Bool.false_ne_true] at o2 ⊢; exact o2.flat s1.rel r1
theorem s_or {rest : List Expr} (ha : PE X a (tE X.K w ea)) (hb : PE X (.BoolOp .Or (b :: rest) pos) (tE X.K w eb)) :
    PE X (.BoolOp .Or (a :: b :: rest) pos) (tE X.K w (fun σ M => (ea σ M).bind fun v M1 => (truth v M1).bind fun t M2 => if t then .ok v M2 else eb σ M2)) := by
  refine PE.imp (pe_orT ha hb) fun σ H Q h => ?_
  obtain ⟨mσ, β, M, R, Sl, o⟩ := h
  refine one R Sl o fun v x β1 M1 H1 s1 r1 S1 o1 => ?_
  obtain ⟨t, tb, o2⟩ := truth_ok s1.rel r1 o1
  refine ⟨t, tb, ?_⟩
  cases t with
  | true => rw [if_pos rfl] at o2 ⊢; exact o2.flat s1.rel r1
  | false => rw [if_neg Bool.false_ne_true] at o2 ⊢; exact ⟨mσ, β1, M1, s1.rel, S1, o2⟩
/-- tests of and, or -/
theorem assoc3 {α γ δ : Type} (r : Res α) (f : α → Mem → Res γ) (g : γ → Mem → Res δ) : (r.bind f).bind g = r.bind fun a M => (f a M).bind g := by cases r <;> rfl
theorem w_and {rest : List Expr} (ha : PT X a (tTs X.K w (fun σ M => (ea σ M).bind truth))) (hb : PW X (.BoolOp .And (b :: rest) pos) (tTs X.K w (fun σ M => (eb σ M).bind truth))) :
    PW X (.BoolOp .And (a :: b :: rest) pos) (tTs X.K w (fun σ M => ((ea σ M).bind fun v M1 => (truth v M1).bind fun t M2 => if t then eb σ M2 else .ok v M2).bind truth)) := by
  refine PW.imp (pw_and ha hb) fun σ H Q h => ?_
  obtain ⟨mσ, β, M, R, Sl, o⟩ := h
  have o' : Out X.K β M H (((ea mσ M).bind truth).bind fun t M2 => if t then (eb mσ M2).bind truth else .ok false M2) (kB Q) (w σ) := by
    simp only [assoc3] at o ⊢
    revert o
    cases ea mσ M with
    | ok v M1 =>
      simp only [Res.bind]
      cases ht : truth v M1 with
      | ok t M2 =>
        have em : M2 = M1 := by
          unfold truth at ht
          cases v with
          | str z =>
            simp only at ht
            split at ht <;> cases ht
            rfl
          | ref n =>
            simp only at ht
            split at ht <;> cases ht
            rfl
          | _ => cases ht; rfl
        subst em
        cases t with
        | true => exact fun o => o
        | false =>
          simp only [Bool.false_eq_true, if_false]
          rw [ht]
          exact fun o => o
      | exc v M1 => exact fun o => o
      | stuck => exact fun o => o
    | exc v M1 => exact fun o => o
    | stuck => exact fun o => o
  refine oneB (ev := fun σ M => (ea σ M).bind truth) R Sl o' fun t β1 M1 H1 s1 S1 o1 => ?_
  cases t with
  | true => rw [if_pos rfl] at o1 ⊢; exact ⟨mσ, β1, M1, s1.rel, S1, o1⟩
  | false => rw [if_neg Bool.false_ne_true] at o1 ⊢; exact o1.ok s1.rel
theorem w_or {rest : List Expr} (ha : PT X a (tTs X.K w (fun σ M => (ea σ M).bind truth))) (hb : PW X (.BoolOp .Or (b :: rest) pos) (tTs X.K w (fun σ M => (eb σ M).bind truth))) :
    PW X (.BoolOp .Or (a :: b :: rest) pos) (tTs X.K w (fun σ M => ((ea σ M).bind fun v M1 => (truth v M1).bind fun t M2 => if t then .ok v M2 else eb σ M2).bind truth)) := by
  refine PW.imp (pw_or ha hb) fun σ H Q h => ?_
  obtain ⟨mσ, β, M, R, Sl, o⟩ := h
  have o' : Out X.K β M H (((ea mσ M).bind truth).bind fun t M2 => if t then .ok true M2 else (eb mσ M2).bind truth) (kB Q) (w σ) := by
    simp only [assoc3] at o ⊢
    revert o
    cases ea mσ M with
    | ok v M1 =>
      simp only [Res.bind]
      cases ht : truth v M1 with
      | ok t M2 =>
        have em : M2 = M1 := by
          unfold truth at ht
          cases v with
          | str z =>
            simp only at ht
            split at ht <;> cases ht
            rfl
          | ref n =>
            simp only at ht
            split at ht <;> cases ht
            rfl
          | _ => cases ht; rfl
        subst em
        cases t with
        | false => exact fun o => o
        | true =>
          simp only [if_true]
          rw [ht]
          exact fun o => o
      | exc v M1 => exact fun o => o
      | stuck => exact fun o => o
    | exc v M1 => exact fun o => o
    | stuck => exact fun o => o
  refine oneB (ev := fun σ M => (ea σ M).bind truth) R Sl o' fun t β1 M1 H1 s1 S1 o1 => ?_
  cases t with
  | true => rw [if_pos rfl] at o1 ⊢; exact o1.ok s1.rel
  | false => rw [if_neg Bool.false_ne_true] at o1 ⊢; exact ⟨mσ, β1, M1, s1.rel, S1, o1⟩
/-- a value that is a truth, as a test -/
theorem t_of_bl {Q : Bool → Hp → Prop} {σ : L2.St} {H : Hp} {f : Mn.St → Mem → Res PV} (hf : ∀ σ M v M', f σ M = .ok v M' → ∃ b, v = .bl b) (h : tTs X.K w (fun σ M => (f σ M).bind truth) σ H Q) :
    ∃ mσ β M, RelH X.K β M H ∧ RelS X.K H β mσ σ ∧ Out X.K β M H (f mσ M) (kQ X.K fun x H' => ∃ b, x = .bl b ∧ Q b H') (w σ) := by
  obtain ⟨mσ, β, M, R, Sl, o⟩ := h
  refine ⟨mσ, β, M, R, Sl, ?_⟩
  simp only at o
  revert o
  cases hr : f mσ M with
  | ok v M1 =>
    obtain ⟨b, rfl⟩ := hf _ _ _ _ hr
    exact fun o β1 H1 s x hx => ⟨b, rep_bl.mp hx, o β1 H1 s⟩
  | exc v M1 => exact fun o => o
  | stuck => exact fun o => o
theorem cmpM_bl {op : CmpOp} {v u : PV} {M M' : Mem} {r : PV} (h : cmpM op v u M = .ok r M') : ∃ b, r = .bl b := by
  unfold cmpM at h
  cases op <;> simp only at h <;> split at h <;> first | (cases h; exact ⟨_, rfl⟩) | (cases h; done) | (split at h <;> first | (cases h; exact ⟨_, rfl⟩) | (cases h; done))
theorem bind_ok {α γ : Type} {r : Res α} {f : α → Mem → Res γ} {c : γ} {M' : Mem} (h : r.bind f = .ok c M') : ∃ a M1, r = .ok a M1 ∧ f a M1 = .ok c M' := by
  cases r with
  | ok a M1 => exact ⟨a, M1, rfl, h⟩
  | exc v M1 => cases h
  | stuck => cases h
theorem trim_bl {M0 M' : Mem} {r : Res PV} {v : PV} (hr : ∀ v M, r = .ok v M → ∃ b, v = .bl b) (h : trim M0 r = .ok v M') : ∃ b, v = .bl b := by
  cases r with
  | ok u M =>
    obtain ⟨b, rfl⟩ := hr u M rfl
    have h : trimV M0 (.bl b) M = .ok v M' := h
    unfold trimV at h
    split at h
    · cases h; exact ⟨b, rfl⟩
    · split at h
      · split at h <;> (cases h; exact ⟨b, rfl⟩)
      · cases h; exact ⟨b, rfl⟩
  | exc v M => cases h
  | stuck => cases h
theorem t_cmp {op : CmpOp} (hu : X.A.units + 65 < cLine) (hm : behindInMarks op b = false) (ha : PE X a (tE X.K w ea)) (hb : PE X b (tE X.K w eb)) :
    PT X (.Compare a [op] [b] pos) (tTs X.K w (fun σ M => (trim M ((ea σ M).bind fun v M1 => (eb σ M1).bind fun u M2 => cmpM op v u M2)).bind truth)) := by
  refine PT.imp (pt_cmpR (op_cmpM hu op) ha hb hm) fun σ H Q h => ?_
  have h' := t_of_bl (fun σ M v M' e => trim_bl (fun v M e => by
    obtain ⟨_, _, _, e⟩ := bind_ok e
    obtain ⟨_, _, _, e⟩ := bind_ok e
    exact cmpM_bl e) e) h
  exact two (tE_trim h')
theorem t_chain {op op' : CmpOp} (hu : X.A.units + 65 < cLine) (hm : lastMarks [op, op'] [b, c] = false) (ha : PE X a (tE X.K w ea)) (hb : PE X b (tE X.K w eb)) (hc : PE X c (tE X.K w ec)) :
    PT X (.Compare a [op, op'] [b, c] pos) (tTs X.K w (fun σ M => (trim M ((ea σ M).bind fun v M1 => (eb σ M1).bind fun u M2 => (cmpM op v u M2).bind fun r M3 =>
      match r with
      | .bl true => (ec σ M3).bind fun z M4 => cmpM op' u z M4
      | .bl false => .ok (.bl false) M3
      | _ => .stuck)).bind truth)) := by
  refine PT.imp (pt_chain (op_cmpM hu op) (op_cmpM hu op') ha hb hc hm) fun σ H Q h => ?_
  have h' := t_of_bl (fun σ M v M' e => trim_bl (fun v M e => by
    obtain ⟨_, _, _, e⟩ := bind_ok e
    obtain ⟨_, _, _, e⟩ := bind_ok e
    obtain ⟨r, _, _, e⟩ := bind_ok e
    split at e
    · obtain ⟨_, _, _, e⟩ := bind_ok e
      exact cmpM_bl e
    · cases e; exact ⟨_, rfl⟩
    · cases e) e) h
  obtain ⟨mσ, β, M, R, Sl, o⟩ := tE_trim h'
  refine one R Sl o fun v x β1 M1 H1 s1 r1 S1 o1 => ?_
  refine one s1.rel S1 o1 fun u y β2 M2 H2 s2 r2 S2 o2 => ?_
  refine ⟨v, u, β2, M2, w σ, s2.rel, s2.rep s1.rel r1, r2, (o2.bind s2.rel).imp (fun r β3 M3 H3 s3 q z rz => ?_) fun _ _ _ _ _ q => q⟩
  cases r with
  | bl b =>
    have ez := rep_bl.mp rz
    cases b with
    | true =>
      refine ⟨true, ez, ?_⟩
      rw [if_pos rfl]
      refine one s3.rel (S2.stp s2.rel s3) q fun t yy β4 M4 H4 s4 r4 S4 o4 => ?_
      exact ⟨u, t, β4, M4, w σ, s4.rel, s4.rep s3.rel (s3.rep s2.rel r2), r4, o4⟩
    | false =>
      refine ⟨false, ez, ?_⟩
      rw [if_neg Bool.false_ne_true]
      exact q.flat s3.rel (rep_bl.mpr rfl)
  | _ => exact q.elim
theorem t_not (ha : PT X a (tTs X.K w (fun σ M => (ea σ M).bind truth))) : PT X (.UnaryOp .Not a pos) (tTs X.K w (fun σ M => (trim M ((ea σ M).bind fun v M1 => (truth v M1).bind fun b M2 => .ok (.bl (!b)) M2)).bind truth)) := by
  refine PT.imp (pt_not ha) fun σ H Q h => ?_
  have h' := t_of_bl (fun σ M v M' e => trim_bl (fun v M e => by
    obtain ⟨_, _, _, e⟩ := bind_ok e
    obtain ⟨_, _, _, e⟩ := bind_ok e
    cases e; exact ⟨_, rfl⟩) e) h
  obtain ⟨mσ, β, M, R, Sl, o⟩ := tE_trim h'
  have o' : Out X.K β M H (((ea mσ M).bind truth).bind fun b M2 => .ok (PV.bl (!b)) M2) (kQ X.K fun x H' => ∃ b, x = .bl b ∧ Q b H') (w σ) := by rw [assoc3]; exact o
  refine oneB (ev := fun σ M => (ea σ M).bind truth) R Sl o' fun t β1 M1 H1 s1 S1 o1 => ?_
  obtain ⟨b, e, q⟩ := o1.flat s1.rel (rep_bl.mpr rfl)
  cases e
  exact q

/-! ### slices -/
def tOs (K : PySem.W.Frag) (w : WS) (ev : Mn.St → Mem → Res (Option Int)) : TO := fun σ H Q => ∃ mσ β M, RelH K β M H ∧ RelS K H β mσ σ ∧ Out K β M H (ev mσ M) (fun o _ _ H' => Q o H') (w σ)
theorem o_none : PO X none (tOs X.K w (fun _ M => .ok none M)) := by
  refine PO.imp po_none fun σ H Q h => ?_
  obtain ⟨mσ, β, M, R, Sl, o⟩ := h
  exact o.ok R
theorem o_some (ha : PE X e (tE X.K w ea)) : PO X (some e) (tOs X.K w (fun σ M => (ea σ M).bind fun v M1 => (intR v M1).bind fun i M2 => .ok (some i) M2)) := by
  refine PO.imp (po_some ha) fun σ H Q h => ?_
  obtain ⟨mσ, β, M, R, Sl, o⟩ := h
  refine one R Sl o fun v x β1 M1 H1 s1 r1 S1 o1 => ?_
  cases v with
  | int i => exact ⟨i, rep_int.mp r1, o1.ok s1.rel⟩
  | _ => exact o1.elim
theorem s_sl {lo hi : Option Expr} {p2 : Pos} {el eh : Mn.St → Mem → Res (Option Int)} (ha : PE X e (tE X.K w ea)) (hl : PO X lo (tOs X.K w el)) (hh : PO X hi (tOs X.K w eh)) :
    PE X (.Subscript e (.Slice lo hi none p2) pos) (tE X.K w (fun σ M => (ea σ M).bind fun v M1 => (el σ M1).bind fun l M2 => (eh σ M2).bind fun h M3 => slM v l h M3)) := by
  refine PE.imp (pe_slice sl_okM ha hl hh) fun σ H Q h => ?_
  obtain ⟨mσ, β, M, R, Sl, o⟩ := h
  refine one R Sl o fun v x β1 M1 H1 s1 r1 S1 o1 => ?_
  refine ⟨mσ, β1, M1, s1.rel, S1, (o1.bind s1.rel).imp (fun l β2 M2 H2 s2 q2 => ?_) fun _ _ _ _ _ q => q⟩
  refine ⟨mσ, β2, M2, s2.rel, S1.stp s1.rel s2, (q2.bind s2.rel).imp (fun h β3 M3 H3 s3 q3 => ?_) fun _ _ _ _ _ q => q⟩
  exact ⟨v, β3, M3, w σ, s3.rel, s3.rep s2.rel (s2.rep s1.rel r1), q3⟩
/-! ### t[::1], t[::-1] -/
theorem sliceApplied_step {prog : Program} {wo : World} {A : Around} {E : Value → Shared → Prop} {s : Shared} {sl : Addr} {vs : Value} {c : Int} {n : Nat} {Q : Int × Int × Nat → Shared → Prop} (hs : s.heap.IsSliceOf sl .none .none vs) (ps : IsPart vs (some c)) (hc : c = 1 ∨ c = -1)
    (h : Q (if c = 1 then 0 else (n : Int) - 1, c, n) s) : wpAny (model prog wo) A (Builtin.Slice.sliceApplied (.ref sl) (pure (n : Int))) Q E s := by
  obtain ⟨os, hos, hcs, hds⟩ := id hs
  unfold Builtin.Slice.sliceApplied Builtin.Slice.sliceFields
  refine wpAny_bind (wpAny_bind (wpAny_field hos hds (x := .none) rfl (wpAny_bind (wpAny_field hos hds (x := .none) rfl (wpAny_bind (wpAny_field hos hds (x := vs) rfl (wpAny_pure ?_)))))))
  cases ps with
  | int i t =>
    refine wpAny_bind (slicePart_int ?_)
    show wpAny _ _ (if (c == 0) = true then _ else _) _ _ s
    rw [if_neg (by rcases hc with rfl | rfl <;> decide)]
    refine wpAny_bind (slicePart_none (wpAny_bind (slicePart_none (wpAny_bind (wpAny_pure ?_)))))
    rcases hc with rfl | rfl
    · have e : Builtin.Slice.slicePlaces 0 (n : Int) 1 = n := by
        unfold Builtin.Slice.slicePlaces
        simp only [show (1 : Int) > 0 by decide, if_true, Int.ediv_one]
        split <;> omega
      show wpAny _ _ (pure ((0 : Int), (1 : Int), Builtin.Slice.slicePlaces 0 (n : Int) 1)) _ _ s
      rw [e]
      exact wpAny_pure h
    · have e : Builtin.Slice.slicePlaces ((n : Int) - 1) (-1) (-1) = n := by
        unfold Builtin.Slice.slicePlaces
        simp only [show ¬ ((-1 : Int) > 0) by decide, if_false, show (- -1 : Int) = 1 by decide, Int.ediv_one]
        split <;> omega
      show wpAny _ _ (pure ((n : Int) - 1, (-1 : Int), Builtin.Slice.slicePlaces ((n : Int) - 1) (-1) (-1))) _ _ s
      rw [e]
      exact wpAny_pure h
theorem fm_congr {α β : Type} {f g : α → Option β} : ∀ {l : List α}, (∀ x ∈ l, f x = g x) → l.filterMap f = l.filterMap g
  | [], _ => rfl
  | x :: l, h => by rw [List.filterMap_cons, List.filterMap_cons, h x List.mem_cons_self, fm_congr (fun y hy => h y (List.mem_cons_of_mem _ hy))]
theorem pick_rev (xs : Array Value) : ((List.range xs.size).filterMap fun (m : Nat) => xs[(((xs.size : Int) - 1) + (m : Int) * (-1)).toNat]?).toArray = xs.toList.reverse.toArray := by
  congr 1
  have h1 : ((List.range xs.size).filterMap fun (m : Nat) => xs[(((xs.size : Int) - 1) + (m : Int) * (-1)).toNat]?) = (List.range xs.size).filterMap fun m => xs.toList.reverse[m]? := by
    refine fm_congr fun m hm => ?_
    have hm := List.mem_range.mp hm
    have e : (((xs.size : Int) - 1) + (m : Int) * (-1)).toNat = xs.size - 1 - m := by omega
    rw [e, List.getElem?_reverse (by simpa using hm), Array.getElem?_toList]
    simp
  rw [h1]
  have h2 : ∀ l : List Value, ((List.range l.length).filterMap fun m => l[m]?) = l := by
    intro l
    induction l with
    | nil => rfl
    | cons a l ih =>
      rw [List.length_cons, List.range_succ_eq_map, List.filterMap_cons]
      simp only [List.getElem?_cons_zero, List.filterMap_map, Function.comp_def, List.getElem?_cons_succ]
      rw [ih]
  have := h2 xs.toList.reverse
  simpa using this
theorem getItem_tuple_step {prog : Program} {wo : World} {A : Around} {E : Value → Shared → Prop} {s : Shared} {t sl : Addr} {items : Array Value} {vs : Value} {c : Int} {Q : Value → Shared → Prop} (ht : IsTup s.heap t items) (hs : s.heap.IsSliceOf sl .none .none vs) (ps : IsPart vs (some c)) (hc : c = 1 ∨ c = -1)
    (h1 : c = 1 → Q (.ref t) s) (h2 : c = -1 → Q (.ref s.heap.objs.size) { s with heap := s.heap.push { cls := .type "tuple", data := .seq items.toList.reverse.toArray } })
    (hsz : items.size ≤ sizeLine) : wpAny (model prog wo) A (getItem (.ref t) (.ref sl)) Q E s := by
  obtain ⟨os, hos, hcs, hds⟩ := id hs
  have hTs : s.TypeIs (.ref sl) "slice" := ⟨os, hos, hcs⟩
  unfold getItem
  try with_reducible refine wpAny_holding ?_
  first | refine wpAny_bind (wpAny_pure ?_) | skip
  refine wpAny_bind (wpAny_sequenceKey ht.typeIs (by decide) ?_)
  refine wpAny_bind (wpAny_callSpecial?_slot (name := Str.ofString "__getitem__") ht.typeIs PyProof.Rows.slot_tuple_getitem
    (wpAny_call_entry PyProof.Rows.slot_tuple_getitem ht.typeIs entry_tuple_getitem ?_ (args_tuple_getitem _ _)))
  show wpAny _ _ (Builtin.Tuple.tupleItemsOf (.ref t) >>= _) _ _ s
  refine wpAny_bind (tupleItemsOf_ ht ?_)
  refine wpAny_bind (wpAny_typeOf hTs ?_)
  rw [if_pos (by decide)]
  refine wpAny_bind (sliceApplied_step hs ps hc ?_)
  rcases hc with rfl | rfl
  · show wpAny _ _ (if (((0 : Int) == 0 && (1 : Int) == 1 && items.size == items.size) = true) then _ else _) _ _ s
    rw [if_pos (by simp)]
    refine wpAny_bind ?_
    show wpAny _ _ (typeOf (.ref t) >>= fun T => pure (T == .type "tuple")) _ _ s
    refine wpAny_bind (wpAny_typeOf ht.typeIs (wpAny_pure ?_))
    first
      | rw [if_pos (by decide)]
      | simp only [beq_self_eq_true, if_true]
    first
      | exact wpAny_bind (wpAny_rule (wpAny_pure ⟨_, rfl, wpAny_pure (h1 rfl)⟩))
      | exact wpAny_bind (wpAny_rule (wpAny_bind (wpAny_pure (wpAny_pure ⟨_, rfl, wpAny_pure (h1 rfl)⟩))))
  · have htake : sizeOk (.seq items.toList.reverse.toArray) := by
      show items.toList.reverse.toArray.size ≤ sizeLine
      rw [List.size_toArray, List.length_reverse, Array.length_toList]
      exact hsz
    have hno : ¬ ((((items.size : Int) - 1) == 0 && (-1 : Int) == 1 && items.size == items.size) = true) := by
      intro q
      rw [Bool.and_eq_true, Bool.and_eq_true] at q
      exact absurd q.1.2 (by decide)
    show wpAny _ _ (if ((((items.size : Int) - 1) == 0 && (-1 : Int) == 1 && items.size == items.size) = true) then _ else _) _ _ s
    have e0 : (if (-1 : Int) = 1 then (0 : Int) else (items.size : Int) - 1) = (items.size : Int) - 1 := if_neg (by decide)
    rw [if_neg hno, e0, pick_rev]
    have h := h2 rfl
    first
      | exact wpAny_bind (m := Builtin.Tuple.tupleExact _) (wpAny_newObj_type (wpAny_pure ⟨_, rfl, wpAny_pure h⟩) htake)
      | exact wpAny_bind (m := Builtin.Tuple.tupleExact _) (wpAny_newObj_type (wpAny_bind (wpAny_pure (wpAny_pure ⟨_, rfl, wpAny_pure h⟩))) htake)
      | exact wpAny_bind (wpAny_bind (m := Builtin.Tuple.tupleExact _) (wpAny_newObj_type (wpAny_pure (wpAny_pure ⟨_, rfl, wpAny_pure h⟩)) htake))
      | exact wpAny_bind (wpAny_bind (m := Builtin.Tuple.tupleExact _) (wpAny_newObj_type (wpAny_pure ⟨_, rfl, wpAny_pure h⟩) htake))
theorem s_stp {st : Expr} {es : Mn.Ev} {p2 : Pos} (ha : PE X e (tE X.K w ea)) (hs : PE X st (tE X.K w es)) :
    PE X (.Subscript e (.Slice none none (some st) p2) pos) (tE X.K w (fun σ M => (ea σ M).bind fun v M1 => (es σ M1).bind fun u M2 => stpM v u M2)) := by
  refine ⟨fun pins s σ H Q I h => ?_⟩
  have hst := po_some hs
  obtain ⟨mσ, β, M, R, Sl, o⟩ := h
  have h1 : tE X.K w ea σ H (fun x H1 => ∃ v β1 M1, RelH X.K β1 M1 H1 ∧ Rep X.K H1 β1 v x ∧ RelS X.K H1 β1 mσ σ ∧ Out X.K β1 M1 H1 ((es mσ M1).bind fun u M2 => stpM v u M2) (kQ X.K Q) (w σ)) :=
    one R Sl o fun v x β1 M1 H1 s1 r1 S1 o1 => ⟨v, β1, M1, s1.rel, r1, S1, o1⟩
  refine Subscript_ (thn (ha.run pins s σ H _ I h1) fun xv s1 ⟨x, H1, I1, r1, q1⟩ => ?_)
  obtain ⟨v, β1, M1, R1, rv, S1, o1⟩ := q1
  refine wpAny_Slice (thn (po_none.run pins s1 σ H1 (fun o H2 => o = none ∧ H2 = H1) I1 ⟨rfl, rfl⟩) fun vl s2 ⟨l, H2, I2, pl, el, e2⟩ => ?_)
  subst el e2
  refine thn (po_none.run pins s2 σ H2 (fun o H3 => o = none ∧ H3 = H2) I2 ⟨rfl, rfl⟩) fun vu s3 ⟨u, H3, I3, pu, eu, e3⟩ => ?_
  subst eu e3
  have h4 : tPart (tE X.K w es) σ H3 (fun c H4 => ∃ a xs i β2 M2, x = .ref a ∧ c = some i ∧ RelH X.K β2 M2 H4 ∧ Tup X.K H4 a xs ∧ (i = 1 → Q (.ref a) H4) ∧ (i = -1 → ∀ p o, H4 p = none → o.dict = none → Q (.ref p) (upd H4 p (.frz o (.tup xs.reverse)))) ∧ (i = 1 ∨ i = -1)) := by
    refine one R1 S1 o1 fun u y β2 M2 H4 s4 r4 S4 o4 => ?_
    cases v with
    | tup ps =>
      cases u with
      | int i =>
        obtain ⟨a, xs, rfl, ht, rs⟩ := rep_tup.mp (s4.rep R1 rv)
        refine ⟨i, rep_int.mp r4, a, xs, i, β2, M2, rfl, rfl, s4.rel, ht, fun hi => ?_, fun hi p ob hp ho => ?_, ?_⟩
        · subst hi
          have o5 : Out X.K β2 M2 H4 (.ok (.tup ps) M2) (kQ X.K Q) (w σ) := o4
          exact o5.flat s4.rel (rep_tup.mpr ⟨a, xs, rfl, ht, rs⟩)
        · subst hi
          have o5 : Out X.K β2 M2 H4 (.ok (.tup ps.reverse) M2) (kQ X.K Q) (w σ) := o4
          exact o5.tup s4.rel rs.rev hp ho
        · simp only [stpM] at o4
          by_cases h1 : i = 1
          · exact .inl h1
          · by_cases h2 : i = -1
            · exact .inr h2
            · rw [if_neg h1, if_neg h2] at o4; exact o4.elim
      | _ => exact o4.elim
    | _ => exact o4.elim
  refine thn (hst.run pins s3 σ H3 _ I3 h4) fun vs s4 ⟨c, H4, I4, ps, q4⟩ => ?_
  obtain ⟨a, xs, i, β2, M2, rfl, rfl, R2, ht, k1, k2, hi⟩ := q4
  cases r1
  cases pl
  cases pu
  have I5 : Inv X pins σ H4 { s4 with heap := s4.heap.push { cls := .type "slice", data := .fields #[.none, .none, vs] } } := I4.kept (t' := s4.toks) fun b ob q => Heap.get?_push_of_some _ q
  obtain ⟨its, r, pt, hz⟩ := I5.tuple ht.sq
  have hlen := r.length
  show wpAny (model X.prog X.w) X.A (subscriptTail e (.Slice none none (some st) p2) (.ref a) (.ref s4.heap.objs.size)) (EP X pins σ Q) X.xe { s4 with heap := s4.heap.push { cls := .type "slice", data := .fields #[.none, .none, vs] } }
  refine tail_any (ops := [.ref a, .ref s4.heap.objs.size]) pt.typeIs (PyProof.Rows.slot_tuple_getitem.lookup) ?_ (by with_unfolding_all rfl)
  refine getItem_tuple_step pt (Heap.IsSliceOf.new _ .none .none vs) ps hi (fun h1 => ?_) (fun h2 => ?_) (by rw [List.size_toArray]; omega)
  · exact ⟨.ref a, H4, I5, rfl, k1 h1⟩
  · have I6 := newTup I5 r.reverse (by rw [List.length_reverse]; exact hz)
    exact ⟨.ref _, _, I6, rfl, k2 h2 _ _ (I5.hok.fresh (Nat.le_refl _)) rfl⟩
end
end Mn
end
section
set_option Elab.async false
set_option linter.all false
set_option maxRecDepth 100000
set_option maxHeartbeats 4000000
namespace Mn
open PySem PySem.Spec PyProof.Rows L2

/-- nothing is raised -/
abbrev w0 : WS := fun _ _ _ _ _ => False

section
variable {K : PySem.W.Frag} {β : List Addr} {M : Mem} {H H' : Hp}
theorem ext_tup (ext : ∀ a o, H a = some o → H' a = some o) {a : Addr} {xs : List V} (h : Tup K H a xs) : Tup K H' a xs := by
  rcases h with ⟨o, h, d⟩ | h
  · exact .inl ⟨o, ext _ _ h, d⟩
  · exact .inr h
theorem ext_rol (ext : ∀ a o, H a = some o → H' a = some o) {a : Addr} {xs : List V} (h : Rol K H a xs) : Rol K H' a xs := by
  rcases h with ⟨o, h⟩ | h
  · exact .inl ⟨o, ext _ _ h⟩
  · exact .inr h
theorem stp_ext (R : RelH K β M H) (ext : ∀ a o, H a = some o → H' a = some o) : Stp K β M H β M H' where
  rel := ⟨R.len, R.olen, R.inj, fun n ob e => by
    obtain ⟨a, e1, e2⟩ := R.obj n ob e
    refine ⟨a, e1, ?_⟩
    cases ob with
    | lst xs =>
      obtain ⟨ys, e3, e4⟩ := e2
      exact ⟨ys, ext _ _ e3, e4.mono (fun _ _ => ext_tup ext) fun _ _ h => h⟩
    | rol xs =>
      obtain ⟨ys, e3, e4⟩ := e2
      exact ⟨ys, ext_rol ext e3, e4.mono (fun _ _ => ext_tup ext) fun _ _ h => h⟩⟩
  pre := fun _ _ h => h
  szle := Nat.le_refl _
  frame := fun a ob h _ => ext a ob h
  kind := fun n xs _ h => ⟨xs, h⟩
  kind2 := fun n xs h => ⟨xs, h⟩
  fresh := fun n xs a h1 h2 _ => absurd (get_lt h2) (by omega)
  esc := Nat.le_refl _
  clo := fun _ _ _ h => h
/-- a list that has come, besides -/
theorem stp_grow (R : RelH K β M H) (ext : ∀ a o, H a = some o → H' a = some o) {p : Addr} {xs : List PV} {ys : List V} (hp : H p = none) (hp' : H' p = some (.lst ys)) (h : Reps K H' (β ++ [p]) xs ys) : Stp K β M H (β ++ [p]) (M.push (.lst xs)) H' := by
  have s := stp_ext R ext
  have hn : ∀ n xs, M.get n = some (.lst xs) → β[n]? ≠ some p := fun n xs e z => by
    obtain ⟨b, e1, ws, e2, _⟩ := R.obj n _ e
    rw [z] at e1; cases e1
    rw [hp] at e2; cases e2
  refine ⟨⟨?_, ?_, fun n m a xs1 ys1 e1 e2 z1 z2 => ?_, fun n ob e => ?_⟩, fun _ _ h => snoc_old h, Nat.le_succ _, fun a ob h _ => ext a ob h, fun n xs hl e => ?_, fun n xs e => ?_, fun n xs1 a hl e z => ?_, Nat.le_refl _, fun _ b hb h n ob hn e => ?_⟩
  · rw [List.length_append, R.len]; rfl
  · show (_ :: M.objs).length = M.sz + 1; rw [List.length_cons, R.olen]
  · rcases get_push e1 with ⟨h1, g1⟩ | ⟨h1, g1⟩ <;> rcases get_push e2 with ⟨h2, g2⟩ | ⟨h2, g2⟩
    · rw [List.getElem?_append_left (by rw [R.len]; exact h1)] at z1
      rw [List.getElem?_append_left (by rw [R.len]; exact h2)] at z2
      exact R.inj n m a _ _ g1 g2 z1 z2
    · rw [List.getElem?_append_left (by rw [R.len]; exact h1)] at z1
      rw [h2, push_at R] at z2; cases z2
      exact absurd z1 (hn _ _ g1)
    · rw [List.getElem?_append_left (by rw [R.len]; exact h2)] at z2
      rw [h1, push_at R] at z1; cases z1
      exact absurd z2 (hn _ _ g2)
    · rw [h1, h2]
  · rcases get_push e with ⟨h1, g1⟩ | ⟨h1, g1⟩
    · obtain ⟨a, e1, e2⟩ := s.rel.obj n ob g1
      refine ⟨a, snoc_old e1, ?_⟩
      cases ob with
      | lst xs =>
        obtain ⟨ys, e3, e4⟩ := e2
        exact ⟨ys, e3, e4.mono (fun _ _ h => h) fun _ _ h => snoc_old h⟩
      | rol xs =>
        obtain ⟨ys, e3, e4⟩ := e2
        exact ⟨ys, e3, e4.mono (fun _ _ h => h) fun _ _ h => snoc_old h⟩
    · subst h1 g1
      exact ⟨p, push_at R, ys, hp', h⟩
  · rw [get_push_old hl] at e; exact ⟨xs, e⟩
  · rw [get_push_old (get_lt e)]; exact ⟨xs, e⟩
  · rcases get_push e with ⟨h1, _⟩ | ⟨h1, _⟩
    · omega
    · rw [h1, push_at R] at z; cases z
      exact hp
  · rw [get_push_old (by omega)] at e
    exact h n ob hn e
theorem relH_emp : RelH K [] Mem.emp H := ⟨rfl, rfl, fun n m a xs ys e => (by cases e), fun n o e => (by cases e)⟩
theorem emp_ext {β' : List Addr} {M' : Mem} (s : Stp K [] Mem.emp H β' M' H') : ∀ a o, H a = some o → H' a = some o := fun a o h => s.frame a o h fun n xs e => by cases e
/-- one list has been changed by what knows of it alone -/
theorem stp_box (R : RelH K β M H) {n : Nat} {a : Addr} {xs0 xs : List PV} {ys : List V} (hg : M.get n = some (.lst xs0)) (hb : β[n]? = some a) (hfr : ∀ b o, H b = some o → b ≠ a → H' b = some o) (ha : H' a = some (.lst ys)) (h : Reps K H' β xs ys)
    (hx : xs.all PV.pure = true) : Stp K β M H β (M.put n (.lst xs) 0) H' := by
  obtain ⟨a', ha', zs, hz, _⟩ := R.obj n _ hg
  rw [hb] at ha'; cases ha'
  have hn := get_lt hg
  have ta : ∀ {b : Addr} {ws : List V}, Tup K H b ws → Tup K H' b ws := fun {b ws} t => by
    rcases t with ⟨o, q, d⟩ | q
    · exact .inl ⟨o, hfr _ _ q (fun e => by rw [e, hz] at q; cases q), d⟩
    · exact .inr q
  have gp : ∀ {m ob}, (M.put n (.lst xs) 0).get m = some ob → (m = n ∧ ob = .lst xs) ∨ (m ≠ n ∧ M.get m = some ob) := fun {m ob} q => by
    by_cases hm : m = n
    · subst hm
      rw [get_put_same hg R.olen] at q; cases q
      exact .inl ⟨rfl, rfl⟩
    · rw [get_put_ne hm hn] at q
      exact .inr ⟨hm, q⟩
  have kd : ∀ {m zs}, (M.put n (.lst xs) 0).get m = some (.lst zs) → ∃ ws, M.get m = some (.lst ws) := fun {m zs} q => by
    rcases gp q with ⟨h1, _⟩ | ⟨_, h1⟩
    · exact ⟨xs0, h1 ▸ hg⟩
    · exact ⟨zs, h1⟩
  refine ⟨⟨R.len, by show (M.objs.set _ _).length = M.sz; rw [List.length_set]; exact R.olen, fun m1 m2 b xs1 ys1 e1 e2 z1 z2 => ?_, fun m ob q => ?_⟩, fun _ _ h => h, Nat.le_refl _, fun b ob q hne => ?_, fun m zs _ q => kd q, fun m zs q => ?_, fun m zs b h1 h2 _ => ?_, Nat.le_refl _, fun he b hb2 hcl m ob hm q => ?_⟩
  · obtain ⟨w1, k1⟩ := kd e1
    obtain ⟨w2, k2⟩ := kd e2
    exact R.inj m1 m2 b _ _ k1 k2 z1 z2
  · rcases gp q with ⟨rfl, rfl⟩ | ⟨hm, q⟩
    · exact ⟨a, hb, ys, ha, h⟩
    · obtain ⟨b, e1, e2⟩ := R.obj m ob q
      refine ⟨b, e1, ?_⟩
      cases ob with
      | lst zs =>
        obtain ⟨ws, e3, e4⟩ := e2
        have hap : b ≠ a := fun z => hm (R.inj m n b zs xs0 q hg e1 (z ▸ hb))
        exact ⟨ws, hfr _ _ e3 hap, e4.mono (fun _ _ => ta) fun _ _ h => h⟩
      | rol zs =>
        obtain ⟨ws, e3, e4⟩ := e2
        refine ⟨ws, ?_, e4.mono (fun _ _ => ta) fun _ _ h => h⟩
        rcases e3 with ⟨o, e3⟩ | e3
        · exact .inl ⟨o, hfr _ _ e3 (fun z => by rw [z, hz] at e3; cases e3)⟩
        · exact .inr e3
  · exact hfr b ob q fun z => hne n xs0 hg (z ▸ hb)
  · by_cases hm : m = n
    · subst hm
      exact ⟨xs, get_put_same hg R.olen⟩
    · exact ⟨zs, by rw [get_put_ne hm hn]; exact q⟩
  · have := get_lt h2
    have : (M.put n (.lst xs) 0).sz = M.sz := rfl
    omega
  · rcases gp q with ⟨rfl, rfl⟩ | ⟨_, q⟩
    · exact bnds_mono (Nat.zero_le _) hx
    · exact hcl m ob hm q
/-- a list has come, besides -/
theorem stp_also {M1 : Mem} (R : RelH K β M H) (s : Stp K β M H β M1 H') {p : Addr} {xs : List PV} {ys : List V} (hp : H p = none) (hp' : H' p = some (.lst ys)) (h : Reps K H' β xs ys) (hsz : M1.sz = M.sz) : Stp K β M H (β ++ [p]) (M1.push (.lst xs)) H' := by
  have R1 := s.rel
  have hn : ∀ n xs, M1.get n = some (.lst xs) → β[n]? ≠ some p := fun n xs e z => by
    obtain ⟨zs, e0⟩ := s.kind n xs (by rw [← hsz]; exact get_lt e) e
    obtain ⟨b, e1, ws, e2, _⟩ := R.obj n _ e0
    rw [z] at e1; cases e1
    rw [hp] at e2; cases e2
  refine ⟨⟨?_, ?_, fun n m a xs1 ys1 e1 e2 z1 z2 => ?_, fun n ob e => ?_⟩, fun _ _ h => snoc_old h, by show M.sz ≤ M1.sz + 1; omega, s.frame, fun n xs hl e => ?_, fun n xs e => ?_, fun n xs1 a hl e z => ?_, s.esc, fun he b hb hcl n ob hn e => ?_⟩
  · rw [List.length_append, R1.len]; rfl
  · show (_ :: M1.objs).length = M1.sz + 1; rw [List.length_cons, R1.olen]
  · rcases get_push e1 with ⟨h1, g1⟩ | ⟨h1, g1⟩ <;> rcases get_push e2 with ⟨h2, g2⟩ | ⟨h2, g2⟩
    · rw [List.getElem?_append_left (by rw [R1.len]; exact h1)] at z1
      rw [List.getElem?_append_left (by rw [R1.len]; exact h2)] at z2
      exact R1.inj n m a _ _ g1 g2 z1 z2
    · rw [List.getElem?_append_left (by rw [R1.len]; exact h1)] at z1
      rw [h2, push_at R1] at z2; cases z2
      exact absurd z1 (hn _ _ g1)
    · rw [List.getElem?_append_left (by rw [R1.len]; exact h2)] at z2
      rw [h1, push_at R1] at z1; cases z1
      exact absurd z2 (hn _ _ g2)
    · rw [h1, h2]
  · rcases get_push e with ⟨h1, g1⟩ | ⟨h1, g1⟩
    · obtain ⟨a, e1, e2⟩ := R1.obj n ob g1
      refine ⟨a, snoc_old e1, ?_⟩
      cases ob with
      | lst xs =>
        obtain ⟨ys, e3, e4⟩ := e2
        exact ⟨ys, e3, e4.mono (fun _ _ h => h) fun _ _ h => snoc_old h⟩
      | rol xs =>
        obtain ⟨ys, e3, e4⟩ := e2
        exact ⟨ys, e3, e4.mono (fun _ _ h => h) fun _ _ h => snoc_old h⟩
    · subst h1 g1
      exact ⟨p, push_at R1, ys, hp', h.mono (fun _ _ h => h) fun _ _ h => snoc_old h⟩
  · rw [get_push_old (by omega)] at e; exact s.kind n xs hl e
  · obtain ⟨zs, q⟩ := s.kind2 n xs e
    exact ⟨zs, by rw [get_push_old (get_lt q)]; exact q⟩
  · rcases get_push e with ⟨h1, _⟩ | ⟨h1, _⟩
    · omega
    · rw [h1, push_at R1] at z; cases z
      exact hp
  · rw [get_push_old (by omega)] at e
    exact s.clo he b hb hcl n ob hn e
theorem oneRef_mem : ∀ {vs : List PV} {n : Nat}, oneRef vs = some n → PV.ref n ∈ vs
  | v :: vs, n, h => by
    unfold oneRef at h
    split at h
    · cases h; exact List.mem_cons_self
    · exact List.mem_cons_of_mem _ (oneRef_mem h)
theorem reps_to0 {n : Nat} {a : Addr} (hb : β[n]? = some a) : ∀ {vs : List PV} {xs : List V}, Reps K H β vs xs → (vs.all fun v => v.pure || isRef n v) = true → Reps K H [a] (vs.map to0) xs
  | [], xs, r, _ => by rw [reps_nil.mp r]; exact reps_nil.mpr rfl
  | v :: vs, xs, r, h => by
    obtain ⟨x, t, rfl, r1, r2⟩ := reps_cons.mp r
    rw [List.all_cons, Bool.and_eq_true] at h
    refine reps_cons.mpr ⟨x, t, rfl, ?_, reps_to0 hb r2 h.2⟩
    cases v with
    | ref m =>
      have : m = n := by simpa [PV.pure, PV.bnd, isRef] using h.1
      subst this
      rw [r1.ref_of hb]
      exact rep_ref.mpr ⟨a, rfl, rfl⟩
    | _ => exact r1.low (fun n a hn => absurd hn (Nat.not_lt_zero _)) (by have := h.1; simp [isRef] at this; exact this)
theorem get1 {o : MObj} {n : Nat} {ob : MObj} (h : (⟨1, [o], 0⟩ : Mem).get n = some ob) : n = 0 ∧ ob = o := by
  have hn : n < 1 := get_lt h
  have hn : n = 0 := by omega
  subst hn
  cases h
  exact ⟨rfl, rfl⟩
/-- the one list alone -/
theorem relH_one (R : RelH K β M H) {n : Nat} {a : Addr} {o : MObj} (hg : M.get n = some o) (hb : β[n]? = some a) (ho : o.bnd 0 = true) : RelH K [a] ⟨1, [o], 0⟩ H := by
  refine ⟨rfl, rfl, fun m1 m2 b xs ys e1 e2 _ _ => ?_, fun m ob e => ?_⟩
  · rw [(get1 e1).1, (get1 e2).1]
  · obtain ⟨rfl, rfl⟩ := get1 e
    obtain ⟨b, e1, e2⟩ := R.obj n _ hg
    rw [hb] at e1; cases e1
    refine ⟨a, rfl, ?_⟩
    cases ob with
    | lst xs =>
      obtain ⟨ys, e3, e4⟩ := e2
      exact ⟨ys, e3, e4.low (fun n a hn => absurd hn (Nat.not_lt_zero _)) ho⟩
    | rol xs =>
      obtain ⟨ys, e3, e4⟩ := e2
      exact ⟨ys, e3, e4.low (fun n a hn => absurd hn (Nat.not_lt_zero _)) ho⟩
/-- and back -/
theorem stp_back (R : RelH K β M H) {n : Nat} {a : Addr} {o o' : MObj} (hg : M.get n = some o) (hb : β[n]? = some a) (ho' : o'.bnd 0 = true) {β' : List Addr} {M' : Mem} (s : Stp K [a] ⟨1, [o], 0⟩ H β' M' H') (h0 : M'.get 0 = some o') : Stp K β M H β (putO M n o') H' := by
  have b0 : β'[0]? = some a := s.pre 0 a rfl
  obtain ⟨a', e1, e2⟩ := s.rel.obj 0 _ h0
  rw [b0] at e1; cases e1
  cases o' with
  | lst xs' =>
    obtain ⟨zs, g0⟩ := s.kind 0 xs' (by show 0 < 1; omega) h0
    obtain ⟨_, rfl⟩ := get1 g0
    obtain ⟨ys, e3, e4⟩ := e2
    exact stp_box R hg hb (fun b ob q hne => s.frame b ob q fun m xs e z => by
      obtain ⟨rfl, _⟩ := get1 e
      cases z
      exact hne rfl) e3 (e4.low (fun n a hn => absurd hn (Nat.not_lt_zero _)) ho') ho'
  | rol xs' =>
    refine stp_ext R fun b ob q => s.frame b ob q fun m xs e z => ?_
    obtain ⟨ws, g1⟩ := s.kind2 m xs e
    obtain ⟨rfl, _⟩ := get1 e
    rw [h0] at g1; cases g1
theorem shs_eq (d : Nat) : ∀ xs : List PV, PV.sh.shs d xs = xs.map (PV.sh d)
  | [] => by rw [PV.sh.shs]; rfl
  | x :: xs => by rw [PV.sh.shs, shs_eq d xs]; rfl
theorem sh_tup (d : Nat) (xs : List PV) : (PV.tup xs).sh d = .tup (xs.map (PV.sh d)) := by rw [PV.sh, shs_eq]
section
variable {β' : List Addr} (hd : β.length = d)
mutual
theorem Rep.sh {d : Nat} (hd : β.length = d) : ∀ {v : PV} {x : V}, Rep K H' β' v x → Rep K H' (β ++ β') (v.sh d) x
  | .non, x, h => by simp only [PV.sh]; exact rep_non.mpr (rep_non.mp h)
  | .bl _, x, h => by simp only [PV.sh]; exact rep_bl.mpr (rep_bl.mp h)
  | .int _, x, h => by simp only [PV.sh]; exact rep_int.mpr (rep_int.mp h)
  | .str _, x, h => by simp only [PV.sh]; exact rep_str.mpr (rep_str.mp h)
  | .tup ps, x, h => by
    obtain ⟨a, xs, rfl, ht, rs⟩ := rep_tup.mp h
    rw [sh_tup]
    exact rep_tup.mpr ⟨a, xs, rfl, ht, Reps.sh hd rs⟩
  | .ref n, x, h => by
    obtain ⟨a, rfl, e⟩ := rep_ref.mp h
    rw [PV.sh]
    refine rep_ref.mpr ⟨a, rfl, ?_⟩
    rw [List.getElem?_append_right (by omega), show n + d - β.length = n by omega]
    exact e
theorem Reps.sh {d : Nat} (hd : β.length = d) : ∀ {ps : List PV} {xs : List V}, Reps K H' β' ps xs → Reps K H' (β ++ β') (ps.map (PV.sh d)) xs
  | [], xs, h => by rw [reps_nil.mp h]; exact reps_nil.mpr rfl
  | p :: ps, xs, h => by
    obtain ⟨x, t, rfl, r1, r2⟩ := reps_cons.mp h
    exact reps_cons.mpr ⟨x, t, rfl, Rep.sh hd r1, Reps.sh hd r2⟩
end
end
theorem join_get {M M' : Mem} (h1 : M.objs.length = M.sz) (h2 : M'.objs.length = M'.sz) {n : Nat} {o : MObj} (h : (M.join M').get n = some o) : (n < M.sz ∧ M.get n = some o) ∨ (∃ m ob, n = M.sz + m ∧ M'.get m = some ob ∧ o = ob.sh M.sz) := by
  have hn := get_lt h
  have hs : (M.join M').sz = M.sz + M'.sz := rfl
  have e : (M.join M').get n = if n < M.sz + M'.sz then (M'.objs.map (MObj.sh M.sz) ++ M.objs)[M.sz + M'.sz - 1 - n]? else none := rfl
  rw [e, if_pos (by omega)] at h
  by_cases c : n < M.sz
  · refine .inl ⟨c, ?_⟩
    rw [List.getElem?_append_right (by rw [List.length_map]; omega)] at h
    unfold Mem.get
    rw [if_pos c, ← h, List.length_map]
    congr 1; omega
  · rw [List.getElem?_append_left (by rw [List.length_map]; omega), List.getElem?_map] at h
    refine .inr ⟨n - M.sz, ?_⟩
    cases q : M'.objs[M.sz + M'.sz - 1 - n]? with
    | none => rw [q] at h; cases h
    | some ob =>
      rw [q] at h; cases h
      refine ⟨ob, by omega, ?_, rfl⟩
      unfold Mem.get
      rw [if_pos (by omega), ← q]
      congr 1; omega
theorem join_old {M M' : Mem} (h1 : M.objs.length = M.sz) (h2 : M'.objs.length = M'.sz) {n : Nat} (c : n < M.sz) : (M.join M').get n = M.get n := by
  have e : (M.join M').get n = if n < M.sz + M'.sz then (M'.objs.map (MObj.sh M.sz) ++ M.objs)[M.sz + M'.sz - 1 - n]? else none := rfl
  rw [e, if_pos (by omega), List.getElem?_append_right (by rw [List.length_map]; omega)]
  unfold Mem.get
  rw [if_pos c, List.length_map]
  congr 1; omega
/-- what was made without knowing of the memory, upon it -/
theorem stp_join (R : RelH K β M H) {β' : List Addr} {M' : Mem} (s : Stp K [] Mem.emp H β' M' H') : Stp K β M H (β ++ β') (M.join M') H' := by
  have ext := emp_ext s
  have R' := s.rel
  have st := stp_ext R ext
  have hl := R.len
  refine ⟨⟨?_, ?_, fun n m a xs ys e1 e2 z1 z2 => ?_, fun n ob e => ?_⟩, fun n a h => ?_, Nat.le_add_right _ _, fun a o h _ => ext a o h, fun n xs hn e => ?_, fun n xs e => ?_, fun n xs a hn e z => ?_, Nat.le_refl _, fun _ b hb hcl n ob hn e => ?_⟩
  · rw [List.length_append, R.len, R'.len]; rfl
  · show (M'.objs.map _ ++ M.objs).length = M.sz + M'.sz
    rw [List.length_append, List.length_map, R.olen, R'.olen]; omega
  · have old : ∀ {n xs}, M.get n = some (.lst xs) → (β ++ β')[n]? = some a → H a ≠ none := fun {n xs} g z h0 => by
      have hn := get_lt g
      rw [List.getElem?_append_left (by omega)] at z
      obtain ⟨b, q1, ws, q2, _⟩ := R.obj n _ g
      rw [z] at q1; cases q1
      rw [h0] at q2; cases q2
    have new : ∀ {m ob}, M'.get m = some ob → (∃ zs, ob.sh M.sz = .lst zs) → (β ++ β')[M.sz + m]? = some a → (∃ ws, M'.get m = some (.lst ws)) ∧ β'[m]? = some a ∧ H a = none := fun {m ob} g hz z => by
      rw [List.getElem?_append_right (by omega), show M.sz + m - β.length = m by omega] at z
      cases ob with
      | lst ws => exact ⟨⟨ws, g⟩, z, s.fresh m ws a (Nat.zero_le _) g z⟩
      | rol ws => obtain ⟨zs, hz⟩ := hz; cases hz
    rcases join_get R.olen R'.olen e1 with ⟨c1, g1⟩ | ⟨m1, o1, rfl, g1, q1⟩ <;> rcases join_get R.olen R'.olen e2 with ⟨c2, g2⟩ | ⟨m2, o2, rfl, g2, q2⟩
    · rw [List.getElem?_append_left (by omega)] at z1 z2
      exact R.inj n m a _ _ g1 g2 z1 z2
    · exact absurd (new g2 ⟨_, q2.symm⟩ z2).2.2 (old g1 z1)
    · exact absurd (new g1 ⟨_, q1.symm⟩ z1).2.2 (old g2 z2)
    · obtain ⟨⟨w1, k1⟩, y1, _⟩ := new g1 ⟨_, q1.symm⟩ z1
      obtain ⟨⟨w2, k2⟩, y2, _⟩ := new g2 ⟨_, q2.symm⟩ z2
      rw [R'.inj m1 m2 a _ _ k1 k2 y1 y2]
  · rcases join_get R.olen R'.olen e with ⟨c, g⟩ | ⟨m, o1, rfl, g, rfl⟩
    · obtain ⟨a, e1, e2⟩ := st.rel.obj n ob g
      refine ⟨a, by rw [List.getElem?_append_left (by omega)]; exact e1, ?_⟩
      have pre : ∀ n a : Nat, β[n]? = some a → (β ++ β')[n]? = some a := fun n a h => by
        rw [List.getElem?_append_left ((List.getElem?_eq_some_iff.mp h).1)]; exact h
      cases ob with
      | lst xs =>
        obtain ⟨ys, e3, e4⟩ := e2
        exact ⟨ys, e3, e4.mono (fun _ _ h => h) pre⟩
      | rol xs =>
        obtain ⟨ys, e3, e4⟩ := e2
        exact ⟨ys, e3, e4.mono (fun _ _ h => h) pre⟩
    · obtain ⟨a, e1, e2⟩ := R'.obj m o1 g
      refine ⟨a, by rw [List.getElem?_append_right (by omega), show M.sz + m - β.length = m by omega]; exact e1, ?_⟩
      cases o1 with
      | lst xs =>
        obtain ⟨ys, e3, e4⟩ := e2
        exact ⟨ys, e3, e4.sh hl⟩
      | rol xs =>
        obtain ⟨ys, e3, e4⟩ := e2
        exact ⟨ys, e3, e4.sh hl⟩
  · rw [List.getElem?_append_left ((List.getElem?_eq_some_iff.mp h).1)]; exact h
  · rw [join_old R.olen R'.olen hn] at e; exact ⟨xs, e⟩
  · exact ⟨xs, by rw [join_old R.olen R'.olen (get_lt e)]; exact e⟩
  · rcases join_get R.olen R'.olen e with ⟨c, g⟩ | ⟨m, o1, rfl, g, q⟩
    · omega
    · rw [List.getElem?_append_right (by omega), show M.sz + m - β.length = m by omega] at z
      cases o1 with
      | lst ws => exact s.fresh m ws a (Nat.zero_le _) g z
      | rol ws => cases q
  · rw [join_old R.olen R'.olen (by omega)] at e
    exact hcl n ob hn e
/-- what a call wants, from what the evaluator says of it -/
theorem callM_sp {cf : CF} {f : Nat} {vs : List PV} {xs : List V} {Q : VK} {σ : L2.St} (R : RelH K β M H) (r : Reps K H β vs xs) (o : Out K β M H (callM cf f vs M) (kQ K Q) (w0 σ)) : spM K cf f xs H Q E0 := by
  unfold callM at o
  by_cases hp : vs.all PV.pure = true
  · rw [if_pos hp] at o
    refine ⟨vs, [], Mem.emp, relH_emp, r.low (fun n a hn => absurd hn (Nat.not_lt_zero _)) hp, ?_⟩
    revert o
    cases cf f vs Mem.emp with
    | ok v M' =>
      intro o β' H' s x hx
      have ext := emp_ext s
      simp only at o
      by_cases hv : v.pure = true
      · rw [if_pos hv] at o
        exact o β H' (stp_ext R ext) x (hx.low (fun n a hn => absurd hn (Nat.not_lt_zero _)) hv)
      · rw [if_neg hv] at o
        split at o
        · rename_i ps
          by_cases hps : ps.all PV.pure = true
          · rw [if_pos hps] at o
            have hg : (⟨1, [MObj.lst ps], 0⟩ : Mem).get 0 = some (.lst ps) := rfl
            obtain ⟨p, ys, e1, e2, e3⟩ := s.rel.lst hg
            have hpn := s.fresh 0 ps p (Nat.zero_le _) hg e1
            rw [hx.ref_of e1]
            refine o _ _ (stp_grow R ext hpn e2 (e3.low (fun n a hn => absurd hn (Nat.not_lt_zero _)) hps)) _ (rep_ref.mpr ⟨p, rfl, push_at R⟩)
          · rw [if_neg hps] at o
            exact o _ _ (stp_join R s) x (hx.sh R.len)
        · exact o _ _ (stp_join R s) x (hx.sh R.len)
    | exc v M' =>
      intro o β' H' s
      simp only at o
      by_cases hv : v.pure = true
      · rw [if_pos hv] at o; exact o β H (.refl R)
      · rw [if_neg hv] at o; exact o.elim
    | stuck => exact fun o => o
  · rw [if_neg hp] at o
    split at o
    · rename_i n hn
      split at o
      · rename_i ob hg
        split at o
        · rename_i hc
          rw [Bool.and_eq_true] at hc
          obtain ⟨a, hb, _⟩ := R.obj n ob hg
          refine ⟨vs.map to0, [a], ⟨1, [ob], 0⟩, relH_one R hg hb hc.2, reps_to0 hb r hc.1, ?_⟩
          unfold callBox at o
          revert o
          cases cf f (vs.map to0) ⟨1, [ob], 0⟩ with
          | stuck => exact fun o => o
          | exc v M' => exact fun o => o.elim
          | ok v M' =>
            intro o β' H' s x hx
            have b0 : β'[0]? = some a := s.pre 0 a rfl
            simp only at o
            split at o
            · rename_i o'
              split at o
              · rename_i ho'
                have st := stp_back R hg hb ho' s rfl
                split at o
                · rename_i hv
                  exact o β H' st x (hx.low (fun n a hn => absurd hn (Nat.not_lt_zero _)) hv)
                · split at o
                  · rename_i hv
                    cases v with
                    | ref m =>
                      have : m = 0 := by simpa [isRef] using hv
                      subst this
                      rw [hx.ref_of b0]
                      exact o β H' st _ (rep_ref.mpr ⟨a, rfl, hb⟩)
                    | _ => simp [isRef] at hv
                  · exact o.elim
              · exact o.elim
            · rename_i ys o'
              split at o
              · rename_i ho'
                simp only [Bool.and_eq_true] at ho'
                have st := stp_back R hg hb ho'.2 s rfl
                have hg1 : (⟨2, [MObj.lst ys, o'], 0⟩ : Mem).get 1 = some (.lst ys) := rfl
                obtain ⟨p, zs, e1, e2, e3⟩ := s.rel.lst hg1
                have hpn := s.fresh 1 ys p (by show 1 ≤ 1; omega) hg1 e1
                cases v with
                | ref m =>
                  have : m = 1 := by simpa [isRef] using ho'.1.1
                  subst this
                  rw [hx.ref_of e1]
                  have hsz : (putO M n o').sz = M.sz := by cases o' <;> rfl
                  have := stp_also R st hpn e2 (e3.low (fun n a hn => absurd hn (Nat.not_lt_zero _)) ho'.1.2) hsz
                  exact o _ _ this _ (rep_ref.mpr ⟨p, rfl, push_at R⟩)
                | _ => simp [isRef] at ho'
              · exact o.elim
            · exact o.elim
        · exact ⟨vs, β, M, R, r, o.trim R⟩
      · exact ⟨vs, β, M, R, r, o.trim R⟩
    · exact ⟨vs, β, M, R, r, o.trim R⟩
end
section
variable {X : Cx} {k : Nat} {cf : CF} {fn : List (Nat × Str)} {S : SC} {e : Expr} {es : List Expr} {pos p : Pos} {x : Str} {ea eb : Mn.Ev} {eA : Mn.St → Mem → Res (List PV)} {w : WS}
/-- the def runs -/
theorem runG {fa : Addr} {fd : FuncData} {ps : List Str} {sp : Sp} {pins : List (Addr × Obj)} {σ : L2.St} {H : Hp} {s : Shared} {Q : VK} {us : List Value} {xs : List V} (F : FnG X.prog X.w X.K X.mg X.base k fa fd ps sp) (G : Gd X k cf fn S) (hb : Binds X.K fd ps [])
    (I : Inv X pins σ H s) (r : Vals xs us) (h : sp xs H Q E0) : wpAny (model X.prog X.w) X.A (call (.ref fa) us) (EP X pins σ Q) X.xe s := by
  have hl : us.length = ps.length := r.length.symm.trans (F.many _ _ _ _ h)
  have hb' := hb s us I.kIn (by rw [List.append_nil]; exact hl)
  rw [List.append_nil] at hb'
  refine wpAny_call (codeAny_mono (F.goes X.A X.stack s H ⟨us, []⟩ us xs Q E0 G.room G.gd I.env0 hb' r h) fun res s' hq => ?_)
  match res, hq with
  | .error _, hq => exact hq.elim
  | .ok (.ret _), hq => exact I.after hq
  | .ok .next, hq => exact hq.elim
  | .ok .brk, hq => exact hq.elim
  | .ok .cont, hq => exact hq.elim
theorem s_call {f : Nat} (G : Gd X k cf fn S) (hf : fn.lookup f = some x) (hg : glB S.sc x = true) (hn : nmB x = true) (hst : (e :: es).all notStar = true) (ha : PA X (e :: es) (tAs X.K w0 eA)) :
    PE X (.Call (.Name x p) (e :: es) [] pos) (tE X.K w0 (fun σ M => (eA σ M).bind fun vs M1 => callM cf f vs M1)) := by
  obtain ⟨fa, fd, ps, hm, hk, hb, F⟩ := G.fns f x hf
  have h2 := List.all_cons.symm.trans hst
  rw [Bool.and_eq_true] at h2
  refine ⟨fun pins s σ H Q I h => ?_⟩
  obtain ⟨mσ, β, M, R, Sl, o⟩ := h
  refine wpAny_Call_Name_kw (ld_glob I (G.gl hg) hm ?_ (nmB_of hn).1)
  have hh : tAs X.K w0 eA σ H fun xs H1 => spM X.K cf f xs H1 Q E0 := oneA R Sl o fun vs xs β1 M1 H1 s1 r1 S1 o1 => callM_sp (σ := σ) s1.rel r1 o1
  exact PySem.W.callWith_K (h₀ := X.base) I.ok.mod.kin hk (thn (ha.run pos pins s σ H _ I hh) fun us s1 ⟨xs, H1, I1, r, q⟩ => ⟨I1.kIn, runG F G hb I1 r q⟩) (notStar_of h2.1) (star_any pos h2.2)
theorem s_call0 {f : Nat} (G : Gd X k cf fn S) (hf : fn.lookup f = some x) (hg : glB S.sc x = true) (hn : nmB x = true) :
    PE X (.Call (.Name x p) [] [] pos) (tE X.K w0 (fun σ M => (Res.ok [] M).bind fun vs M1 => callM cf f vs M1)) := by
  obtain ⟨fa, fd, ps, hm, hk, hb, F⟩ := G.fns f x hf
  refine ⟨fun pins s σ H Q I h => ?_⟩
  obtain ⟨mσ, β, M, R, Sl, o⟩ := h
  have o : Out X.K β M H (callM cf f [] M) (kQ X.K Q) (w0 σ) := o
  refine wpAny_Call_Name_kw (ld_glob I (G.gl hg) hm ?_ (nmB_of hn).1)
  exact PySem.W.callWith_K0 I.kIn hk (runG (us := []) F G hb I .nil (callM_sp (σ := σ) R (reps_nil.mpr rfl) o))
/-- a built-in by its name -/
theorem s_bB {f : BF} {id : String} (hr : CallR X (.builtin id) (rC X.K f)) (hg : Gl X x) (hm : X.mg x = none) (hv : bootBuiltins x = some (.builtin id)) (hx : x ≠ "__name__") (hd : (x == ("__debug__" : Str)) = false) (hst : (e :: es).all notStar = true)
    (ha : PA X (e :: es) (tAs X.K w eA)) : PE X (.Call (.Name x p) (e :: es) [] pos) (tE X.K w (fun σ M => (eA σ M).bind fun vs M1 => bcallM f vs M1)) := by
  have h2 := List.all_cons.symm.trans hst
  rw [Bool.and_eq_true] at h2
  refine PE.imp (pe_callB hr hg hm hv ha hx hd (notStar_of h2.1) (star_any pos h2.2)) fun σ H Q h => ?_
  obtain ⟨mσ, β, M, R, Sl, o⟩ := h
  refine oneA R Sl o fun vs xs β1 M1 H1 s1 r1 S1 o1 => ?_
  exact ⟨vs, β1, M1, w σ, s1.rel, r1, o1⟩
theorem s_bT {f : BF} {T : String} (hr : CallR X (.type T) (rC X.K f)) (hg : Gl X x) (hm : X.mg x = none) (hv : bootBuiltins x = some (.type T)) (hx : x ≠ "__name__") (hd : (x == ("__debug__" : Str)) = false) (hst : (e :: es).all notStar = true)
    (ha : PA X (e :: es) (tAs X.K w eA)) : PE X (.Call (.Name x p) (e :: es) [] pos) (tE X.K w (fun σ M => (eA σ M).bind fun vs M1 => bcallM f vs M1)) := by
  have h2 := List.all_cons.symm.trans hst
  rw [Bool.and_eq_true] at h2
  refine PE.imp (pe_callTy hr hg hm hv ha hx hd (notStar_of h2.1) (star_any pos h2.2)) fun σ H Q h => ?_
  obtain ⟨mσ, β, M, R, Sl, o⟩ := h
  refine oneA R Sl o fun vs xs β1 M1 H1 s1 r1 S1 o1 => ?_
  exact ⟨vs, β1, M1, w σ, s1.rel, r1, o1⟩
theorem s_bcall {f : BF} (G : Gd X k cf fn S) (hf : f.id = some x) (hg : glB S.sc x = true) (hst : (e :: es).all notStar = true) (ha : PA X (e :: es) (tAs X.K w eA)) :
    PE X (.Call (.Name x p) (e :: es) [] pos) (tE X.K w (fun σ M => (eA σ M).bind fun vs M1 => bcallM f vs M1)) := by
  have gl := G.gl hg
  cases f <;> simp only [BF.id] at hf <;> cases hf
  · exact s_bB cb_len gl (G.blt _ (by decide +kernel)) (by decide +kernel) (by decide +kernel) (by decide +kernel) hst ha
  · exact s_bB (cb_all G.calm) gl (G.blt _ (by decide +kernel)) (by decide +kernel) (by decide +kernel) (by decide +kernel) hst ha
  · exact s_bB (cb_any G.calm) gl (G.blt _ (by decide +kernel)) (by decide +kernel) (by decide +kernel) (by decide +kernel) hst ha
  · exact s_bT cb_int gl (G.blt _ (by decide +kernel)) (by decide +kernel) (by decide +kernel) (by decide +kernel) hst ha
  · exact s_bT cb_list gl (G.blt _ (by decide +kernel)) (by decide +kernel) (by decide +kernel) (by decide +kernel) hst ha
  · exact s_bT cb_tuple gl (G.blt _ (by decide +kernel)) (by decide +kernel) (by decide +kernel) (by decide +kernel) hst ha
  · exact s_bB (cb_sum G.calm) gl (G.blt _ (by decide +kernel)) (by decide +kernel) (by decide +kernel) (by decide +kernel) hst ha
  · exact s_bB (cb_max1 G.calm) gl (G.blt _ (by decide +kernel)) (by decide +kernel) (by decide +kernel) (by decide +kernel) hst ha
  · exact s_bB (cb_min1 G.calm) gl (G.blt _ (by decide +kernel)) (by decide +kernel) (by decide +kernel) (by decide +kernel) hst ha
  · exact s_bB (cb_max2 G.calm) gl (G.blt _ (by decide +kernel)) (by decide +kernel) (by decide +kernel) (by decide +kernel) hst ha
  · exact s_bB (cb_min2 G.calm) gl (G.blt _ (by decide +kernel)) (by decide +kernel) (by decide +kernel) (by decide +kernel) hst ha
  · exact s_bB (cb_sorted G.hu) gl (G.blt _ (by decide +kernel)) (by decide +kernel) (by decide +kernel) (by decide +kernel) hst ha
  · exact s_bB (cb_repr G.hu G.gd) gl (G.blt _ (by decide +kernel)) (by decide +kernel) (by decide +kernel) (by decide +kernel) hst ha
/-- list(range(n)), tuple(range(n)) -/
theorem rangeL_rep {K : PySem.W.Frag} {H : Hp} {β : List Addr} (lo hi : Int) : Reps K H β (rangeL lo hi) (rgV lo hi) := by
  unfold rangeL rgV
  generalize List.range (hi - lo).toNat = l
  induction l with
  | nil => exact reps_nil.mpr rfl
  | cons i l ih => exact reps_cons.mpr ⟨_, _, rfl, rep_int.mpr rfl, ih⟩
theorem inRange_of {i : Int} (h : inRange i = true) : -(2 ^ 62) ≤ i ∧ i < 2 ^ 62 := by
  unfold inRange at h
  simpa using h
theorem s_listR1 {y : Str} {p2 pos2 : Pos} (G : Gd X k cf fn S) (hx : x = "list") (hy : y = "range") (hg : glB S.sc x = true) (hg2 : glB S.sc y = true) (hst : notStar e = true) (ha : PE X e (tE X.K w ea)) :
    PE X (.Call (.Name x p) [.Call (.Name y p2) [e] [] pos2] [] pos) (tE X.K w (fun σ M => ((ea σ M).bind fun v M1 => (Res.ok [] M1).bind fun vs M2 => .ok (v :: vs) M2).bind fun vs M1 => bcallM .listR1 vs M1)) := by
  subst hx hy
  refine PE.imp (pe_listRg G.calm (G.gl hg) (G.blt _ (by decide +kernel)) (prg_1 (G.gl hg2) (G.blt _ (by decide +kernel)) ha (notStar_of hst)) (notStar_of rfl)) fun σ H Q h => ?_
  obtain ⟨mσ, β, M, R, Sl, o⟩ := h
  simp only [assoc3] at o
  refine one R Sl o fun v x β1 M1 H1 s1 r1 S1 o1 => ?_
  have o1 : Out X.K β1 M1 H1 (bcallM .listR1 [v] M1) (kQ X.K Q) (w σ) := o1
  cases v with
  | int j =>
    simp only [bcallM] at o1
    split at o1
    · rename_i hc
      rw [Bool.and_eq_true, decide_eq_true_eq] at hc
      obtain ⟨b1, b2⟩ := inRange_of hc.1
      exact ⟨j, rep_int.mp r1, ⟨by omega, by omega, b1, b2, by omega⟩, fun q hq => o1.lst s1.rel (rangeL_rep 0 j) hq⟩
    · exact o1.elim
  | _ => exact o1.elim
theorem s_tupR1 {y : Str} {p2 pos2 : Pos} (G : Gd X k cf fn S) (hx : x = "tuple") (hy : y = "range") (hg : glB S.sc x = true) (hg2 : glB S.sc y = true) (hst : notStar e = true) (ha : PE X e (tE X.K w ea)) :
    PE X (.Call (.Name x p) [.Call (.Name y p2) [e] [] pos2] [] pos) (tE X.K w (fun σ M => ((ea σ M).bind fun v M1 => (Res.ok [] M1).bind fun vs M2 => .ok (v :: vs) M2).bind fun vs M1 => bcallM .tupR1 vs M1)) := by
  subst hx hy
  have hr := prg_1 (p := p2) (pos := pos2) (G.gl hg2) (G.blt _ (by decide +kernel)) ha (notStar_of hst)
  refine ⟨fun pins s σ H Q I h => ?_⟩
  obtain ⟨mσ, β, M, R, Sl, o⟩ := h
  simp only [assoc3] at o
  have key : tRg1 (tE X.K w ea) σ H fun a b H1 => RgOk a b ∧ ∀ q ob, H1 q = none → ob.dict = none → Q (.ref q) (upd H1 q (.frz ob (.tup (rgV a b)))) := by
    refine one R Sl o fun v x β1 M1 H1 s1 r1 S1 o1 => ?_
    have o1 : Out X.K β1 M1 H1 (bcallM .tupR1 [v] M1) (kQ X.K Q) (w σ) := o1
    cases v with
    | int j =>
      simp only [bcallM] at o1
      split at o1
      · rename_i hc
        rw [Bool.and_eq_true, decide_eq_true_eq] at hc
        obtain ⟨b1, b2⟩ := inRange_of hc.1
        exact ⟨j, rep_int.mp r1, ⟨by omega, by omega, b1, b2, by omega⟩, fun q ob hq ho => o1.tup s1.rel (rangeL_rep 0 j) hq ho⟩
      · exact o1.elim
    | _ => exact o1.elim
  refine Call_ (ld_blt I (G.gl hg) (G.blt _ (by decide +kernel)) boot_tuple (PyProof.Rows.callWith_type1 (args_cons (thn (hr pins s σ H _ I key) fun x s1 ⟨r, a, b, t, u, v, H1, ex, hrr, I1, ok, q⟩ => args_nil ?_) (notStar_of rfl)) (notStar_of rfl)))
  subst ex
  obtain ⟨b1, b2, b3, b4, b5⟩ := ok
  refine call_tuple_range (n := (b - a).toNat) (I1.ok.hd G.calm) hrr (small_one b1 b2 b3 b4) (rangeSize_nat a b) b5 fun h' tk acc hk hi => ?_
  have I2 : Inv X pins σ H1 { s1 with heap := h', toks := tk } := I1.kept hk
  have I3 := newTup I2 (vals_rg hi) (by rw [rgV_length, sizeLine_eq]; omega)
  have e2 : tupObj acc.toList = { cls := .type "tuple", data := .seq acc } := by unfold tupObj; rw [Array.toArray_toList]
  rw [e2] at I3
  exact ⟨.ref h'.objs.size, _, I3, rfl, q _ _ (I2.hok.fresh (Nat.le_refl _)) rfl⟩
/-- tuple(reversed(a list)) -/
theorem s_tupRev {y : Str} {p2 pos2 : Pos} (G : Gd X k cf fn S) (hx : x = "tuple") (hy : y = "reversed") (hg : glB S.sc x = true) (hg2 : glB S.sc y = true) (hst : notStar e = true) (ha : PE X e (tE X.K w ea)) :
    PE X (.Call (.Name x p) [.Call (.Name y p2) [e] [] pos2] [] pos) (tE X.K w (fun σ M => ((ea σ M).bind fun v M1 => (Res.ok [] M1).bind fun vs M2 => .ok (v :: vs) M2).bind fun vs M1 => bcallM .tupRev vs M1)) := by
  subst hx hy
  refine ⟨fun pins s σ H Q I h => ?_⟩
  obtain ⟨mσ, β, M, R, Sl, o⟩ := h
  simp only [assoc3] at o
  have key : tE X.K w ea σ H fun v H1 => ∃ (a : Addr) (ys : List V), v = .ref a ∧ SqL X.K H1 a ys ∧ ∀ q ob, H1 q = none → ob.dict = none → Q (.ref q) (upd H1 q (.frz ob (.tup ys.reverse))) := by
    refine one R Sl o fun v x β1 M1 H1 s1 r1 S1 o1 => ?_
    have o1 : Out X.K β1 M1 H1 (bcallM .tupRev [v] M1) (kQ X.K Q) (w σ) := o1
    cases v with
    | ref n =>
      simp only [bcallM] at o1
      split at o1
      · rename_i ps e
        obtain ⟨a, ys, hb, hl, rr⟩ := s1.rel.list e
        exact ⟨a, ys, r1.ref_of hb, hl, fun q ob hq ho => o1.tup s1.rel rr.rev hq ho⟩
      · exact o1.elim
    | _ => exact o1.elim
  have hs := notStar_of (env := X.env) (es := []) hst
  refine Call_ (ld_blt I (G.gl hg) (G.blt _ (by decide +kernel)) boot_tuple (PyProof.Rows.callWith_type1 (args_cons (Call_ (ld_blt I (G.gl hg2) (G.blt _ (by decide +kernel)) PyProof.Rows.boot_reversed (PyProof.Rows.callWith_type1 (args_cons (thn (ha.run pins s σ H _ I key) fun u s1 ⟨v, H1, I1, r1, q1⟩ => args_nil ?_) hs) hs rfl))) (notStar_of rfl)) (notStar_of rfl) rfl))
  obtain ⟨a, ys, ev, hq, q⟩ := q1
  subst ev
  obtain rfl : u = Value.ref a := r1
  obtain ⟨its, rv, pl, hz⟩ := I1.list hq
  refine call_reversed_list pl.isList (args_nil ?_)
  have I2 : Inv X pins σ H1 { s1 with heap := s1.heap.push (revObj a ((its.toArray.size : Int) - 1)) } := I1.kept (t' := s1.toks) fun b o e => Heap.get?_push_of_some _ e
  obtain ⟨f0, f1, f2, f3, f4, f5⟩ := I1.fpOk (H' := H1) (b := s1.heap.objs.size) (Nat.le_refl _) (I1.hok.fresh (Nat.le_refl _))
  have hn : its.toArray.size ≤ sizeLine := by rw [List.size_toArray, ← rv.length]; exact hz
  have hne : a ≠ s1.heap.objs.size := by
    obtain ⟨ob, hob, _⟩ := id pl.isList
    exact Nat.ne_of_lt (Heap.lt_size hob)
  refine RT.call_tuple_rev (s := { s1 with heap := s1.heap.push (revObj a ((its.toArray.size : Int) - 1)) }) (I1.ok.hd G.calm) ⟨_, Heap.get?_push_size _ rfl, rfl, rfl⟩ (pl.isList.push _) hne hn fun h' tk acc hk hi => ?_
  have I3 : Inv X pins σ H1 { s1 with heap := h', toks := tk } := I2.turned (t' := tk) (fun b o hb e => hk b o hb e) f0 f1 f3 f4 f5
  have I4 := newTup I3 (RT.vals_rev rv hi) (by rw [List.length_reverse]; exact hz)
  have e2 : tupObj acc.toList = { cls := .type "tuple", data := .seq acc } := by unfold tupObj; rw [Array.toArray_toList]
  rw [e2] at I4
  exact ⟨.ref h'.objs.size, _, I4, rfl, q _ _ (I3.hok.fresh (Nat.le_refl _)) rfl⟩
end
end Mn
end
section
set_option Elab.async false
set_option linter.all false
set_option maxRecDepth 100000
set_option maxHeartbeats 4000000
namespace Mn
open PySem PySem.Spec PyProof.Rows L2

/-! ### isinstance -/
def PV.ty (v : PV) : String := match v with
  | .non => "NoneType" | .bl _ => "bool" | .int _ => "int" | .str _ => "str" | .tup _ => "tuple" | .ref _ => "list"
def TyK.ty : TyK → String
  | .list => "list" | .tuple => "tuple" | .bool => "bool" | .int => "int" | .str => "str"
theorem kt_non : ∀ t : TyK, kitB "NoneType" t.ty = some (([] : List TyK).contains t) := fun t => by cases t <;> decide +kernel
theorem kt_bl : ∀ t : TyK, kitB "bool" t.ty = some ([TyK.bool, TyK.int].contains t) := fun t => by cases t <;> decide +kernel
theorem kt_int : ∀ t : TyK, kitB "int" t.ty = some ([TyK.int].contains t) := fun t => by cases t <;> decide +kernel
theorem kt_str : ∀ t : TyK, kitB "str" t.ty = some ([TyK.str].contains t) := fun t => by cases t <;> decide +kernel
theorem kt_tup : ∀ t : TyK, kitB "tuple" t.ty = some ([TyK.tuple].contains t) := fun t => by cases t <;> decide +kernel
theorem kt_lst : ∀ t : TyK, kitB "list" t.ty = some ([TyK.list].contains t) := fun t => by cases t <;> decide +kernel
section
variable {K : PySem.W.Frag} {β : List Addr} {M : Mem} {H : Hp}
theorem ty_rep (R : RelH K β M H) {v : PV} {x : V} {ks : List TyK} (h : tyOf v M = some ks) (r : Rep K H β v x) : TyX K H x (.type v.ty) ∧ ∀ t : TyK, PySem.W.kitOne K (.type v.ty) (.type t.ty) = some (ks.contains t) := by
  cases v with
  | non =>
    cases h
    rw [rep_non.mp r]
    exact ⟨.base .non, fun t => kit_ty (kt_non t)⟩
  | bl b =>
    cases h
    rw [rep_bl.mp r]
    exact ⟨.base (.bl _), fun t => kit_ty (kt_bl t)⟩
  | int b =>
    cases h
    rw [rep_int.mp r]
    exact ⟨.base (.int _), fun t => kit_ty (kt_int t)⟩
  | str b =>
    cases h
    rw [rep_str.mp r]
    exact ⟨.base (.str _), fun t => kit_ty (kt_str t)⟩
  | tup ps =>
    cases h
    obtain ⟨a, xs, rfl, ht, _⟩ := rep_tup.mp r
    refine ⟨?_, fun t => kit_ty (kt_tup t)⟩
    rcases ht with ⟨o, e, _⟩ | ⟨o, its, n, e1, e2, _⟩
    · exact .fTuple e
    · exact .kTuple e1 e2
  | ref n =>
    simp only [tyOf] at h
    split at h
    · rename_i o e
      cases h
      obtain ⟨a, e1, e2⟩ := R.obj n o e
      rw [r.ref_of e1]
      refine ⟨?_, fun t => kit_ty (kt_lst t)⟩
      cases o with
      | lst xs =>
        obtain ⟨ys, e3, _⟩ := e2
        exact .base (.lst e3)
      | rol xs =>
        obtain ⟨ys, e3, _⟩ := e2
        rcases e3 with ⟨ob, e3⟩ | ⟨ob, its, m, e3, e4, _⟩
        · exact .base (.frz e3)
        · exact .kList e3 e4
    · cases h
theorem kits {t0 : String} {ks : List TyK} (h : ∀ t : TyK, PySem.W.kitOne K (.type t0) (.type t.ty) = some (ks.contains t)) : ∀ ts : List TyK, PySem.W.kitAny K (.type t0) (ts.map fun t => Value.type t.ty) = some (ts.any fun t => ks.contains t)
  | [] => rfl
  | t :: ts => by
    have ih := kits h ts
    rw [List.map_cons, List.any_cons]
    refine kitAny_cons (h t) (fun e => ?_) fun e => ?_
    · rw [e, ih]; rfl
    · rw [e]; rfl
theorem any_swap (ks ts : List TyK) : (ks.any fun k => ts.contains k) = ts.any fun t => ks.contains t := by
  rw [Bool.eq_iff_iff]
  simp only [List.any_eq_true, List.contains_iff_mem]
  exact ⟨fun ⟨a, h1, h2⟩ => ⟨a, h2, h1⟩, fun ⟨a, h1, h2⟩ => ⟨a, h2, h1⟩⟩
end
section
variable {X : Cx} {k : Nat} {cf : CF} {fn : List (Nat × Str)} {S : SC} {e : Expr} {es : List Expr} {pos p : Pos} {x : Str} {ea eb : Mn.Ev} {eA : Mn.St → Mem → Res (List PV)} {w : WS}
theorem ty_name (G : Gd X k cf fn S) {t : TyK} {z : Str} (hz : z = t.id) (hg : glB S.sc z = true) : PE X (.Name z p) (tC (.ty t.ty)) := by
  subst hz
  cases t
  · exact pe_bltn (G.gl hg) (G.blt _ (by decide +kernel)) (u := .type "list") (by decide +kernel) rfl (by decide +kernel) (by decide +kernel)
  · exact pe_bltn (G.gl hg) (G.blt _ (by decide +kernel)) (u := .type "tuple") (by decide +kernel) rfl (by decide +kernel) (by decide +kernel)
  · exact pe_bltn (G.gl hg) (G.blt _ (by decide +kernel)) (u := .type "bool") (by decide +kernel) rfl (by decide +kernel) (by decide +kernel)
  · exact pe_bltn (G.gl hg) (G.blt _ (by decide +kernel)) (u := .type "int") (by decide +kernel) rfl (by decide +kernel) (by decide +kernel)
  · exact pe_bltn (G.gl hg) (G.blt _ (by decide +kernel)) (u := .type "str") (by decide +kernel) rfl (by decide +kernel) (by decide +kernel)
theorem s_isi1 {t : TyK} {z : Str} {p2 : Pos} (G : Gd X k cf fn S) (hx : x = "isinstance") (hg : glB S.sc x = true) (hst : notStar e = true) (hz : z = t.id) (hgz : glB S.sc z = true) (ha : PE X e (tE X.K w ea)) :
    PE X (.Call (.Name x p) [e, .Name z p2] [] pos) (tE X.K w (fun σ M => (ea σ M).bind fun v M1 => isiM v [t] M1)) := by
  subst hx
  refine PE.imp (pe_callB call_isi (G.gl hg) (G.blt _ (by decide +kernel)) (by decide +kernel) (pa_cons ha (pa_cons (ty_name G hz hgz) pa_nil (notStar_of rfl)) (notStar_of hst)) (by decide +kernel) (by decide +kernel) (notStar_of hst) (star_any pos rfl)) fun σ H Q h => ?_
  obtain ⟨mσ, β, M, R, Sl, o⟩ := h
  refine one R Sl o fun v y β1 M1 H1 s1 r1 S1 o1 => ?_
  unfold isiM at o1
  split at o1
  · rename_i ks hk
    obtain ⟨t1, t2⟩ := ty_rep s1.rel hk r1
    refine ⟨y, .ty t.ty, _, _, _, rfl, .ty _, t1, t2 t, ?_⟩
    rw [any_swap] at o1
    have := o1.flat s1.rel (rep_bl.mpr rfl)
    simpa using this
  · exact o1.elim
theorem tys_pa (G : Gd X k cf fn S) : ∀ {ts : List TyK} {es : List Expr}, tysB S.sc ts es = true → PA X es (fun _ H Q => Q (ts.map fun t => V.ty t.ty) H) ∧ es.all notStar = true
  | [], [], _ => ⟨PA.imp pa_nil fun _ _ _ h => h, rfl⟩
  | [], _ :: _, h => by unfold tysB at h; cases h
  | t :: ts, [], h => by unfold tysB at h; cases h
  | t :: ts, e :: es, h => by
    cases e with
    | Name y p =>
      unfold tysB at h
      simp only [Bool.and_eq_true, beq_iff_eq] at h
      obtain ⟨ih1, ih2⟩ := tys_pa G h.2
      refine ⟨PA.imp (pa_cons (ty_name G h.1.1 h.1.2) ih1 (notStar_of rfl)) fun _ _ _ q => q, ?_⟩
      rw [List.all_cons, ih2]; rfl
    | _ => unfold tysB at h; cases h
theorem clsV_map : ∀ ts : List TyK, Paired ClsV (ts.map fun t => V.ty t.ty) (ts.map fun t => Value.type t.ty)
  | [] => .nil
  | t :: ts => .cons (.ty _) (clsV_map ts)
theorem s_isiT {ts : List TyK} {kk : Nat} {p2 : Pos} (G : Gd X k cf fn S) (hx : x = "isinstance") (hg : glB S.sc x = true) (hst : notStar e = true) (ht : tysB S.sc ts es = true) (ha : PE X e (tE X.K w ea)) :
    PE X (.Call (.Name x p) [e, .Tuple es kk p2] [] pos) (tE X.K w (fun σ M => (ea σ M).bind fun v M1 => if ts.length ≤ LIM then isiM v ts M1 else .stuck)) := by
  subst hx
  obtain ⟨h1, h2⟩ := tys_pa G ht
  refine PE.imp (pe_callB call_isiT (G.gl hg) (G.blt _ (by decide +kernel)) (by decide +kernel) (pa_cons ha (pa_cons (pe_tup h1) pa_nil (notStar_of rfl)) (notStar_of hst)) (by decide +kernel) (by decide +kernel) (notStar_of hst) (star_any pos rfl)) fun σ H Q h => ?_
  obtain ⟨mσ, β, M, R, Sl, o⟩ := h
  refine one R Sl o fun v y β1 M1 H1 s1 r1 S1 o1 => ?_
  by_cases hz : ts.length ≤ LIM
  · rw [if_pos hz] at o1
    refine ⟨by rw [List.length_map, ← LIM_eq]; exact hz, fun q hq => ?_⟩
    have s2 := stp_new (o := HO.tup (ts.map fun t => V.ty t.ty)) s1.rel hq
    unfold isiM at o1
    split at o1
    · rename_i ks hk
      obtain ⟨t1, t2⟩ := ty_rep s2.rel hk (s2.rep s1.rel r1)
      refine ⟨y, q, _, _, _, _, rfl, upd_same, clsV_map ts, t1, kits t2 ts, ?_⟩
      rw [any_swap] at o1
      exact o1 _ _ s2 _ (rep_bl.mpr rfl)
    · exact o1.elim
  · rw [if_neg hz] at o1; exact o1.elim

/-! ### methods -/
/-- of what type the thing is, and which built-in is meant -/
theorem recv_list {pins : List (Addr × Obj)} {s : Shared} {σ : L2.St} {H : Hp} {β : List Addr} {M : Mem} {n : Nat} {y : V} {u : Value} (I : Inv X pins σ H s) (R : RelH X.K β M H) (hr : (M.get n).isSome = true) (r : Rep X.K H β (.ref n) y) (ru : RelV y u) :
    s.TypeIs u "list" ∧ ∀ a, u = .ref a → ∃ ob, s.heap.get? a = some ob ∧ ob.dict = none := by
  obtain ⟨o, e⟩ := Option.isSome_iff_exists.mp hr
  have : ∃ xs, M.lst? n = some xs := by
    unfold Mem.lst?
    rw [e]
    cases o <;> exact ⟨_, rfl⟩
  obtain ⟨xs, e⟩ := this
  obtain ⟨a, ys, e1, e2, _⟩ := R.list e
  rw [r.ref_of e1] at ru
  exact tyV_is I ru (.inl ⟨rfl, ys, e2⟩)
theorem recv_tup {pins : List (Addr × Obj)} {s : Shared} {σ : L2.St} {H : Hp} {β : List Addr} {ps : List PV} {y : V} {u : Value} (I : Inv X pins σ H s) (r : Rep X.K H β (.tup ps) y) (ru : RelV y u) :
    s.TypeIs u "tuple" ∧ ∀ a, u = .ref a → ∃ ob, s.heap.get? a = some ob ∧ ob.dict = none := by
  obtain ⟨a, xs, rfl, ht, _⟩ := rep_tup.mp r
  cases ru
  rcases ht with ⟨o, e, d⟩ | ⟨o, its, n, e1, e2, d, _⟩
  · obtain ⟨e1, _, its, _, o', e2, hc, _⟩ := I.hok a _ e
    rw [e1] at e2; cases e2
    exact ⟨⟨o, e1, hc⟩, fun b q => by cases q; exact ⟨o, e1, d⟩⟩
  · exact ⟨⟨o, I.kIn a o e1, e2⟩, fun b q => by cases q; exact ⟨o, I.kIn _ o e1, d⟩⟩
/-- the built-in behind a method, and that it keeps what methM says -/
theorem meth_at {m : MF} {v : PV} {M1 : Mem} {β1 : List Addr} {H1 : Hp} (hu : X.A.units + 65 < cLine) (R : RelH X.K β1 M1 H1) (hr : recvOk m v M1 = true) {y : V} (r : Rep X.K H1 β1 v y) :
    ∃ T id, PlainAttrs T ∧ Slot T m.id id ∧ typeOf (.builtin id) = pure (.type "method_descriptor") ∧
      (∀ pins s σ u, Inv X pins σ H1 s → RelV y u → s.TypeIs u T ∧ ∀ a, u = .ref a → ∃ ob, s.heap.get? a = some ob ∧ ob.dict = none) ∧
      ∀ pins s σ H xs u us Q, Inv X pins σ H s → RelV y u → Vals xs us → (∃ vs β M w, RelH X.K β M H ∧ Rep X.K H β v y ∧ Reps X.K H β vs xs ∧ Out X.K β M H (methM m v vs M) (kQ X.K Q) w) →
        wpAny (model X.prog X.w) X.A (call (.builtin id) (u :: us)) (EP X pins σ Q) X.xe s := by
  have lst : ∀ {n : Nat} {id : String}, v = .ref n → (M1.get n).isSome = true → Slot "list" m.id id → typeOf (.builtin id) = pure (.type "method_descriptor") → MtR X id (rMt X.K m) →
      ∃ T id, PlainAttrs T ∧ Slot T m.id id ∧ typeOf (.builtin id) = pure (.type "method_descriptor") ∧
      (∀ pins s σ u, Inv X pins σ H1 s → RelV y u → s.TypeIs u T ∧ ∀ a, u = .ref a → ∃ ob, s.heap.get? a = some ob ∧ ob.dict = none) ∧
      ∀ pins s σ H xs u us Q, Inv X pins σ H s → RelV y u → Vals xs us → (∃ vs β M w, RelH X.K β M H ∧ Rep X.K H β v y ∧ Reps X.K H β vs xs ∧ Out X.K β M H (methM m v vs M) (kQ X.K Q) w) →
        wpAny (model X.prog X.w) X.A (call (.builtin id) (u :: us)) (EP X pins σ Q) X.xe s := fun {n id} hv hs slot ty mt => by
    subst hv
    refine ⟨"list", id, PySem.F.plainAttrs_list, slot, ty, fun pins s σ u I ru => recv_list I R hs r ru, fun pins s σ H xs u us Q I ru rv h => ?_⟩
    obtain ⟨vs, β, M, w, h1, h2, h3, h4⟩ := h
    exact mt pins s σ H y xs u us Q I ru rv ⟨_, vs, β, M, w, h1, h2, h3, h4⟩
  cases m with
  | append => cases v with
    | ref n => exact lst rfl hr PySem.F.slot_list_append PySem.F.type_list_append mm_append
    | _ => cases hr
  | extend => cases v with
    | ref n => exact lst rfl hr PySem.F.slot_list_extend PySem.F.type_list_extend mm_extend
    | _ => cases hr
  | pop => cases v with
    | ref n => exact lst rfl hr PySem.F.slot_list_pop PySem.F.type_list_pop mm_pop
    | _ => cases hr
  | reverse => cases v with
    | ref n => exact lst rfl hr PySem.F.slot_list_reverse PySem.F.type_list_reverse mm_reverse
    | _ => cases hr
  | clear => cases v with
    | ref n => exact lst rfl hr PySem.F.slot_list_clear PySem.F.type_list_clear mm_clear
    | _ => cases hr
  | insert => cases v with
    | ref n =>
      refine lst rfl hr PySem.F.slot_list_insert PySem.F.type_list_insert fun pins s σ H x xs v us Q I rx rv h => ?_
      obtain ⟨pv, vs, β, M, w, R, hx, hs, o⟩ := h
      exact absurd o (by cases pv <;> exact fun o => o)
    | _ => cases hr
  | count => cases v with
    | ref n =>
      refine lst rfl hr PySem.F.slot_list_count PySem.F.type_list_count fun pins s σ H x xs v us Q I rx rv h => ?_
      obtain ⟨pv, vs, β, M, w, R, hx, hs, o⟩ := h
      exact absurd o (by cases pv <;> exact fun o => o)
    | _ => cases hr
  | index =>
    cases v with
    | ref n =>
      refine ⟨"list", _, PySem.F.plainAttrs_list, PySem.F.slot_list_index, PySem.F.type_list_index, fun pins s σ u I ru => recv_list I R hr r ru, fun pins s σ H xs u us Q I ru rv h => ?_⟩
      obtain ⟨vs, β, M, w, h1, h2, h3, h4⟩ := h
      exact mm_indexL hu pins s σ H y xs u us Q I ru rv ⟨n, vs, β, M, w, h1, h2, h3, h4⟩
    | tup ps =>
      refine ⟨"tuple", _, PySem.F.plainAttrs_tuple, PySem.F.slot_tuple_index, PySem.F.type_tuple_index, fun pins s σ u I ru => recv_tup I r ru, fun pins s σ H xs u us Q I ru rv h => ?_⟩
      obtain ⟨vs, β, M, w, h1, h2, h3, h4⟩ := h
      obtain ⟨a, zs, e1, ht, _⟩ := rep_tup.mp h2
      exact mm_indexT hu pins s σ H y xs u us Q I ru rv ⟨⟨a, zs, e1, ht⟩, ps, vs, β, M, w, h1, h2, h3, h4⟩
    | _ => cases hr
  | join => cases v with
    | str z =>
      refine ⟨"str", _, PySem.F.plainAttrs_str, PySem.F.slot_str_join, PySem.F.type_str_join, fun pins s σ u I ru => ?_, fun pins s σ H xs u us Q I ru rv h => ?_⟩
      · rw [rep_str.mp r] at ru
        exact tyV_is (T := "str") I ru rfl
      · obtain ⟨vs, β, M, w, h1, h2, h3, h4⟩ := h
        exact h4.elim
    | _ => cases hr
theorem base_of {o : Expr} {name : Str} {env : Env} (h : notCall0 o = true) : attributeBase o name env (eval o env) = eval o env := by
  cases o with
  | Call f args kws p =>
    cases args with
    | nil => cases h
    | cons a as =>
      cases f <;> rfl
  | _ => rfl
theorem all_false (pos : Pos) {env : Env} : ∀ {es : List Expr}, es.all notStar = true → (backTo pos (starEach es env)).all (fun x => !x.1) = true
  | [], _ => rfl
  | e :: es, h => by
    rw [List.all_cons, Bool.and_eq_true] at h
    rw [notStar_of h.1]
    show (!false && (backTo pos (starEach es env)).all (fun x => !x.1)) = true
    rw [all_false pos h.2]
    rfl
theorem s_meth {m : MF} {name : Str} {apos cpos : Pos} {e1 : Expr} (hu : X.A.units + 65 < cLine) (hn : name = m.id) (hc : notCall0 e = true) (hl : (apos.endLine == cpos.line) = true) (hlen : (e1 :: es).length < 20) (hst : (e1 :: es).all notStar = true) (ho : PE X e (tE X.K w ea)) (ha : PA X (e1 :: es) (tAs X.K w eA)) :
    PE X (.Call (.Attribute e name apos) (e1 :: es) [] cpos) (tE X.K w (fun σ M => (ea σ M).bind fun v M1 => if recvOk m v M1 then (eA σ M1).bind fun vs M2 => methM m v vs M2 else .stuck)) := by
  subst hn
  refine ⟨fun pins s σ H Q I h => ?_⟩
  obtain ⟨mσ, β, M, R, Sl, o⟩ := h
  have hfew : ((backTo cpos (starEach (e1 :: es) X.env)).all (fun x => !x.1) && (backToKw cpos (keywordEach [] X.env)).all (fun x => x.1.isSome)
      && decide ((e1 :: es).length + ([] : List Keyword).length + (if ([] : List Keyword).isEmpty then 0 else 1) < 30)) = true := by
    rw [all_false cpos hst, decide_eq_true (by show (e1 :: es).length + 0 + 0 < 30; omega)]
    rfl
  have key : tE X.K w ea σ H fun x H1 => ∃ v β1 M1, Stp X.K β M H β1 M1 H1 ∧ Rep X.K H1 β1 v x ∧ recvOk m v M1 = true ∧ tAs X.K w eA σ H1 fun xs H2 => ∃ vs β2 M2, RelH X.K β2 M2 H2 ∧ Rep X.K H2 β2 v x ∧ Reps X.K H2 β2 vs xs ∧ Out X.K β2 M2 H2 (methM m v vs M2) (kQ X.K Q) (w σ) :=
    one R Sl o fun v x β1 M1 H1 s1 r1 S1 o1 => by
      by_cases hr : recvOk m v M1 = true
      · rw [if_pos hr] at o1
        exact ⟨v, β1, M1, s1, r1, hr, oneA s1.rel S1 o1 fun vs xs β2 M2 H2 s2 r2 S2 o2 => ⟨vs, β2, M2, s2.rel, s2.rep s1.rel r1, r2, o2⟩⟩
      · rw [if_neg hr] at o1; exact o1.elim
  refine wpAny_Call_method_late (base_of hc) hfew hl rfl (thn (ho.run pins s σ H _ I key) fun u s1 ⟨x, H1, I1, ru, v, β1, M1, s1', r1, hr, q⟩ => ?_)
  obtain ⟨T, id, pa, slot, hty, hT, hcall⟩ := meth_at hu s1'.rel hr r1
  obtain ⟨t1, t2⟩ := hT pins s1 σ u I1 ru
  refine ⟨T, id, pa, slot, hty, t1, t2, ?_⟩
  have hA := ha.run cpos pins s1 σ H1 _ I1 q
  have hsa := star_any (env := X.env) cpos hst
  have hs1 : notStar e1 = true := by
    rw [List.all_cons, Bool.and_eq_true] at hst
    exact hst.1
  rw [notStar_of hs1] at hA hsa ⊢
  refine Calls.callWith_builtin hsa (Calls.evalArgs_plain ?_)
  refine thn hA fun us s2 ⟨xs, H2, I2, r2, vs, β2, M2, h1, h2, h3, h4⟩ => ?_
  exact hcall pins s2 σ H2 xs u us Q I2 ru r2 ⟨vs, β2, M2, w σ, h1, h2, h3, h4⟩
theorem s_meth0 {m : MF} {name : Str} {apos cpos : Pos} (hu : X.A.units + 65 < cLine) (hn : name = m.id) (hc : notCall0 e = true) (hl : (apos.endLine == cpos.line) = true) (ho : PE X e (tE X.K w ea)) :
    PE X (.Call (.Attribute e name apos) [] [] cpos) (tE X.K w (fun σ M => (ea σ M).bind fun v M1 => if recvOk m v M1 then (Res.ok [] M1).bind fun vs M2 => methM m v vs M2 else .stuck)) := by
  subst hn
  refine ⟨fun pins s σ H Q I h => ?_⟩
  obtain ⟨mσ, β, M, R, Sl, o⟩ := h
  have key : tE X.K w ea σ H fun x H1 => ∃ v β1 M1, Stp X.K β M H β1 M1 H1 ∧ Rep X.K H1 β1 v x ∧ recvOk m v M1 = true ∧ Out X.K β1 M1 H1 (methM m v [] M1) (kQ X.K Q) (w σ) :=
    one R Sl o fun v x β1 M1 H1 s1 r1 S1 o1 => by
      by_cases hr : recvOk m v M1 = true
      · rw [if_pos hr] at o1
        exact ⟨v, β1, M1, s1, r1, hr, o1⟩
      · rw [if_neg hr] at o1; exact o1.elim
  refine wpAny_Call_method0_late (base_of hc) hl (thn (ho.run pins s σ H _ I key) fun u s1 ⟨x, H1, I1, ru, v, β1, M1, s1', r1, hr, q⟩ => ?_)
  obtain ⟨T, id, pa, slot, hty, hT, hcall⟩ := meth_at hu s1'.rel hr r1
  obtain ⟨t1, t2⟩ := hT pins s1 σ u I1 ru
  exact ⟨T, id, pa, slot, hty, t1, t2, Calls.callWith_builtin rfl (PySem.evalArgs_none (hcall pins s1 σ H1 [] u [] Q I1 ru .nil ⟨[], β1, M1, w σ, s1'.rel, r1, reps_nil.mpr rfl, q⟩))⟩
end
end Mn
end
section
set_option Elab.async false
set_option linter.all false
set_option maxRecDepth 100000
set_option maxHeartbeats 4000000
namespace Mn
open PySem PySem.Spec PyProof.Rows L2

/-! ### targets -/
mutual
def gT (K : PySem.W.Frag) : MG → TG
  | .name i => gName i
  | .tup gs => gTup K gs.len (gTs K gs)
def gTs (K : PySem.W.Frag) : MGs → TGs
  | .nil => gNil
  | .cons g gs => gCons (gT K g) (gTs K gs)
def MGs.len : MGs → Nat
  | .nil => 0
  | .cons _ gs => gs.len + 1
end
section
variable {X : Cx} {k : Nat} {cf : CF} {fn : List (Nat × Str)} {S : SC}
theorem each_len {N : List Str} {env : Env} : ∀ {gs : MGs} {es : List Expr}, chkGs N S gs es = true → (assignEach es env).length = gs.len ∧ (assignEach es env).findIdx? (·.1) = none
  | .nil, es, h => by
    unfold chkGs at h
    cases es with
    | nil => exact ⟨rfl, rfl⟩
    | cons _ _ => cases h
  | .cons g gs, es, h => by
    unfold chkGs at h
    cases es with
    | nil => cases h
    | cons e es =>
      simp only [Bool.and_eq_true] at h
      obtain ⟨h1, h2⟩ := each_len (env := env) h.2
      have e1 : assignEach (e :: es) env = (false, assign e env) :: assignEach es env := by
        cases e <;> first | rfl | exact absurd h.1.2 (by intro z; cases z)
      rw [e1]
      refine ⟨by rw [List.length_cons, h1]; rfl, ?_⟩
      rw [List.findIdx?_cons]
      simp [h2]
mutual
theorem pg_of (G : Gd X k cf fn S) : ∀ {g : MG} {e : Expr}, chkG X.N S g e = true → PG X e (gT X.K g)
  | .name i, e, h => by
    unfold chkG at h
    split at h
    · rename_i x _
      simp only [Bool.and_eq_true, beq_iff_eq] at h
      obtain ⟨l1, l2⟩ := G.loc h.2
      rw [gT]
      exact pg_name G.nd h.1 l1 l2
    · cases h
  | .tup gs, e, h => by
    unfold chkG at h
    split at h
    · obtain ⟨h1, h2⟩ := each_len (env := X.env) h
      rw [gT]
      exact pg_tup G.calm (pgs_of G h) h1 h2
    · cases h
theorem pgs_of (G : Gd X k cf fn S) : ∀ {gs : MGs} {es : List Expr}, chkGs X.N S gs es = true → PGs X es (gTs X.K gs)
  | .nil, es, h => by
    unfold chkGs at h
    cases es with
    | nil => rw [gTs]; exact pgs_nil
    | cons _ _ => cases h
  | .cons g gs, es, h => by
    unfold chkGs at h
    cases es with
    | nil => cases h
    | cons e es =>
      simp only [Bool.and_eq_true] at h
      rw [gTs]
      refine pgs_cons (pg_of G h.1.1) (pgs_of G h.2) ?_
      have h2 := h.1.2
      cases e <;> first | rfl | cases h2
end
end
theorem wipe_set {σ : L2.St} {i : Nat} {x : Option V} : ∀ {vs : List Nat}, i ∈ vs → L2.wipe (σ.set i x) vs = L2.wipe σ vs
  | [], h => by cases h
  | v :: vs, h => by
    unfold L2.wipe
    by_cases hv : v = i
    · subst hv
      by_cases hm : v ∈ vs
      · rw [wipe_set hm]
      · -- the slot v is forgotten at last anyway
        have key : ∀ (ws : List Nat), v ∉ ws → L2.wipe (σ.set v x) ws = (L2.wipe σ ws).set v x := by
          intro ws
          induction ws with
          | nil => intro _; rfl
          | cons u ws ih =>
            intro hn
            have h1 : u ≠ v := fun e => hn (e ▸ List.mem_cons_self)
            have h2 : v ∉ ws := fun e => hn (List.mem_cons_of_mem _ e)
            unfold L2.wipe
            rw [ih h2, List.set_comm _ _ (fun e => h1 e.symm)]
        rw [key vs hm, List.set_set]
    · have hm : i ∈ vs := by
        rcases List.mem_cons.mp h with e | e
        · exact absurd e.symm hv
        · exact e
      rw [wipe_set hm]
/-- what may be handed to a target: its parts are at hand (a pair of enumerate or zip: as it is) -/
def RepG (K : PySem.W.Frag) (H : Hp) (β : List Addr) (g : MG) (v : PV) (x : V) : Prop :=
  match g with
  | .name _ => Rep K H β v x
  | .tup _ => ∃ ps a xs, v = .tup ps ∧ x = .ref a ∧ SqT K H a xs ∧ Reps K H β ps xs
section
variable {K : PySem.W.Frag} {H : Hp} {β : List Addr}
theorem Rep.g {g : MG} {v : PV} {x : V} (h : Rep K H β v x) (hg : ∀ gs, g = .tup gs → ∃ ps, v = .tup ps) : RepG K H β g v x := by
  cases g with
  | name i => exact h
  | tup gs =>
    obtain ⟨ps, rfl⟩ := hg gs rfl
    obtain ⟨a, xs, e, t, r⟩ := rep_tup.mp h
    exact ⟨ps, a, xs, rfl, e, t.sq, r⟩
theorem assign_tup {g : MG} {v : PV} {mσ mσ' : Mn.St} (h : assignG g v mσ = some mσ') : ∀ gs, g = .tup gs → ∃ ps, v = .tup ps := fun gs e => by
  subst e
  unfold assignG at h
  cases v with
  | tup ps => exact ⟨ps, rfl⟩
  | _ => cases h
theorem assigns_len : ∀ {gs : MGs} {ps : List PV} {mσ mσ' : Mn.St}, assignGs gs ps mσ = some mσ' → ps.length = gs.len
  | .nil, ps, mσ, mσ', h => by
    unfold assignGs at h
    cases ps with
    | nil => rfl
    | cons _ _ => cases h
  | .cons g gs, ps, mσ, mσ', h => by
    unfold assignGs at h
    cases ps with
    | nil => cases h
    | cons p ps =>
      simp only at h
      obtain ⟨mσ1, e1, e2⟩ := Option.bind_eq_some_iff.mp h
      rw [List.length_cons, assigns_len e2]; rfl
mutual
theorem assign_ok : ∀ {g : MG} {v : PV} {x : V} {mσ mσ' : Mn.St} {σ : L2.St} {Q : L2.St → Hp → Prop}, assignG g v mσ = some mσ' → RepG K H β g v x → RelS K H β mσ σ →
    (∀ σ', RelS K H β mσ' σ' → (∀ vs : List Nat, (∀ i ∈ g.slots, i ∈ vs) → L2.wipe σ' vs = L2.wipe σ vs) → Q σ' H) → gT K g x σ H Q
  | .name i, v, x, mσ, mσ', σ, Q, h, r, S, q => by
    unfold assignG at h
    cases h
    rw [gT]
    exact q _ (S.set r) fun vs hv => wipe_set (hv i (by unfold MG.slots; simp))
  | .tup gs, v, x, mσ, mσ', σ, Q, h, r, S, q => by
    obtain ⟨ps, a, xs, rfl, rfl, hq, rs⟩ := r
    unfold assignG at h
    rw [gT]
    obtain ⟨hl, hg⟩ := assigns_ok h rs S q
    exact ⟨a, xs, rfl, hq, hl, hg⟩
theorem assigns_ok : ∀ {gs : MGs} {ps : List PV} {xs : List V} {mσ mσ' : Mn.St} {σ : L2.St} {Q : L2.St → Hp → Prop}, assignGs gs ps mσ = some mσ' → Reps K H β ps xs → RelS K H β mσ σ →
    (∀ σ', RelS K H β mσ' σ' → (∀ vs : List Nat, (∀ i ∈ gs.slots, i ∈ vs) → L2.wipe σ' vs = L2.wipe σ vs) → Q σ' H) → xs.length = gs.len ∧ gTs K gs xs σ H Q
  | .nil, ps, xs, mσ, mσ', σ, Q, h, r, S, q => by
    unfold assignGs at h
    cases ps with
    | nil =>
      cases h
      have e := reps_nil.mp r
      subst e
      rw [gTs]
      exact ⟨rfl, rfl, q σ S fun _ _ => rfl⟩
    | cons _ _ => cases h
  | .cons g gs, ps, xs, mσ, mσ', σ, Q, h, r, S, q => by
    unfold assignGs at h
    cases ps with
    | nil => cases h
    | cons p ps =>
      obtain ⟨y, t, rfl, r1, r2⟩ := reps_cons.mp r
      simp only at h
      obtain ⟨mσ1, e1, e2⟩ := Option.bind_eq_some_iff.mp h
      have hlen : t.length = gs.len := r2.length.symm.trans (assigns_len e2)
      rw [gTs]
      refine ⟨by rw [List.length_cons, hlen]; rfl, y, t, rfl, ?_⟩
      refine assign_ok e1 (r1.g (assign_tup e1)) S fun σ1 S1 w1 => ?_
      refine (assigns_ok e2 r2 S1 fun σ2 S2 w2 => q σ2 S2 fun vs hv => ?_).2
      rw [w2 vs fun i hi => hv i (by unfold MGs.slots; exact List.mem_append_right _ hi), w1 vs fun i hi => hv i (by unfold MGs.slots; exact List.mem_append_left _ hi)]
end
end
end Mn
end
section
set_option Elab.async false
set_option linter.all false
set_option maxRecDepth 100000
set_option maxHeartbeats 4000000
namespace Mn
open PySem PySem.Spec PyProof.Rows L2

/-! ### what is walked -/
def inB (s : Src) (i : Nat) : Prop := match s with | .items xs => i ≤ xs.length | _ => True
/-- what was at hand is so still -/
structure Per (K : PySem.W.Frag) (β1 : List Addr) (H1 : Hp) (β : List Addr) (M : Mem) (H : Hp) : Prop where
  rel : RelH K β M H
  pre : ∀ n a : Nat, β1[n]? = some a → β[n]? = some a
  tup : ∀ {a : Addr} {xs : List V}, Tup K H1 a xs → Tup K H a xs
theorem Per.reps {K : PySem.W.Frag} {β1 β : List Addr} {M : Mem} {H1 H : Hp} (p : Per K β1 H1 β M H) {ps : List PV} {xs : List V} (h : Reps K H1 β1 ps xs) : Reps K H β ps xs := h.mono (fun _ _ => p.tup) p.pre
theorem Stp.per {K : PySem.W.Frag} {β1 β : List Addr} {M1 M : Mem} {H1 H : Hp} (s : Stp K β1 M1 H1 β M H) (R : RelH K β1 M1 H1) : Per K β1 H1 β M H := ⟨s.rel, s.pre, fun h => s.tup R h⟩
structure SrcOk (K : PySem.W.Frag) (β1 : List Addr) (M1 : Mem) (H1 : Hp) (g : MG) (J : It) (s : Src) : Prop where
  stop : ∀ i β M H, Per K β1 H1 β M H → inB s i → srcAt s i M = some none → J.stop i H
  go : ∀ i β M H v, Per K β1 H1 β M H → srcAt s i M = some (some v) → J.go i H ∧ ∀ x H', J.yld i H x H' → Stp K β M H β M H' ∧ ∀ mσ mσ', assignG g v mσ = some mσ' → RepG K H' β g v x
def tI (K : PySem.W.Frag) (w : WS) (ev : Mn.St → Mem → Res Src) (g : MG) : TI := fun σ H R => ∃ mσ β M, RelH K β M H ∧ RelS K H β mσ σ ∧ Out K β M H (ev mσ M) (fun s β' M' H' => ∀ J, SrcOk K β' M' H' g J s → R J H') (w σ)
theorem PI.imp {X : Cx} {tg e : Expr} {t t' : TI} (h : PI X tg e t') (i : ∀ σ H R, t σ H R → t' σ H R) : PI X tg e t := ⟨fun pins s σ H R I q => h.run pins s σ H R I (i σ H R q)⟩
section
variable {K : PySem.W.Frag} {β : List Addr} {M : Mem} {H : Hp} {g : MG}
theorem src_items {xs : List PV} (i : Nat) (M : Mem) : srcAt (.items xs) i M = some xs[i]? := rfl
theorem srcOk_tup (R : RelH K β M H) {ps : List PV} {a : Addr} {xs : List V} (ht : Tup K H a xs) (rs : Reps K H β ps xs) : SrcOk K β M H g (Itt K a) (.items ps) where
  stop := fun i β' M' H' s hb e => by
    have e : ps[i]? = none := Option.some.inj e
    refine ⟨xs, (s.tup ht).sq, ?_⟩
    rw [← rs.length]
    exact List.getElem?_eq_none_iff.mp e
  go := fun i β' M' H' v s e => by
    have e : ps[i]? = some v := Option.some.inj e
    obtain ⟨x, ex, rx⟩ := (s.reps rs).get e
    refine ⟨⟨xs, x, (s.tup ht).sq, ex⟩, fun y H2 hy => ?_⟩
    obtain ⟨rfl, hy⟩ := hy
    have : y = x := by
      have := hy xs (s.tup ht).sq
      rw [ex] at this
      exact (Option.some.inj this).symm
    subst this
    exact ⟨.refl s.rel, fun mσ mσ' ha => rx.g (assign_tup ha)⟩
theorem srcOk_list (R : RelH K β M H) {n : Nat} {a : Addr} (hb : β[n]? = some a) : SrcOk K β M H g (Itl K a) (.at1 n false) where
  stop := fun i β' M' H' s _ e => by
    simp only [srcAt, Option.map_eq_some_iff] at e
    obtain ⟨ps, e1, e2⟩ := e
    obtain ⟨a', ys, b1, b2, b3⟩ := s.rel.list e1
    rw [s.pre n a hb] at b1; cases b1
    refine ⟨ys, b2, ?_⟩
    rw [← b3.length]
    rw [Option.map_eq_none_iff] at e2
    exact List.getElem?_eq_none_iff.mp e2
  go := fun i β' M' H' v s e => by
    simp only [srcAt, Option.map_eq_some_iff] at e
    obtain ⟨ps, e1, e2⟩ := e
    obtain ⟨a', ys, b1, b2, b3⟩ := s.rel.list e1
    rw [s.pre n a hb] at b1; cases b1
    obtain ⟨p, e2, e3⟩ := e2
    simp only [Bool.false_eq_true, if_false] at e3
    subst e3
    obtain ⟨x, ex, rx⟩ := b3.get e2
    refine ⟨⟨ys, x, b2, ex⟩, fun y H2 hy => ?_⟩
    obtain ⟨rfl, hy⟩ := hy
    have : y = x := by
      have := hy ys b2
      rw [ex] at this
      exact (Option.some.inj this).symm
    subst this
    exact ⟨.refl s.rel, fun mσ mσ' ha => rx.g (assign_tup ha)⟩
theorem rangeL_get (lo hi : Int) (i : Nat) : (rangeL lo hi)[i]? = if i < (hi - lo).toNat then some (.int (lo + (i : Nat))) else none := by
  unfold rangeL
  rw [List.getElem?_map]
  by_cases h : i < (hi - lo).toNat
  · simp [h]
  · simp [h]
theorem srcOk_range (R : RelH K β M H) (lo hi : Int) : SrcOk K β M H g (Itr lo (hi - lo).toNat) (.items (rangeL lo hi)) where
  stop := fun i β' M' H' s _ e => by
    have e : (rangeL lo hi)[i]? = none := Option.some.inj e
    rw [rangeL_get] at e
    split at e
    · cases e
    · show (hi - lo).toNat ≤ i; omega
  go := fun i β' M' H' v s e => by
    have e : (rangeL lo hi)[i]? = some v := Option.some.inj e
    rw [rangeL_get] at e
    split at e
    · rename_i hi'
      cases e
      refine ⟨hi', fun y H2 hy => ?_⟩
      obtain ⟨rfl, rfl⟩ := hy
      exact ⟨.refl s.rel, fun mσ mσ' ha => Rep.g (rep_int.mpr rfl) (assign_tup ha)⟩
    · cases e
theorem srcOk_str (R : RelH K β M H) (z : Str) : SrcOk K β M H g (Its z) (.items (z.cps.toList.map fun c => .str ⟨#[c]⟩)) where
  stop := fun i β' M' H' s _ e => by
    have e : (z.cps.toList.map fun c => PV.str ⟨#[c]⟩)[i]? = none := Option.some.inj e
    have := List.getElem?_eq_none_iff.mp e
    rw [List.length_map, Array.length_toList] at this
    exact this
  go := fun i β' M' H' v s e => by
    have e : (z.cps.toList.map fun c => PV.str ⟨#[c]⟩)[i]? = some v := Option.some.inj e
    rw [List.getElem?_map, Option.map_eq_some_iff] at e
    obtain ⟨c, e1, rfl⟩ := e
    rw [Array.getElem?_toList] at e1
    refine ⟨(Array.getElem?_eq_some_iff.mp e1).1, fun y H2 hy => ?_⟩
    obtain ⟨rfl, c', hc, rfl⟩ := hy
    rw [e1] at hc; cases hc
    exact ⟨.refl s.rel, fun mσ mσ' ha => Rep.g (rep_str.mpr rfl) (assign_tup ha)⟩
/-- a new pair -/
theorem pair_g (R : RelH K β M H) {T : Addr} {p q : PV} {x y : V} (hT : H T = none) (rp : Rep K H β p x) (rq : Rep K H β q y) (hg : ∃ gs, g = .tup gs) :
    Stp K β M H β M (upd H T (.tup [x, y])) ∧ ∀ mσ mσ', assignG g (.tup [p, q]) mσ = some mσ' → RepG K (upd H T (.tup [x, y])) β g (.tup [p, q]) (.ref T) := by
  have s := stp_new (o := HO.tup [x, y]) R hT
  refine ⟨s, fun _ _ _ => ?_⟩
  obtain ⟨gs, rfl⟩ := hg
  exact ⟨[p, q], T, [x, y], rfl, rfl, .inl (.inl upd_same), reps_cons.mpr ⟨x, [y], rfl, s.rep R rp, .one (s.rep R rq)⟩⟩
theorem enumL_get : ∀ (xs : List PV) (k i : Nat), (enumL k xs)[i]? = xs[i]?.map fun x => PV.tup [.int ((k + i : Nat) : Int), x]
  | [], k, i => by unfold enumL; simp
  | x :: xs, k, 0 => by unfold enumL; simp
  | x :: xs, k, i + 1 => by
    unfold enumL
    rw [List.getElem?_cons_succ, List.getElem?_cons_succ, enumL_get xs (k + 1) i, show k + 1 + i = k + (i + 1) by omega]
theorem enumL_len (k : Nat) (xs : List PV) : (enumL k xs).length = xs.length := by
  induction xs generalizing k with
  | nil => rfl
  | cons x xs ih => unfold enumL; rw [List.length_cons, List.length_cons, ih]
theorem srcOk_enumT (R : RelH K β M H) {ps : List PV} {a : Addr} {xs : List V} (hg : ∃ gs, g = .tup gs) (ht : Tup K H a xs) (rs : Reps K H β ps xs) : SrcOk K β M H g (IteT K a) (.items (enumL 0 ps)) where
  stop := fun i β' M' H' s hb e => by
    have e : (enumL 0 ps)[i]? = none := Option.some.inj e
    have hb : i ≤ (enumL 0 ps).length := hb
    refine ⟨xs, (s.tup ht).sq, ?_⟩
    have := List.getElem?_eq_none_iff.mp e
    rw [enumL_len] at this hb
    rw [← rs.length]
    omega
  go := fun i β' M' H' v s e => by
    have e : (enumL 0 ps)[i]? = some v := Option.some.inj e
    rw [enumL_get, Option.map_eq_some_iff] at e
    obtain ⟨p, e1, rfl⟩ := e
    obtain ⟨x, ex, rx⟩ := (s.reps rs).get e1
    refine ⟨⟨xs, x, (s.tup ht).sq, ex⟩, fun y H2 hy => ?_⟩
    obtain ⟨T, z, rfl, hT, rfl, hz⟩ := hy
    have : z = x := by
      have := hz xs (s.tup ht).sq
      rw [ex] at this
      exact (Option.some.inj this).symm
    subst this
    rw [Nat.zero_add]
    exact pair_g s.rel hT (rep_int.mpr rfl) rx hg
theorem srcOk_enumL (R : RelH K β M H) {n : Nat} {a : Addr} (hg : ∃ gs, g = .tup gs) (hb : β[n]? = some a) : SrcOk K β M H g (Ite K a) (.at1 n true) where
  stop := fun i β' M' H' s _ e => by
    simp only [srcAt, Option.map_eq_some_iff] at e
    obtain ⟨ps, e1, e2⟩ := e
    obtain ⟨a', ys, b1, b2, b3⟩ := s.rel.list e1
    rw [s.pre n a hb] at b1; cases b1
    refine ⟨ys, b2, ?_⟩
    rw [← b3.length]
    rw [Option.map_eq_none_iff] at e2
    exact List.getElem?_eq_none_iff.mp e2
  go := fun i β' M' H' v s e => by
    simp only [srcAt, Option.map_eq_some_iff] at e
    obtain ⟨ps, e1, e2⟩ := e
    obtain ⟨a', ys, b1, b2, b3⟩ := s.rel.list e1
    rw [s.pre n a hb] at b1; cases b1
    obtain ⟨p, e2, e3⟩ := e2
    simp only [if_true] at e3
    subst e3
    obtain ⟨x, ex, rx⟩ := b3.get e2
    refine ⟨⟨ys, x, b2, ex⟩, fun y H2 hy => ?_⟩
    obtain ⟨T, z, rfl, hT, rfl, hz⟩ := hy
    have : z = x := by
      have := hz ys b2
      rw [ex] at this
      exact (Option.some.inj this).symm
    subst this
    exact pair_g s.rel hT (rep_int.mpr rfl) rx hg
theorem zipL_get : ∀ (xs ys : List PV) (i : Nat), (zipL xs ys)[i]? = xs[i]?.bind fun x => ys[i]?.map fun y => PV.tup [x, y]
  | [], ys, i => by unfold zipL; simp
  | x :: xs, [], i => by unfold zipL; simp
  | x :: xs, y :: ys, 0 => by unfold zipL; simp
  | x :: xs, y :: ys, i + 1 => by
    unfold zipL
    rw [List.getElem?_cons_succ, List.getElem?_cons_succ, List.getElem?_cons_succ, zipL_get xs ys i]
theorem pair_none {xs ys : List PV} {i : Nat} (e : (xs[i]?.bind fun x => ys[i]?.map fun y => PV.tup [x, y]) = none) : xs.length ≤ i ∨ ys.length ≤ i := by
  cases h1 : xs[i]? with
  | none => exact .inl (List.getElem?_eq_none_iff.mp h1)
  | some x =>
    rw [h1] at e
    cases h2 : ys[i]? with
    | none => exact .inr (List.getElem?_eq_none_iff.mp h2)
    | some y => rw [h2] at e; cases e
theorem pair_some {xs ys : List PV} {i : Nat} {v : PV} (e : (xs[i]?.bind fun x => ys[i]?.map fun y => PV.tup [x, y]) = some v) : ∃ x y, xs[i]? = some x ∧ ys[i]? = some y ∧ v = .tup [x, y] := by
  obtain ⟨x, e1, e2⟩ := Option.bind_eq_some_iff.mp e
  obtain ⟨y, e3, e4⟩ := Option.map_eq_some_iff.mp e2
  exact ⟨x, y, e1, e3, e4.symm⟩
theorem srcOk_zipT (R : RelH K β M H) {ps qs : List PV} {a b : Addr} {xs ys : List V} (hg : ∃ gs, g = .tup gs) (ht : Tup K H a xs) (rs : Reps K H β ps xs) (ht2 : Tup K H b ys) (rs2 : Reps K H β qs ys) : SrcOk K β M H g (RZ.ItzT K a b) (.items (zipL ps qs)) where
  stop := fun i β' M' H' s _ e => by
    have e : (zipL ps qs)[i]? = none := Option.some.inj e
    rw [zipL_get] at e
    refine ⟨xs, ys, (s.tup ht).sq, (s.tup ht2).sq, ?_⟩
    rw [← rs.length, ← rs2.length]
    exact pair_none e
  go := fun i β' M' H' v s e => by
    have e : (zipL ps qs)[i]? = some v := Option.some.inj e
    rw [zipL_get] at e
    obtain ⟨p, q, e1, e2, rfl⟩ := pair_some e
    obtain ⟨x, ex, rx⟩ := (s.reps rs).get e1
    obtain ⟨y, ey, ry⟩ := (s.reps rs2).get e2
    refine ⟨⟨xs, ys, x, y, (s.tup ht).sq, (s.tup ht2).sq, ex, ey⟩, fun z H2 hz => ?_⟩
    obtain ⟨T, x', y', rfl, hT, rfl, h1, h2⟩ := hz
    have e3 : x' = x := by
      have := h1 xs (s.tup ht).sq
      rw [ex] at this
      exact (Option.some.inj this).symm
    have e4 : y' = y := by
      have := h2 ys (s.tup ht2).sq
      rw [ey] at this
      exact (Option.some.inj this).symm
    subst e3 e4
    exact pair_g s.rel hT rx ry hg
theorem srcOk_zipL (R : RelH K β M H) {n m : Nat} {a b : Addr} (hg : ∃ gs, g = .tup gs) (hb : β[n]? = some a) (hb2 : β[m]? = some b) : SrcOk K β M H g (Itz K a b) (.at2 n m) where
  stop := fun i β' M' H' s _ e => by
    simp only [srcAt, Option.bind_eq_some_iff, Option.map_eq_some_iff] at e
    obtain ⟨ps, e1, qs, e2, e3⟩ := e
    obtain ⟨a', ys, b1, b2, b3⟩ := s.rel.list e1
    rw [s.pre n a hb] at b1; cases b1
    obtain ⟨a', zs, c1, c2, c3⟩ := s.rel.list e2
    rw [s.pre m b hb2] at c1; cases c1
    refine ⟨ys, zs, b2, c2, ?_⟩
    rw [← b3.length, ← c3.length]
    exact pair_none e3
  go := fun i β' M' H' v s e => by
    simp only [srcAt, Option.bind_eq_some_iff, Option.map_eq_some_iff] at e
    obtain ⟨ps, e1, qs, e2, e3⟩ := e
    obtain ⟨a', ys, b1, b2, b3⟩ := s.rel.list e1
    rw [s.pre n a hb] at b1; cases b1
    obtain ⟨a', zs, c1, c2, c3⟩ := s.rel.list e2
    rw [s.pre m b hb2] at c1; cases c1
    have e3 : (ps[i]?.bind fun x => qs[i]?.map fun y => PV.tup [x, y]) = some v := by
      rw [Option.bind_eq_some_iff]
      obtain ⟨p, e4, q, e5, e6⟩ := e3
      exact ⟨p, e4, by rw [e5, ← e6]; rfl⟩
    obtain ⟨p, q, e1, e2, rfl⟩ := pair_some e3
    obtain ⟨x, ex, rx⟩ := b3.get e1
    obtain ⟨y, ey, ry⟩ := c3.get e2
    refine ⟨⟨ys, zs, x, y, b2, c2, ex, ey⟩, fun z H2 hz => ?_⟩
    obtain ⟨T, x', y', rfl, hT, rfl, h1, h2⟩ := hz
    have e3 : x' = x := by
      have := h1 ys b2
      rw [ex] at this
      exact (Option.some.inj this).symm
    have e4 : y' = y := by
      have := h2 zs c2
      rw [ey] at this
      exact (Option.some.inj this).symm
    subst e3 e4
    exact pair_g s.rel hT rx ry hg
end
end Mn
end
section
set_option Elab.async false
set_option linter.all false
set_option maxRecDepth 100000
set_option maxHeartbeats 4000000
namespace Mn
open PySem PySem.Spec PyProof.Rows L2

section
variable {X : Cx} {k : Nat} {cf : CF} {fn : List (Nat × Str)} {S : SC} {e e2 tg : Expr} {es : List Expr} {pos p : Pos} {x : Str} {ea eb : Mn.Ev} {w : WS} {g : MG}

theorem i_seq (ha : PE X e (tE X.K w ea)) : PI X tg e (tI X.K w (fun σ M => (ea σ M).bind fun v M1 => optR (srcSeq v M1) M1) g) := by
  refine ⟨fun pins s σ H R I h => ?_⟩
  obtain ⟨mσ, β, M, Rh, Sl, o⟩ := h
  have key : tE X.K w ea σ H fun y H1 => (∃ a xs, y = .ref a ∧ SqL X.K H1 a xs ∧ R (Itl X.K a) H1) ∨ (∃ a xs, y = .ref a ∧ SqT X.K H1 a xs ∧ R (Itt X.K a) H1) ∨ ∃ z, y = .str z ∧ R (Its z) H1 :=
    one Rh Sl o fun v y β1 M1 H1 s1 r1 S1 o1 => by
      cases v with
      | tup ps =>
        obtain ⟨a, xs, rfl, ht, rs⟩ := rep_tup.mp r1
        exact .inr (.inl ⟨a, xs, rfl, ht.sq, o1.ok s1.rel _ (srcOk_tup s1.rel ht rs)⟩)
      | ref n =>
        simp only [srcSeq] at o1
        cases hl : M1.lst? n with
        | none => rw [hl] at o1; exact o1.elim
        | some ps =>
          rw [hl] at o1
          obtain ⟨a, ys, b1, b2, b3⟩ := s1.rel.list hl
          rw [r1.ref_of b1]
          exact .inl ⟨a, ys, rfl, b2, o1.ok s1.rel _ (srcOk_list s1.rel b1)⟩
      | str z =>
        simp only [srcSeq] at o1
        rw [rep_str.mp r1]
        by_cases hz : z.length ≤ LIM
        · rw [if_pos hz] at o1
          exact .inr (.inr ⟨z, rfl, o1.ok s1.rel _ (srcOk_str s1.rel z)⟩)
        · rw [if_neg hz] at o1; exact o1.elim
      | _ => exact o1.elim
  refine thn (ha.run pins s σ H _ I key) fun v s1 ⟨y, H1, I1, r1, q1⟩ => ?_
  rcases q1 with ⟨a, xs, rfl, hq, q⟩ | ⟨a, xs, rfl, hq, q⟩ | ⟨z, rfl, q⟩
  · cases r1
    obtain ⟨its, rv, pl, hz⟩ := I1.list hq
    exact wpAny_pyIter_list pl.isList (pi_one (tk := s1.toks) I1 _ (turn_list a _) ⟨_, Heap.get?_push_size _ rfl, rfl, rfl⟩ q)
  · cases r1
    obtain ⟨its, rv, pl, hz⟩ := I1.tuple hq
    exact wpAny_pyIter_tuple (show s1.heap.IsTuple a its.toArray from pl) (pi_one (tk := s1.toks) I1 _ (turn_tuple a _) ⟨_, Heap.get?_push_size _ rfl, rfl, rfl⟩ q)
  · obtain ⟨t, rfl⟩ := r1
    cases ha : z.cps.all (· < 128)
    · exact wpAny_pyIter_wide ha (pi_one (tk := s1.toks) I1 _ (turn_str _ z t "str_iterator" (.inr rfl)) ⟨_, Heap.get?_push_size _ rfl, rfl, rfl⟩ q)
    · exact wpAny_pyIter_ascii ha (pi_one (tk := s1.toks) I1 _ (turn_str _ z t "str_ascii_iterator" (.inl rfl)) ⟨_, Heap.get?_push_size _ rfl, rfl, rfl⟩ q)
theorem i_range1 (G : Gd X k cf fn S) (hx : x = "range") (hg : glB S.sc x = true) (hs : notStar e = true) (ha : PE X e (tE X.K w ea)) :
    PI X tg (.Call (.Name x p) [e] [] pos) (tI X.K w (fun σ M => (ea σ M).bind fun v M1 => (intR v M1).bind fun j M2 => if inRange j then .ok (.items (rangeL 0 j)) M2 else .stuck) g) := by
  subst hx
  refine PI.imp (pi_range1 (G.gl hg) (G.blt _ (by decide +kernel)) (pa_cons ha pa_nil (notStar_of hs)) (notStar_of hs)) fun σ H R h => ?_
  obtain ⟨mσ, β, M, Rh, Sl, o⟩ := h
  refine one Rh Sl o fun v y β1 M1 H1 s1 r1 S1 o1 => ?_
  cases v with
  | int j =>
    have o1 : Out X.K β1 M1 H1 (if inRange j then .ok (Src.items (rangeL 0 j)) M1 else .stuck) _ (w σ) := o1
    by_cases hj : inRange j = true
    · rw [if_pos hj] at o1
      obtain ⟨b1, b2⟩ := inRange_of hj
      rw [rep_int.mp r1]
      have := o1.ok s1.rel _ (srcOk_range s1.rel 0 j)
      rw [Int.sub_zero] at this
      exact ⟨j, rfl, b1, b2, this⟩
    · rw [if_neg hj] at o1; exact o1.elim
  | _ => exact o1.elim
theorem i_range2 (G : Gd X k cf fn S) (hx : x = "range") (hg : glB S.sc x = true) (hs : notStar e = true) (hs2 : notStar e2 = true) (ha : PE X e (tE X.K w ea)) (hb : PE X e2 (tE X.K w eb)) :
    PI X tg (.Call (.Name x p) [e, e2] [] pos) (tI X.K w (fun σ M => (ea σ M).bind fun v M1 => (eb σ M1).bind fun u M2 => (intR v M2).bind fun i M3 => (intR u M3).bind fun j M4 =>
      if inRange i && inRange j then .ok (.items (rangeL i j)) M4 else .stuck) g) := by
  subst hx
  refine PI.imp (pi_range2 (G.gl hg) (G.blt _ (by decide +kernel)) (pa_cons ha (pa_cons hb pa_nil (notStar_of hs2)) (notStar_of hs)) (by rw [notStar_of hs, notStar_of hs2]; rfl) (by rw [notStar_of hs2]; rfl)) fun σ H R h => ?_
  obtain ⟨mσ, β, M, Rh, Sl, o⟩ := h
  refine one Rh Sl o fun v y β1 M1 H1 s1 r1 S1 o1 => ?_
  refine one s1.rel S1 o1 fun u z β2 M2 H2 s2 r2 S2 o2 => ?_
  cases v with
  | int i =>
    cases u with
    | int j =>
      have o2 : Out X.K β2 M2 H2 (if inRange i && inRange j then .ok (Src.items (rangeL i j)) M2 else .stuck) _ (w σ) := o2
      by_cases hj : (inRange i && inRange j) = true
      · rw [if_pos hj] at o2
        rw [Bool.and_eq_true] at hj
        obtain ⟨b1, b2⟩ := inRange_of hj.1
        obtain ⟨b3, b4⟩ := inRange_of hj.2
        rw [rep_int.mp r1, rep_int.mp r2]
        exact ⟨i, j, rfl, ⟨b1, b2, b3, b4⟩, o2.ok s2.rel _ (srcOk_range s2.rel i j)⟩
      · rw [if_neg hj] at o2; exact o2.elim
    | _ => exact o2.elim
  | _ => exact o2.elim
theorem isTup_of {N : List Str} {gg : MG} {e : Expr} (h : chkG N S gg e = true) (ht : isTup e = true) : (∃ gs, gg = .tup gs) ∧ ∃ xs kk pp, e = .Tuple xs kk pp := by
  cases e with
  | Tuple xs kk pp =>
    refine ⟨?_, xs, kk, pp, rfl⟩
    cases gg with
    | name i => unfold chkG at h; cases h
    | tup gs => exact ⟨gs, rfl⟩
  | _ => cases ht
theorem i_enum (G : Gd X k cf fn S) (hx : x = "enumerate") (hg : glB S.sc x = true) (hs : notStar e = true) (hgt : ∃ gs, g = .tup gs) (ht : ∃ xs kk pp, tg = .Tuple xs kk pp) (ha : PE X e (tE X.K w ea)) :
    PI X tg (.Call (.Name x p) [e] [] pos) (tI X.K w (fun σ M => (ea σ M).bind fun v M1 => optR (srcEnum v M1) M1) g) := by
  subst hx
  obtain ⟨xs, kk, pp, rfl⟩ := ht
  refine PI.imp (pi_enumA (G.gl hg) (G.blt _ (by decide +kernel)) (pa_cons ha pa_nil (notStar_of hs)) (notStar_of hs)) fun σ H R h => ?_
  obtain ⟨mσ, β, M, Rh, Sl, o⟩ := h
  refine one Rh Sl o fun v y β1 M1 H1 s1 r1 S1 o1 => ?_
  cases v with
  | tup ps =>
    obtain ⟨a, xs, rfl, ht, rs⟩ := rep_tup.mp r1
    exact ⟨a, xs, rfl, .inr ⟨ht.sq, o1.ok s1.rel _ (srcOk_enumT s1.rel hgt ht rs)⟩⟩
  | ref n =>
    simp only [srcEnum] at o1
    cases hl : M1.lst? n with
    | none => rw [hl] at o1; exact o1.elim
    | some ps =>
      rw [hl] at o1
      obtain ⟨a, ys, b1, b2, b3⟩ := s1.rel.list hl
      rw [r1.ref_of b1]
      exact ⟨a, ys, rfl, .inl ⟨b2, o1.ok s1.rel _ (srcOk_enumL s1.rel hgt b1)⟩⟩
  | _ => exact o1.elim
theorem i_zip (G : Gd X k cf fn S) (hx : x = "zip") (hg : glB S.sc x = true) (hs : notStar e = true) (hs2 : notStar e2 = true) (hgt : ∃ gs, g = .tup gs) (ht : ∃ xs kk pp, tg = .Tuple xs kk pp) (ha : PE X e (tE X.K w ea)) (hb : PE X e2 (tE X.K w eb)) :
    PI X tg (.Call (.Name x p) [e, e2] [] pos) (tI X.K w (fun σ M => (ea σ M).bind fun v M1 => (eb σ M1).bind fun u M2 => optR (srcZip v u M2) M2) g) := by
  subst hx
  obtain ⟨xs, kk, pp, rfl⟩ := ht
  refine PI.imp (RZ.pi_zipA (G.gl hg) (G.blt _ (by decide +kernel)) (pa_cons ha (pa_cons hb pa_nil (notStar_of hs2)) (notStar_of hs)) (notStar_of hs) (star_any pos (by rw [List.all_cons, hs2]; rfl))) fun σ H R h => ?_
  obtain ⟨mσ, β, M, Rh, Sl, o⟩ := h
  refine one Rh Sl o fun v y β1 M1 H1 s1 r1 S1 o1 => ?_
  refine one s1.rel S1 o1 fun u z β2 M2 H2 s2 r2 S2 o2 => ?_
  have r1 := s2.rep s1.rel r1
  cases v with
  | tup ps =>
    cases u with
    | tup qs =>
      obtain ⟨a, xs, rfl, ht, rs⟩ := rep_tup.mp r1
      obtain ⟨b, ys, rfl, ht2, rs2⟩ := rep_tup.mp r2
      exact ⟨a, b, xs, ys, rfl, .inr ⟨ht.sq, ht2.sq, o2.ok s2.rel _ (srcOk_zipT s2.rel hgt ht rs ht2 rs2)⟩⟩
    | _ => exact o2.elim
  | ref n =>
    cases u with
    | ref m =>
      simp only [srcZip] at o2
      cases hl : M2.lst? n with
      | none => rw [hl] at o2; exact o2.elim
      | some ps =>
        rw [hl] at o2
        cases hl2 : M2.lst? m with
        | none => rw [hl2] at o2; exact o2.elim
        | some qs =>
          rw [hl2] at o2
          obtain ⟨a, ys, b1, b2, b3⟩ := s2.rel.list hl
          obtain ⟨b, zs, c1, c2, c3⟩ := s2.rel.list hl2
          rw [r1.ref_of b1, r2.ref_of c1]
          exact ⟨a, b, ys, zs, rfl, .inl ⟨b2, c2, o2.ok s2.rel _ (srcOk_zipL s2.rel hgt b1 c1)⟩⟩
    | _ => exact o2.elim
  | _ => exact o2.elim
end

/-! ### loops over what is there are loops over places -/
theorem forItems_src (g : MG) (body : Sv) (xs : List PV) : ∀ (n i : Nat) (σ : Mn.St) (M : Mem), i + n = xs.length → forItems g body (xs.drop i) σ M = forSrc g body (.items xs) (n + 1) i σ M
  | 0, i, σ, M, h => by
    rw [List.drop_of_length_le (by omega)]
    unfold forItems forSrc
    simp only [srcAt]
    rw [List.getElem?_eq_none (by omega)]
  | n + 1, i, σ, M, h => by
    have hi : i < xs.length := by omega
    rw [List.drop_eq_getElem_cons hi]
    unfold forItems forSrc
    simp only [srcAt]
    rw [List.getElem?_eq_getElem hi]
    simp only
    cases assignG g xs[i] σ with
    | none => rfl
    | some σ' =>
      simp only
      congr 1
      funext fl M'
      congr 1
      funext σ2 M2
      exact forItems_src g body xs n (i + 1) σ2 M2 (by omega)
theorem forRun_src (g : MG) (body : Sv) (s : Src) (σ : Mn.St) (M : Mem) : forRun g body s σ M = forSrc g body s (srcLen s M + 1) 0 σ M := by
  cases s with
  | items xs => exact forItems_src g body xs xs.length 0 σ M (by omega)
  | at1 n e => rfl
  | at2 n m => rfl
theorem lcItems_src (own : List Nat) (g : MG) (cnd : Option Mn.Ev) (elt : Mn.Ev) (σ : Mn.St) (xs : List PV) : ∀ (n i : Nat) (acc : List PV) (M : Mem), i + n = xs.length → lcItems own g cnd elt σ (xs.drop i) acc M = lcSrc own g cnd elt σ (.items xs) (n + 1) i acc M
  | 0, i, acc, M, h => by
    rw [List.drop_of_length_le (by omega)]
    unfold lcItems lcSrc
    simp only [srcAt]
    rw [List.getElem?_eq_none (by omega)]
  | n + 1, i, acc, M, h => by
    have hi : i < xs.length := by omega
    rw [List.drop_eq_getElem_cons hi]
    unfold lcItems lcSrc
    simp only [srcAt]
    rw [List.getElem?_eq_getElem hi]
    simp only
    congr 1
    funext acc' M'
    exact lcItems_src own g cnd elt σ xs n (i + 1) acc' M' (by omega)
theorem lcRun_src (own : List Nat) (g : MG) (cnd : Option Mn.Ev) (elt : Mn.Ev) (σ : Mn.St) (s : Src) (M : Mem) :
    lcRun own g cnd elt σ s M = (lcSrc own g cnd elt σ s (srcLen s M + 1) 0 [] M).bind fun acc M' => .ok (.ref M'.sz) (M'.push (.lst acc)) := by
  cases s with
  | items xs =>
    unfold lcRun
    simp only
    rw [show lcItems own g cnd elt σ xs [] M = lcItems own g cnd elt σ (xs.drop 0) [] M from rfl, lcItems_src own g cnd elt σ xs xs.length 0 [] M (by omega)]
    rfl
  | at1 n e => rfl
  | at2 n m => rfl
theorem inB_succ {s : Src} {i : Nat} {M : Mem} {v : PV} (h : srcAt s i M = some (some v)) : inB s (i + 1) := by
  cases s with
  | items xs =>
    have h : xs[i]? = some v := Option.some.inj h
    exact (List.getElem?_eq_some_iff.mp h).1
  | _ => trivial
end Mn
end
section
set_option Elab.async false
set_option linter.all false
set_option maxRecDepth 100000
set_option maxHeartbeats 4000000
namespace Mn
open PySem PySem.Spec PyProof.Rows L2

/-! ### a comprehension -/
section
variable {X : Cx} {w : WS} {own : List Nat} {g : MG}
/-- one turn: the target, the test, the element -/
theorem turn_lc {K : PySem.W.Frag} {cnd : Option Mn.Ev} {tt : TT} {elt : Mn.Ev} {mσ : Mn.St} {σ : L2.St} {β : List Addr} {M : Mem} {H : Hp} {v : PV} {x : V} {acc : List PV} {k : List PV → List Addr → Mem → Hp → Prop} {Nx : Hp → Prop} {te : TE} {D : Addr}
    (hc : ∀ mσ' σ' β' M' H' (Q : Bool → Hp → Prop), RelH K β' M' H' → RelS K H' β' mσ' σ' → Out K β' M' H' (match cnd with | none => Res.ok true M' | some c => (c mσ' M').bind truth) (kB Q) (fun _ _ _ _ => False) → tt σ' H' Q)
    (he : ∀ σ' H' Q, tE K (fun _ _ _ _ _ => False) elt σ' H' Q → te σ' H' Q)
    (hg : g.slots.all (fun i => own.contains i) = true) (R : RelH K β M H) (Sl : RelS K H β mσ σ) (hr : ∀ mσ', assignG g v (wipe mσ own) = some mσ' → RepG K H β g v x)
    (o : Out K β M H (lcTurn own g cnd elt mσ v acc M) k (fun _ _ _ _ => False))
    (hD : ∀ β' M' H', Stp K β M H β' M' H' → ∃ ys, H' D = some (.lst ys) ∧ (∀ n zs, M'.get n = some (.lst zs) → β'[n]? ≠ some D) ∧ Reps K H' β' acc ys ∧ acc.length = ys.length)
    (hn : ∀ β' M' H', Stp K β M H β' M' H' → k acc β' M' H' → Nx H')
    (hy : ∀ β' M' H' u y ys, Stp K β M H β' M' H' → H' D = some (.lst ys) → Rep K H' β' u y → k (acc ++ [u]) β' M' H' → Nx (upd H' D (.lst (ys ++ [y])))) :
    gT K g x (L2.wipe σ own) H fun σ2 H2 => L2.wipe σ2 own = L2.wipe σ own ∧ tt σ2 H2 fun b H3 => if b = true then te σ2 H3 fun y H4 => ∃ ac, H4 D = some (.lst ac) ∧ ac.length < sizeLine ∧ Nx (upd H4 D (.lst (ac ++ [y]))) else Nx H3 := by
  unfold lcTurn at o
  cases ha : assignG g v (wipe mσ own) with
  | none => rw [ha] at o; exact o.elim
  | some mσ' =>
    rw [ha] at o
    simp only at o
    refine assign_ok ha (hr mσ' ha) (Sl.wipe own) fun σ2 S2 w2 => ?_
    have hslots : ∀ i ∈ g.slots, i ∈ own := fun i hi => by
      have := List.all_eq_true.mp hg i hi
      simpa using this
    refine ⟨?_, ?_⟩
    · rw [w2 own hslots]
      -- forgetting twice is forgetting
      have key : ∀ vs : List Nat, (∀ i ∈ vs, i ∈ own) → L2.wipe (L2.wipe σ vs) own = L2.wipe σ own := by
        intro vs
        induction vs with
        | nil => intro _; rfl
        | cons u vs ih =>
          intro hv
          show L2.wipe ((L2.wipe σ vs).set u none) own = _
          rw [wipe_set (hv u List.mem_cons_self), ih fun i hi => hv i (List.mem_cons_of_mem _ hi)]
      exact key own fun _ h => h
    · refine hc mσ' σ2 β M H _ R S2 ((o.bind R).imp (fun b β1 M1 H1 s1 q => ?_) fun _ _ _ _ _ q => q)
      cases b with
      | true =>
        show if (true : Bool) = true then te σ2 H1 (fun y H4 => ∃ ac, H4 D = some (.lst ac) ∧ ac.length < sizeLine ∧ Nx (upd H4 D (.lst (ac ++ [y])))) else Nx H1
        rw [if_pos rfl]
        rw [if_pos rfl] at q
        refine he σ2 H1 _ ?_
        obtain ⟨mσ3, β3, M3, R3, S3, o3⟩ := tE_stepT (w := fun _ _ _ _ _ => False) (σ := σ2) s1.rel (S2.stp R s1) q
        refine ⟨mσ3, β3, M3, R3, S3, o3.imp (fun u β4 M4 H4 s4 q4 y ry => ?_) fun _ _ _ _ _ q => q⟩
        obtain ⟨u', β5, M5, s5, r5, o5⟩ := q4 y ry
        by_cases hz : acc.length < LIM
        · rw [if_pos hz] at o5
          have s15 := s1.trans s5 R
          obtain ⟨ys, d1, d2, d3, d4⟩ := hD _ _ _ s15
          exact ⟨ys, d1, by rw [← d4, ← LIM_eq]; exact hz, hy _ _ _ u' y ys s15 d1 r5 (o5.ok s5.rel)⟩
        · rw [if_neg hz] at o5; exact o5.elim
      | false =>
        show if (false : Bool) = true then te σ2 H1 (fun y H4 => ∃ ac, H4 D = some (.lst ac) ∧ ac.length < sizeLine ∧ Nx (upd H4 D (.lst (ac ++ [y])))) else Nx H1
        rw [if_neg Bool.false_ne_true]
        rw [if_neg Bool.false_ne_true] at q
        exact hn _ _ _ s1 (q.ok s1.rel)
end

/-! ### a list in the making, out of sight -/
def er (D : Addr) (H : Hp) : Hp := fun a => if a = D then none else H a
theorem er_same {D : Addr} {H : Hp} : er D H D = none := by unfold er; rw [if_pos rfl]
theorem er_ne {D a : Addr} {H : Hp} (h : a ≠ D) : er D H a = H a := by unfold er; rw [if_neg h]
theorem er_some {D a : Addr} {H : Hp} {o : HO} (h : er D H a = some o) : a ≠ D ∧ H a = some o := by
  by_cases e : a = D
  · rw [e, er_same] at h; cases h
  · rw [er_ne e] at h; exact ⟨e, h⟩
theorem er_upd {D : Addr} {H : Hp} {o : HO} (h : H D = some o) : upd (er D H) D o = H := by
  funext a
  by_cases e : a = D
  · rw [e, upd_same, h]
  · rw [upd_ne e, er_ne e]
theorem er_upd2 {D : Addr} {H : Hp} {o : HO} : er D (upd H D o) = er D H := by
  funext a
  by_cases e : a = D
  · rw [e, er_same, er_same]
  · rw [er_ne e, er_ne e, upd_ne e]
theorem er_new {D : Addr} {H : Hp} (h : H D = none) : er D H = H := by
  funext a
  by_cases e : a = D
  · rw [e, er_same, h]
  · rw [er_ne e]
def unD (β : List Addr) (M : Mem) (D : Addr) : Prop := ∀ n zs, M.get n = some (.lst zs) → β[n]? ≠ some D
section
variable {K : PySem.W.Frag} {β β' : List Addr} {M M' : Mem} {H H' : Hp} {D : Addr} {ys : List V}
theorem er_tup {a : Addr} {xs : List V} (hD : H D = some (.lst ys)) (h : Tup K H a xs) : Tup K (er D H) a xs := by
  rcases h with ⟨o, h, d⟩ | h
  · exact .inl ⟨o, by rw [er_ne (ne_of h hD (by intro e; cases e))]; exact h, d⟩
  · exact .inr h
theorem un_tup {a : Addr} {xs : List V} (h : Tup K (er D H) a xs) : Tup K H a xs := by
  rcases h with ⟨o, h, d⟩ | h
  · exact .inl ⟨o, (er_some h).2, d⟩
  · exact .inr h
theorem er_rol {a : Addr} {xs : List V} (hD : H D = some (.lst ys)) (h : Rol K H a xs) : Rol K (er D H) a xs := by
  rcases h with ⟨o, h⟩ | h
  · exact .inl ⟨o, by rw [er_ne (ne_of h hD (by intro e; cases e))]; exact h⟩
  · exact .inr h
theorem un_rol {a : Addr} {xs : List V} (h : Rol K (er D H) a xs) : Rol K H a xs := by
  rcases h with ⟨o, h⟩ | h
  · exact .inl ⟨o, (er_some h).2⟩
  · exact .inr h
theorem er_reps {ps : List PV} {xs : List V} (hD : H D = some (.lst ys)) (h : Reps K H β ps xs) : Reps K (er D H) β ps xs := h.mono (fun _ _ => er_tup hD) fun _ _ h => h
theorem un_reps {ps : List PV} {xs : List V} (h : Reps K (er D H) β ps xs) : Reps K H β ps xs := h.mono (fun _ _ => un_tup) fun _ _ h => h
theorem er_rel (hD : H D = some (.lst ys)) (hn : unD β M D) (R : RelH K β M H) : RelH K β M (er D H) :=
  ⟨R.len, R.olen, R.inj, fun n ob e => by
    obtain ⟨a, e1, e2⟩ := R.obj n ob e
    refine ⟨a, e1, ?_⟩
    cases ob with
    | lst xs =>
      obtain ⟨zs, e3, e4⟩ := e2
      have hne : a ≠ D := fun z => hn n xs e (z ▸ e1)
      exact ⟨zs, by rw [er_ne hne]; exact e3, er_reps hD e4⟩
    | rol xs =>
      obtain ⟨zs, e3, e4⟩ := e2
      exact ⟨zs, er_rol hD e3, er_reps hD e4⟩⟩
theorem un_rel (R : RelH K β M (er D H)) : RelH K β M H ∧ unD β M D :=
  ⟨⟨R.len, R.olen, R.inj, fun n ob e => by
    obtain ⟨a, e1, e2⟩ := R.obj n ob e
    refine ⟨a, e1, ?_⟩
    cases ob with
    | lst xs =>
      obtain ⟨zs, e3, e4⟩ := e2
      exact ⟨zs, (er_some e3).2, un_reps e4⟩
    | rol xs =>
      obtain ⟨zs, e3, e4⟩ := e2
      exact ⟨zs, un_rol e3, un_reps e4⟩⟩, fun n zs e z => by
    obtain ⟨a, e1, ws, e2, _⟩ := R.obj n _ e
    rw [z] at e1; cases e1
    rw [er_same] at e2; cases e2⟩
/-- a step leaves D as it is, and is a step without it -/
theorem er_stp (hD : H D = some (.lst ys)) (hn : unD β M D) (R : RelH K β M H) (s : Stp K β M H β' M' H') : Stp K β M (er D H) β' M' (er D H') ∧ H' D = some (.lst ys) ∧ unD β' M' D := by
  have hD' := s.frame D _ hD hn
  have hn' : unD β' M' D := fun n zs e z => by
    by_cases hl : n < M.sz
    · obtain ⟨ws, e2⟩ := s.kind n zs hl e
      obtain ⟨b, e3, _⟩ := R.obj n _ e2
      have := s.pre n b e3
      rw [z] at this; cases this
      exact hn n ws e2 e3
    · have := s.fresh n zs D (by omega) e z
      rw [hD] at this; cases this
  refine ⟨⟨er_rel hD' hn' s.rel, s.pre, s.szle, fun a o h hl => ?_, s.kind, s.kind2, fun n xs a h1 h2 h3 => ?_, s.esc, s.clo⟩, hD', hn'⟩
  · obtain ⟨h1, h2⟩ := er_some h
    rw [er_ne h1]
    exact s.frame a o h2 hl
  · have := s.fresh n xs a h1 h2 h3
    by_cases e : a = D
    · rw [e]; exact er_same
    · rw [er_ne e]; exact this
theorem Out.er {α : Type} {r : Res α} {k : α → List Addr → Mem → Hp → Prop} (hD : H D = some (.lst ys)) (hn : unD β M D) (R : RelH K β M H) (o : Out K β M (Mn.er D H) r k (fun _ _ _ _ => False)) :
    Out K β M H r (fun a β' M' H' => k a β' M' (Mn.er D H')) (fun _ _ _ _ => False) := by
  cases r with
  | ok a M1 => exact fun β' H' s => o β' _ (er_stp hD hn R s).1
  | exc a M1 => exact fun β' H' s => o β' _ (er_stp hD hn R s).1
  | stuck => exact o
end
section
variable {X : Cx} {own : List Nat} {g : MG} {elt tg iter : Expr} {ifs : List Expr} {scope : Scope} {pos : Pos} {evI : Mn.St → Mem → Res Src} {cnd : Option Mn.Ev} {tt : TT} {ee : Mn.Ev}
theorem lc_read {σ : L2.St} {H : Hp} {Q : VK}
    (hc : ∀ mσ' σ' β' M' H' (Q : Bool → Hp → Prop), RelH X.K β' M' H' → RelS X.K H' β' mσ' σ' → Out X.K β' M' H' (match cnd with | none => Res.ok true M' | some c => (c mσ' M').bind truth) (kB Q) (fun _ _ _ _ => False) → tt σ' H' Q)
    (hg : g.slots.all (fun i => own.contains i) = true)
    (h : tE X.K w0 (fun σ M => (evI σ M).bind fun s M1 => lcRun own g cnd ee σ s M1) σ H Q) : tLc (tI X.K w0 evI g) (gT X.K g) tt (tE X.K w0 ee) own σ H Q := by
  obtain ⟨mσ, β, M, R, Sl, o⟩ := h
  refine ⟨mσ, β, M, R, Sl, (o.bind R).imp (fun s β1 M1 H1 s1 q J hJ D hDn => ?_) fun _ _ _ _ _ q => q⟩
  rw [lcRun_src] at q
  have S1 := Sl.stp R s1
  refine ⟨fun i m Hc => ∃ β2 M2 acc ys, m = m ∧ inB s i ∧ Hc D = some (.lst ys) ∧ Stp X.K β1 M1 H1 β2 M2 (er D Hc) ∧ Reps X.K (er D Hc) β2 acc ys ∧
    Out X.K β2 M2 (er D Hc) ((lcSrc own g cnd ee mσ s m i acc M2).bind fun acc M' => .ok (.ref M'.sz) (M'.push (.lst acc))) (kQ X.K Q) (w0 σ), ⟨srcLen s M1 + 1, β1, M1, [], [], rfl, by cases s <;> simp [inB], upd_same, ?_, ?_, ?_⟩, ?_⟩
  · rw [er_upd2, er_new hDn]; exact .refl s1.rel
  · exact reps_nil.mpr rfl
  · rw [er_upd2, er_new hDn]; exact q
  · rintro i m Hc ⟨β2, M2, acc, ys, _, hb, hD, s2, ra, o2⟩
    obtain ⟨R2, hn2⟩ := un_rel s2.rel
    have hper : Per X.K β1 H1 β2 M2 Hc := ⟨R2, s2.pre, fun h => un_tup (s2.tup s1.rel h)⟩
    cases m with
    | zero => unfold lcSrc at o2; exact o2.elim
    | succ m =>
      unfold lcSrc at o2
      cases hs : srcAt s i M2 with
      | none => rw [hs] at o2; exact o2.elim
      | some ov =>
        rw [hs] at o2
        cases ov with
        | none =>
          simp only at o2
          have o2 : Out X.K β2 M2 (er D Hc) (.ok (.ref M2.sz) (M2.push (.lst acc))) (kQ X.K Q) (w0 σ) := o2
          refine .inl ⟨hJ.stop i β2 M2 Hc hper hb hs, ?_⟩
          have := o2.lst s2.rel ra er_same
          rw [er_upd hD] at this
          exact this
        | some v =>
          simp only [assoc3] at o2
          have o3 := (o2.bind s2.rel).er hD hn2 R2
          obtain ⟨hgo, hyl⟩ := hJ.go i β2 M2 Hc v hper hs
          have Sc : RelS X.K Hc β2 mσ σ := ⟨S1.1, fun j u e => by
            obtain ⟨x, e1, r⟩ := S1.2 j u e
            exact ⟨x, e1, r.mono (fun _ _ => hper.tup) hper.pre⟩⟩
          refine .inr ⟨hgo, fun H' => ∃ m', m' < m + 1 ∧ ∃ β3 M3 acc' ys', m' = m' ∧ inB s (i + 1) ∧ H' D = some (.lst ys') ∧ Stp X.K β1 M1 H1 β3 M3 (er D H') ∧ Reps X.K (er D H') β3 acc' ys' ∧
            Out X.K β3 M3 (er D H') ((lcSrc own g cnd ee mσ s m' (i + 1) acc' M3).bind fun acc M' => .ok (.ref M'.sz) (M'.push (.lst acc))) (kQ X.K Q) (w0 σ), fun H' h => h, fun x H' hy => ?_⟩
          obtain ⟨sy, hrg⟩ := hyl x H' hy
          obtain ⟨sE, hD', hn'⟩ := er_stp hD hn2 R2 sy
          -- at the pair's heap
          have o4 : Out X.K β2 M2 H' (lcTurn own g cnd ee mσ v acc M2) (fun a β' M' H'' => Out X.K β' M' (er D H'') ((lcSrc own g cnd ee mσ s m (i + 1) a M').bind fun acc M' => .ok (.ref M'.sz) (M'.push (.lst acc))) (kQ X.K Q) (w0 σ)) (fun _ _ _ _ => False) := by
            revert o3
            cases lcTurn own g cnd ee mσ v acc M2 with
            | ok b M3 => exact fun o β3 H3 u => o β3 H3 (sy.trans u R2)
            | exc b M3 => exact fun o β3 H3 u => o β3 H3 (sy.trans u R2)
            | stuck => exact fun o => o
          refine turn_lc hc (fun _ _ _ h => h) hg sy.rel (Sc.stp R2 sy) (fun mσ' ha => hrg _ _ ha) o4 (fun β' M' H'' s' => ?_) (fun β' M' H'' s' q => ?_) (fun β' M' H'' u y ys2 s' hd2 ru q => ?_)
          · obtain ⟨_, h1, h2⟩ := er_stp hD' hn' sy.rel s'
            have ra2 : Reps X.K H'' β' acc ys := (s'.reps sy.rel (sy.reps R2 (un_reps ra)))
            exact ⟨ys, h1, h2, ra2, ra2.length⟩
          · obtain ⟨e1, h1, h2⟩ := er_stp hD' hn' sy.rel s'
            have ra2 : Reps X.K H'' β' acc ys := (s'.reps sy.rel (sy.reps R2 (un_reps ra)))
            exact ⟨m, Nat.lt_succ_self _, β', M', acc, ys, rfl, inB_succ hs, h1, (s2.trans sE s1.rel).trans e1 s1.rel, er_reps h1 ra2, q⟩
          · obtain ⟨e1, h1, h2⟩ := er_stp hD' hn' sy.rel s'
            have ra2 : Reps X.K H'' β' acc ys := (s'.reps sy.rel (sy.reps R2 (un_reps ra)))
            rw [h1] at hd2; cases hd2
            refine ⟨m, Nat.lt_succ_self _, β', M', acc ++ [u], ys ++ [y], rfl, inB_succ hs, upd_same, ?_, ?_, ?_⟩
            · rw [er_upd2]; exact (s2.trans sE s1.rel).trans e1 s1.rel
            · rw [er_upd2]; exact er_reps h1 (ra2.append (.one ru))
            · rw [er_upd2]; exact q
theorem s_lc (hc0 : X.calm = true) (hN : X.N.Nodup) (hI : PI X tg iter (tI X.K w0 evI g)) (ok : BlkOk X.N X.env.scope scope (ownP X.N own))
    (hG : ∀ (s : Shared) (H : Hp) (C : Addr) (cl : List (Str × Addr)) (fp : List Addr), PG (X.blk s H scope (compEnvC scope cl C X.env) fp) tg (gT X.K g))
    (hT : ∀ (s : Shared) (H : Hp) (C : Addr) (cl : List (Str × Addr)) (fp : List Addr), PTs (X.blk s H scope (compEnvC scope cl C X.env) fp) ifs tt)
    (hE : ∀ (s : Shared) (H : Hp) (C : Addr) (cl : List (Str × Addr)) (fp : List Addr), PE (X.blk s H scope (compEnvC scope cl C X.env) fp) elt (tE X.K w0 ee))
    (hc : ∀ mσ' σ' β' M' H' (Q : Bool → Hp → Prop), RelH X.K β' M' H' → RelS X.K H' β' mσ' σ' → Out X.K β' M' H' (match cnd with | none => Res.ok true M' | some c => (c mσ' M').bind truth) (kB Q) (fun _ _ _ _ => False) → tt σ' H' Q)
    (hg : g.slots.all (fun i => own.contains i) = true) (hs : ∀ x, foldedSetIterable iter X.env x = pure x) :
    PE X (.ListComp elt [⟨tg, iter, ifs, 0⟩] scope pos) (tE X.K w0 (fun σ M => (evI σ M).bind fun s M1 => lcRun own g cnd ee σ s M1)) := by
  refine PE.imp (pe_lc hc0 hN hI ok hG hT hE hs) fun σ H Q h => ?_
  have e : (ownP X.N own).map (·.2) = own := by
    unfold ownP
    rw [List.map_map]
    exact List.map_id' own
  rw [e]
  exact lc_read hc hg h
end
end Mn
end
section
set_option Elab.async false
set_option linter.all false
set_option maxRecDepth 100000
set_option maxHeartbeats 4000000
namespace Mn
open PySem PySem.Spec PyProof.Rows L2

/-! ### statements -/
def kS (K : PySem.W.Frag) (D : Ends) : Flow → List Addr → Mem → Hp → Prop := fun fl β' _ H' =>
  match fl with
  | .next mσ => ∀ σ, RelS K H' β' mσ σ → D.nx σ H'
  | .ret v => ∀ x, Rep K H' β' v x → D.rt x H'
  | .brk mσ => ∀ σ, RelS K H' β' mσ σ → D.bk σ H'
  | .cont mσ => ∀ σ, RelS K H' β' mσ σ → D.ct σ H'
def tSt (K : PySem.W.Frag) (ev : Sv) : TS := fun D σ H => ∃ mσ β M, RelH K β M H ∧ RelS K H β mσ σ ∧ Out K β M H (ev mσ M) (kS K D) (fun _ _ _ _ => False)
section
variable {X : Cx} {e e2 tg iter c : Expr} {es : List Expr} {body b1 b2 : List Stmt} {pos : Pos} {x : Str} {ea eb ec : Mn.Ev} {sv sv1 sv2 : Sv} {g : MG} {evI : Mn.St → Mem → Res Src}

theorem st_nil : PSs X [] (tSt X.K (fun σ M => .ok (.next σ) M)) := by
  refine PSs.imp pss_nil fun D σ H h => ?_
  obtain ⟨mσ, β, M, R, Sl, o⟩ := h
  exact o.ok R σ Sl
theorem st_cons {st : Stmt} {rest : List Stmt} (h1 : PS X st (tSt X.K sv1)) (h2 : PSs X rest (tSt X.K sv2)) : PSs X (st :: rest) (tSt X.K (fun σ M => (sv1 σ M).bind fun f M1 => match f with | .next σ' => sv2 σ' M1 | f => .ok f M1)) := by
  refine PSs.imp (pss_cons h1 h2) fun D σ H h => ?_
  obtain ⟨mσ, β, M, R, Sl, o⟩ := h
  refine ⟨mσ, β, M, R, Sl, (o.bind R).imp (fun fl β1 M1 H1 s1 q => ?_) fun _ _ _ _ _ q => q⟩
  cases fl with
  | next mσ1 => exact fun σ1 S1 => ⟨mσ1, β1, M1, s1.rel, S1, q⟩
  | ret v => exact (show kS X.K D (.ret v) β1 M1 H1 from Out.ok (w := fun _ _ _ _ => False) s1.rel q)
  | brk mσ1 => exact (show kS X.K D (.brk mσ1) β1 M1 H1 from Out.ok (w := fun _ _ _ _ => False) s1.rel q)
  | cont mσ1 => exact (show kS X.K D (.cont mσ1) β1 M1 H1 from Out.ok (w := fun _ _ _ _ => False) s1.rel q)
theorem st_pass : PS X (.Pass pos) (tSt X.K (fun σ M => .ok (.next σ) M)) := by
  refine PS.imp ps_pass fun D σ H h => ?_
  obtain ⟨mσ, β, M, R, Sl, o⟩ := h
  exact o.ok R σ Sl
theorem st_brk : PS X (.Break pos) (tSt X.K (fun σ M => .ok (.brk σ) M)) := by
  refine PS.imp ps_break fun D σ H h => ?_
  obtain ⟨mσ, β, M, R, Sl, o⟩ := h
  exact o.ok R σ Sl
theorem st_cont : PS X (.Continue pos) (tSt X.K (fun σ M => .ok (.cont σ) M)) := by
  refine PS.imp ps_continue fun D σ H h => ?_
  obtain ⟨mσ, β, M, R, Sl, o⟩ := h
  exact o.ok R σ Sl
theorem st_asg {i : Nat} {px : Pos} (hN : X.N.Nodup) (hi : X.N[i]? = some x) (hl : Loc X.env.scope x ∧ (X.fn x = true ∨ X.env.scope.names.lookup x = some .local)) (hs : swapsWith e (some (.Name x px)) pos.line X.env = pure false) (he : PE X e (tE X.K w0 ea)) :
    PS X (.Assign [.Name x px] e pos) (tSt X.K (fun σ M => (trim M (ea σ M)).bind fun v M1 => .ok (.next (σ.set i (some v))) M1)) := by
  refine PS.imp (ps_set hN hi hl.1 he hs hl.2) fun D σ H h => ?_
  obtain ⟨mσ, β, M, R, Sl, o⟩ := h
  refine oneT (w := w0) R Sl o fun v y β1 M1 H1 s1 r1 S1 o1 => ?_
  exact o1.ok s1.rel _ (S1.set r1)
theorem st_ret (he : PE X e (tE X.K w0 ea)) : PS X (.Return (some e) pos) (tSt X.K (fun σ M => (trim M (ea σ M)).bind fun v M1 => .ok (.ret v) M1)) := by
  refine PS.imp (ps_ret he) fun D σ H h => ?_
  obtain ⟨mσ, β, M, R, Sl, o⟩ := h
  refine oneT (w := w0) R Sl o fun v y β1 M1 H1 s1 r1 S1 o1 => ?_
  exact o1.ok s1.rel y r1
theorem st_expr (hs : swapsWith e none pos.line X.env = pure false) (he : PE X e (tE X.K w0 ea)) : PS X (.Expr e pos) (tSt X.K (fun σ M => (trim M (ea σ M)).bind fun _ M1 => .ok (.next σ) M1)) := by
  refine PS.imp (ps_expr he hs) fun D σ H h => ?_
  obtain ⟨mσ, β, M, R, Sl, o⟩ := h
  refine oneT (w := w0) R Sl o fun v y β1 M1 H1 s1 r1 S1 o1 => ?_
  exact o1.ok s1.rel σ S1
theorem st_asgT {ts : List Expr} {kk : Nat} {pt : Pos} (hg : PG X (.Tuple ts kk pt) (gT X.K g)) (hs : swapsWithSole [.Tuple ts kk pt] e pos.line X.env = pure false) (hw : swappedStores [.Tuple ts kk pt] e X.env = pure none) (he : PE X e (tE X.K w0 ea)) :
    PS X (.Assign [.Tuple ts kk pt] e pos) (tSt X.K (fun σ M => (trim M (ea σ M)).bind fun v M1 => (optR (assignG g v σ) M1).bind fun σ' M2 => .ok (.next σ') M2)) := by
  refine PS.imp (ps_asg he hg hs hw) fun D σ H h => ?_
  obtain ⟨mσ, β, M, R, Sl, o⟩ := h
  refine oneT (w := w0) R Sl o fun v y β1 M1 H1 s1 r1 S1 o1 => ?_
  cases ha : assignG g v mσ with
  | none => rw [ha] at o1; exact o1.elim
  | some mσ' =>
    rw [ha] at o1
    exact assign_ok ha (r1.g (assign_tup ha)) S1 fun σ' S' _ => o1.ok s1.rel σ' S'
theorem st_par {i j : Nat} {y : Str} {a b : Expr} {eA : EvL} {px py pt pt2 : Pos} {kt k2} (hc : X.calm = true) (hN : X.N.Nodup) (hi : X.N[i]? = some x) (hj : X.N[j]? = some y) (hij : i ≠ j)
    (hx : X.env.scope.names.lookup x = some .local) (hy : X.env.scope.names.lookup y = some .local) (hw : swappedStores [.Tuple [.Name x px, .Name y py] kt pt] (.Tuple [a, b] k2 pt2) X.env = pure (some [x, y])) (ha : PA X [a, b] (tAs X.K w0 eA)) :
    PS X (.Assign [.Tuple [.Name x px, .Name y py] kt pt] (.Tuple [a, b] k2 pt2) pos) (tSt X.K (sPar i j eA)) := by
  refine PS.imp (ps_par hc hN hi hj hij hx hy ha hw) fun D σ H h => ?_
  obtain ⟨mσ, β, M, R, Sl, o⟩ := h
  refine oneA (w := w0) R Sl o fun vs xs β1 M1 H1 s1 r1 S1 o1 => ?_
  match vs, r1, o1 with
  | [], _, o1 => exact o1.elim
  | [_], _, o1 => exact o1.elim
  | _ :: _ :: _ :: _, _, o1 => exact o1.elim
  | [v, u], r1, o1 =>
    obtain ⟨x1, x2, rfl, q1, q2⟩ := reps2 r1
    exact ⟨x1, x2, rfl, o1.ok s1.rel _ ((S1.set q1).set q2)⟩
theorem st_par3 {i j l : Nat} {y z : Str} {a b c : Expr} {eA : EvL} {px py pz pt pt2 : Pos} {kt k2} (hc : X.calm = true) (hN : X.N.Nodup) (hi : X.N[i]? = some x) (hj : X.N[j]? = some y) (hl : X.N[l]? = some z) (hij : i ≠ j) (hil : i ≠ l) (hjl : j ≠ l)
    (hx : X.env.scope.names.lookup x = some .local) (hy : X.env.scope.names.lookup y = some .local) (hz : X.env.scope.names.lookup z = some .local)
    (hw : swappedStores [.Tuple [.Name x px, .Name y py, .Name z pz] kt pt] (.Tuple [a, b, c] k2 pt2) X.env = pure (some [x, y, z])) (ha : PA X [a, b, c] (tAs X.K w0 eA)) :
    PS X (.Assign [.Tuple [.Name x px, .Name y py, .Name z pz] kt pt] (.Tuple [a, b, c] k2 pt2) pos) (tSt X.K (sPar3 i j l eA)) := by
  refine PS.imp (ps_par3 hc hN hi hj hl hij hil hjl hx hy hz ha hw) fun D σ H h => ?_
  obtain ⟨mσ, β, M, R, Sl, o⟩ := h
  refine oneA (w := w0) R Sl o fun vs xs β1 M1 H1 s1 r1 S1 o1 => ?_
  match vs, r1, o1 with
  | [], _, o1 => exact o1.elim
  | [_], _, o1 => exact o1.elim
  | [_, _], _, o1 => exact o1.elim
  | _ :: _ :: _ :: _ :: _, _, o1 => exact o1.elim
  | [v, u, t], r1, o1 =>
    obtain ⟨x1, r2, rfl, q1, r2'⟩ := reps_cons.mp r1
    obtain ⟨x2, x3, rfl, q2, q3⟩ := reps2 r2'
    exact ⟨x1, x2, x3, rfl, o1.ok s1.rel _ (((S1.set q1).set q2).set q3)⟩
theorem st_setix {o i : Expr} {eo ei : Mn.Ev} {p2 : Pos} (hs : swapsWithSole [.Subscript o i p2] e pos.line X.env = pure false) (hw : swappedStores [.Subscript o i p2] e X.env = pure none) (hg : PG X (.Subscript o i p2) (gSub (tE X.K w0 eo) (tE X.K w0 ei) (rSetM X.K))) (he : PE X e (tE X.K w0 ea)) :
    PS X (.Assign [.Subscript o i p2] e pos) (tSt X.K (fun σ M => (trim M (ea σ M)).bind fun v M1 => (eo σ M1).bind fun ov M2 => (ei σ M2).bind fun iv M3 => (setM ov iv v M3).bind fun _ M4 => .ok (.next σ) M4)) := by
  refine PS.imp (ps_asg he hg hs hw) fun D σ H h => ?_
  obtain ⟨mσ, β, M, R, Sl, o⟩ := h
  refine oneT (w := w0) R Sl o fun v y β1 M1 H1 s1 r1 S1 o1 => ?_
  refine one (w := w0) s1.rel S1 o1 fun ov z β2 M2 H2 s2 r2 S2 o2 => ?_
  refine one (w := w0) s2.rel S2 o2 fun iv u β3 M3 H3 s3 r3 S3 o3 => ?_
  refine ⟨ov, iv, v, β3, M3, _, s3.rel, s3.rep s2.rel r2, r3, s3.rep s2.rel (s2.rep s1.rel r1), (o3.bind s3.rel).imp (fun _ β4 M4 H4 s4 q => ?_) fun _ _ _ _ _ q => q⟩
  exact q.ok s4.rel σ (S3.stp s3.rel s4)
theorem st_if (hc : PT X c (tTs X.K w0 (fun σ M => (ec σ M).bind truth))) (ha : PSs X b1 (tSt X.K sv1)) (hb : PSs X b2 (tSt X.K sv2)) :
    PS X (.If c b1 b2 pos) (tSt X.K (fun σ M => ((ec σ M).bind truth).bind fun t M2 => if t then sv1 σ M2 else sv2 σ M2)) := by
  refine PS.imp (ps_if hc ha hb) fun D σ H h => ?_
  obtain ⟨mσ, β, M, R, Sl, o⟩ := h
  refine oneB (ev := fun σ M => (ec σ M).bind truth) (w := w0) R Sl o fun t β1 M1 H1 s1 S1 o1 => ?_
  cases t with
  | true => rw [if_pos rfl] at o1 ⊢; exact ⟨mσ, β1, M1, s1.rel, S1, o1⟩
  | false => rw [if_neg Bool.false_ne_true] at o1 ⊢; exact ⟨mσ, β1, M1, s1.rel, S1, o1⟩
theorem st_for (hp : PassesOwn (model X.prog X.w) X.A X.env X.xe) (hc : X.calm = true) (hI : PI X tg iter (tI X.K w0 evI g)) (hg : PG X tg (gT X.K g)) (hb : PSs X body (tSt X.K sv)) (hs : ∀ x, foldedSetIterable iter X.env x = pure x) :
    PS X (.For tg iter body [] pos) (tSt X.K (fun σ M => (evI σ M).bind fun s M1 => forRun g sv s σ M1)) := by
  refine PS.imp (ps_for hp hc hI hg hb hs) fun D σ H h => ?_
  obtain ⟨mσ, β, M, R, Sl, o⟩ := h
  refine ⟨mσ, β, M, R, Sl, (o.bind R).imp (fun s β1 M1 H1 s1 q J hJ => ?_) fun _ _ _ _ _ q => q⟩
  rw [forRun_src] at q
  refine ⟨fun i m σc Hc => ∃ mσ2 β2 M2, inB s i ∧ Stp X.K β1 M1 H1 β2 M2 Hc ∧ RelS X.K Hc β2 mσ2 σc ∧ Out X.K β2 M2 Hc (forSrc g sv s m i mσ2 M2) (kS X.K D) (fun _ _ _ _ => False),
    ⟨srcLen s M1 + 1, mσ, β1, M1, by cases s <;> simp [inB], .refl s1.rel, Sl.stp R s1, q⟩, ?_⟩
  rintro i m σc Hc ⟨mσ2, β2, M2, hb, s2, S2, o2⟩
  cases m with
  | zero => unfold forSrc at o2; exact o2.elim
  | succ m =>
    unfold forSrc at o2
    cases hs : srcAt s i M2 with
    | none => rw [hs] at o2; exact o2.elim
    | some ov =>
      rw [hs] at o2
      have hper := s2.per s1.rel
      cases ov with
      | none => exact .inl ⟨hJ.stop i β2 M2 Hc hper hb hs, o2.ok s2.rel σc S2⟩
      | some v =>
        simp only at o2
        obtain ⟨hgo, hyl⟩ := hJ.go i β2 M2 Hc v hper hs
        refine .inr ⟨hgo, fun σ' H' => ∃ m', m' < m + 1 ∧ ∃ mσ3 β3 M3, inB s (i + 1) ∧ Stp X.K β1 M1 H1 β3 M3 H' ∧ RelS X.K H' β3 mσ3 σ' ∧ Out X.K β3 M3 H' (forSrc g sv s m' (i + 1) mσ3 M3) (kS X.K D) (fun _ _ _ _ => False), fun σ' H' h => h, fun x H' hy => ?_⟩
        obtain ⟨sy, hrg⟩ := hyl x H' hy
        cases ha : assignG g v mσ2 with
        | none => rw [ha] at o2; exact o2.elim
        | some mσ3 =>
          rw [ha] at o2
          simp only at o2
          refine assign_ok ha (hrg _ _ ha) (S2.stp s2.rel sy) fun σ3 S3 _ => ?_
          have o3 : Out X.K β2 M2 H' ((sv mσ3 M2).bind fun fl M' => afterTurn fl M' (forSrc g sv s m (i + 1))) (kS X.K D) (fun _ _ _ _ => False) := by
            revert o2
            cases (sv mσ3 M2).bind fun fl M' => afterTurn fl M' (forSrc g sv s m (i + 1)) with
            | ok b M3 => exact fun o β3 H3 u => o β3 H3 (sy.trans u s2.rel)
            | exc b M3 => exact fun o β3 H3 u => o β3 H3 (sy.trans u s2.rel)
            | stuck => exact fun o => o
          refine ⟨mσ3, β2, M2, sy.rel, S3, (o3.bind sy.rel).imp (fun fl β4 M4 H4 s4 q4 => ?_) fun _ _ _ _ _ q => q⟩
          have s14 := (s2.trans sy s1.rel).trans s4 s1.rel
          cases fl with
          | next mσ4 => exact fun σ4 S4 => ⟨m, Nat.lt_succ_self _, mσ4, β4, M4, inB_succ hs, s14, S4, q4⟩
          | cont mσ4 => exact fun σ4 S4 => ⟨m, Nat.lt_succ_self _, mσ4, β4, M4, inB_succ hs, s14, S4, q4⟩
          | brk mσ4 => exact (show kS X.K D (.next mσ4) β4 M4 H4 from Out.ok (w := fun _ _ _ _ => False) s4.rel q4)
          | ret v => exact (show kS X.K D (.ret v) β4 M4 H4 from Out.ok (w := fun _ _ _ _ => False) s4.rel q4)
theorem st_while (hp : PassesOwn (model X.prog X.w) X.A X.env X.xe) (hc : PT X c (tTs X.K w0 (fun σ M => (ec σ M).bind truth))) (hb : PSs X body (tSt X.K sv)) : PS X (.While c body [] pos) (tSt X.K (fun σ M => whileRun ec sv WF σ M)) := by
  refine PS.imp (ps_while hp hc hb) fun D σ H h => ?_
  obtain ⟨mσ, β, M, R, Sl, o⟩ := h
  refine ⟨fun m σc Hc => ∃ mσ2 β2 M2, RelH X.K β2 M2 Hc ∧ RelS X.K Hc β2 mσ2 σc ∧ Out X.K β2 M2 Hc (whileRun ec sv m mσ2 M2) (kS X.K D) (fun _ _ _ _ => False), ⟨WF, mσ, β, M, R, Sl, o⟩, ?_⟩
  rintro m σc Hc ⟨mσ2, β2, M2, R2, S2, o2⟩
  cases m with
  | zero => unfold whileRun at o2; exact o2.elim
  | succ m =>
    unfold whileRun at o2
    refine oneB (ev := fun σ M => (ec σ M).bind truth) (w := w0) R2 S2 o2 fun t β3 M3 H3 s3 S3 o3 => ?_
    cases t with
    | true =>
      rw [if_pos rfl] at o3 ⊢
      refine ⟨fun σ' H' => ∃ m', m' < m + 1 ∧ ∃ mσ3 β3 M3, RelH X.K β3 M3 H' ∧ RelS X.K H' β3 mσ3 σ' ∧ Out X.K β3 M3 H' (whileRun ec sv m' mσ3 M3) (kS X.K D) (fun _ _ _ _ => False), fun σ' H' h => h, ?_⟩
      refine ⟨mσ2, β3, M3, s3.rel, S3, (o3.bind s3.rel).imp (fun fl β4 M4 H4 s4 q4 => ?_) fun _ _ _ _ _ q => q⟩
      cases fl with
      | next mσ4 => exact fun σ4 S4 => ⟨m, Nat.lt_succ_self _, mσ4, β4, M4, s4.rel, S4, q4⟩
      | cont mσ4 => exact fun σ4 S4 => ⟨m, Nat.lt_succ_self _, mσ4, β4, M4, s4.rel, S4, q4⟩
      | brk mσ4 => exact (show kS X.K D (.next mσ4) β4 M4 H4 from Out.ok (w := fun _ _ _ _ => False) s4.rel q4)
      | ret v => exact (show kS X.K D (.ret v) β4 M4 H4 from Out.ok (w := fun _ _ _ _ => False) s4.rel q4)
    | false =>
      rw [if_neg Bool.false_ne_true] at o3 ⊢
      exact o3.ok s3.rel σc S3
end
end Mn
end
section
set_option Elab.async false
set_option linter.all false
set_option maxRecDepth 100000
set_option maxHeartbeats 4000000
namespace Mn
open PySem PySem.Spec PyProof.Rows L2

def notComp : Expr → Bool
  | .ListComp _ _ _ _ => false
  | .SetComp _ _ _ _ => false
  | .DictComp _ _ _ _ _ => false
  | _ => true
def notTupE : Expr → Bool
  | .Tuple _ _ _ => false
  | _ => true
/-- name = [..], the name stored within the comprehension's frame -/
def swB (S : SC) (x : Str) (px : Pos) : Expr → Bool
  | .ListComp _ _ scope pos => (S.sc.names.lookup x == some .local) && (px.line == pos.line) && !(scope.names.any fun (n, k) => n == x && (k == .local || k == .cell))
  | _ => false
def parB (sc : Scope) (xs : List (Str × Pos)) (vs : List Expr) : Bool :=
  (sc.kind == .function) && xs.all (fun p => sc.names.lookup p.1 == some .local) && (match xs with | [] => true | p :: ps => ps.all fun q => q.2.line == p.2.line) && !(vs.all (foldedForSure 8)) && !(vs.all (constantsAlone 8))
/-- a target that the compiler does not store by a swap -/
def capT (sc : Scope) : Expr → Bool
  | .Name x _ => !(sc.names.lookup x == some .local)
  | _ => true
def capB (sc : Scope) (ts : List Expr) : Bool := ts.any (capT sc)
mutual
def chkS (N : List Str) (fn : List (Nat × Str)) (S : SC) : MS → Stmt → Bool
  | .asg i e, st => (match st with | .Assign [.Name x px] v _ => (N[i]? == some x) && locB S x && chkE N fn S e v && (notComp v || (match v with | .ListComp _ _ _ _ => true | _ => false)) | _ => false)
  | .asgT g e, st => (match st with | .Assign [.Tuple ts kk pt] v _ => chkG N S g (.Tuple ts kk pt) && chkE N fn S e v && notComp v && (notTupE v || capB S.sc ts) | _ => false)
  | .par i j es, st => (match st with | .Assign [.Tuple [.Name x px, .Name y py] _ _] (.Tuple [a, b] _ _) _ => (N[i]? == some x) && (N[j]? == some y) && decide (i ≠ j) && decide (x ≠ y) && parB S.sc [(x, px), (y, py)] [a, b] && chkEs N fn S es [a, b] | _ => false)
  | .par3 i j l es, st => (match st with | .Assign [.Tuple [.Name x px, .Name y py, .Name z pz] _ _] (.Tuple [a, b, c] _ _) _ => (N[i]? == some x) && (N[j]? == some y) && (N[l]? == some z) && decide (i ≠ j) && decide (i ≠ l) && decide (j ≠ l) && decide (x ≠ y) && decide (x ≠ z) && decide (y ≠ z) && parB S.sc [(x, px), (y, py), (z, pz)] [a, b, c] && chkEs N fn S es [a, b, c] | _ => false)
  | .setix o i e, st => (match st with | .Assign [.Subscript x y _] v _ => chkE N fn S o x && chkE N fn S i y && chkE N fn S e v && notSlice y && notComp v | _ => false)
  | .expr e, st => (match st with | .Expr v _ => chkE N fn S e v && notComp v | _ => false)
  | .ret e, st => (match st with | .Return (some v) _ => chkE N fn S e v | _ => false)
  | .ife c a b, st => (match st with | .If x b1 b2 _ => chkE N fn S c x && notIf x && chkSs N fn S a b1 && chkSs N fn S b b2 | _ => false)
  | .for_ g it b, st => (match st with | .For tg iter body [] _ => chkG N S g tg && chkI N fn S it (isTup tg) iter && chkSs N fn S b body && notSet iter | _ => false)
  | .while_ c b, st => (match st with | .While x body [] _ => chkE N fn S c x && notIf x && chkSs N fn S b body | _ => false)
  | .pass, st => (match st with | .Pass _ => true | _ => false)
  | .brk, st => (match st with | .Break _ => true | _ => false)
  | .cont, st => (match st with | .Continue _ => true | _ => false)
def chkSs (N : List Str) (fn : List (Nat × Str)) (S : SC) : MSs → List Stmt → Bool
  | .nil, ss => ss.isEmpty
  | .cons m ms, ss => (match ss with | s :: ss => chkS N fn S m s && chkSs N fn S ms ss | [] => false)
end

theorem len_filterMap {α β : Type} {f : α → Option β} : ∀ {l : List α}, (∃ x ∈ l, f x = none) → (l.filterMap f).length ≠ l.length
  | [], h => by obtain ⟨x, hx, _⟩ := h; cases hx
  | a :: l, h => by
    have le : (l.filterMap f).length ≤ l.length := List.length_filterMap_le f l
    rw [List.filterMap_cons]
    cases e : f a with
    | none => simp only [List.length_cons]; omega
    | some b =>
      obtain ⟨x, hx, ex⟩ := h
      rcases List.mem_cons.mp hx with rfl | hx
      · rw [e] at ex; cases ex
      · have := len_filterMap ⟨x, hx, ex⟩
        simp only [List.length_cons]; omega
theorem sw_cap {env : Env} {ts vs : List Expr} {kt k2} {pt pt2 : Pos} (h : capB env.scope ts = true) :
    swappedStores [.Tuple ts kt pt] (.Tuple vs k2 pt2) env = pure none := by
  unfold swappedStores
  by_cases c1 : (!(ts.length == 2 || ts.length == 3) || vs.length != ts.length || env.blockKind != .function) = true
  · exact if_pos c1
  · refine (if_neg c1).trans ?_
    by_cases c2 : (vs.any fun | .Starred .. => true | _ => false) = true
    · exact if_pos c2
    · refine (if_neg c2).trans ?_
      refine if_pos ?_
      obtain ⟨x, hx, cx⟩ := List.any_eq_true.mp h
      rw [Bool.or_eq_true]
      left
      rw [bne_iff_ne]
      refine len_filterMap ⟨x, hx, ?_⟩
      cases x with
      | Name i p =>
        unfold capT at cx
        have : (env.kindOf i == some .local) = false := by
          show (env.scope.names.lookup i == some .local) = false
          cases hq : (env.scope.names.lookup i == some .local) with
          | false => rfl
          | true =>
            have cx' : (!(env.scope.names.lookup i == some .local)) = true := cx
            rw [hq] at cx'
            cases cx'
        simp only [this, Bool.false_and]
        rfl
      | _ => rfl
theorem notStar_false {e : Expr} (h : notStar e = true) : ∀ v p, e = .Starred v p → False := by
  intro v p he
  subst he
  cases h
theorem sw_two {env : Env} {x y : Str} {px py pt pt2 : Pos} {kt k2} {a b : Expr} (hp : parB env.scope [(x, px), (y, py)] [a, b] = true) (hxy : x ≠ y) (ha : notStar a = true) (hb : notStar b = true) :
    env.scope.names.lookup x = some .local ∧ env.scope.names.lookup y = some .local ∧ swappedStores [.Tuple [.Name x px, .Name y py] kt pt] (.Tuple [a, b] k2 pt2) env = pure (some [x, y]) := by
  simp only [parB, Bool.and_eq_true, List.all_cons, List.all_nil, beq_iff_eq, Bool.not_eq_true', and_true] at hp
  obtain ⟨⟨⟨⟨h1, h2, h3⟩, h4⟩, h5⟩, h6⟩ := hp
  refine ⟨h2, h3, ?_⟩
  have k1 : env.kindOf x = some .local := h2
  have k2 : env.kindOf y = some .local := h3
  have bk : env.blockKind = .function := by unfold Env.blockKind; rw [h1]; rfl
  have ed : [x, y].eraseDups.length = 2 := by
    have : (y == x) = false := by simpa using fun e => hxy e.symm
    simp [List.eraseDups_cons, this]
  have f5 : ([a, b].all (foldedForSure 8)) = false := by simpa using h5
  have f6 : ([a, b].all (constantsAlone 8)) = false := by simpa using h6
  have p0 : (Expr.Name x px).pos.line = px.line := rfl
  unfold swappedStores
  refine (if_neg (by rw [bk]; simp)).trans ((if_neg fun h => ?_).trans ?_)
  · simp only [List.any_cons, List.any_nil, Bool.or_false, Bool.or_eq_true] at h
    rcases h with h | h
    · split at h
      · exact notStar_false ha _ _ rfl
      · cases h
    · split at h
      · exact notStar_false hb _ _ rfl
      · cases h
  · have e1 : (Expr.Name x px).pos = px := rfl
    simp only [List.filterMap_cons, List.filterMap_nil, List.head?_cons, Option.map_some, Option.getD_some, e1, k1, k2, h4, beq_self_eq_true, Bool.and_self, if_true]
    refine (if_neg (by rw [ed]; simp)).trans ((if_neg (by rw [f5]; simp)).trans ((if_neg (by rw [f6]; simp)).trans rfl))
theorem sw_three {env : Env} {x y z : Str} {px py pz pt pt2 : Pos} {kt k2} {a b c : Expr} (hp : parB env.scope [(x, px), (y, py), (z, pz)] [a, b, c] = true) (hxy : x ≠ y) (hxz : x ≠ z) (hyz : y ≠ z) (ha : notStar a = true) (hb : notStar b = true) (hc : notStar c = true) :
    env.scope.names.lookup x = some .local ∧ env.scope.names.lookup y = some .local ∧ env.scope.names.lookup z = some .local ∧ swappedStores [.Tuple [.Name x px, .Name y py, .Name z pz] kt pt] (.Tuple [a, b, c] k2 pt2) env = pure (some [x, y, z]) := by
  simp only [parB, Bool.and_eq_true, List.all_cons, List.all_nil, beq_iff_eq, Bool.not_eq_true', and_true] at hp
  obtain ⟨⟨⟨⟨h1, h2, h3, h3'⟩, h4, h4'⟩, h5⟩, h6⟩ := hp
  refine ⟨h2, h3, h3', ?_⟩
  have k1 : env.kindOf x = some .local := h2
  have k2 : env.kindOf y = some .local := h3
  have k3 : env.kindOf z = some .local := h3'
  have bk : env.blockKind = .function := by unfold Env.blockKind; rw [h1]; rfl
  have ed : [x, y, z].eraseDups.length = 3 := by
    have e1 : (y == x) = false := by simpa using fun e => hxy e.symm
    have e2 : (z == x) = false := by simpa using fun e => hxz e.symm
    have e3 : (z == y) = false := by simpa using fun e => hyz e.symm
    simp [List.eraseDups_cons, e1, e2, e3]
  have f5 : ([a, b, c].all (foldedForSure 8)) = false := by simpa using h5
  have f6 : ([a, b, c].all (constantsAlone 8)) = false := by simpa using h6
  have p0 : (Expr.Name x px).pos.line = px.line := rfl
  unfold swappedStores
  refine (if_neg (by rw [bk]; simp)).trans ((if_neg fun h => ?_).trans ?_)
  · simp only [List.any_cons, List.any_nil, Bool.or_false, Bool.or_eq_true] at h
    rcases h with h | h | h
    · split at h
      · exact notStar_false ha _ _ rfl
      · cases h
    · split at h
      · exact notStar_false hb _ _ rfl
      · cases h
    · split at h
      · exact notStar_false hc _ _ rfl
      · cases h
  · have e1 : (Expr.Name x px).pos = px := rfl
    simp only [List.filterMap_cons, List.filterMap_nil, List.head?_cons, Option.map_some, Option.getD_some, e1, k1, k2, k3, h4, h4', beq_self_eq_true, Bool.and_self, if_true]
    refine (if_neg (by rw [ed]; simp)).trans ((if_neg (by rw [f5]; simp)).trans ((if_neg (by rw [f6]; simp)).trans rfl))
section
variable {X : Cx} {k : Nat} {cf : CF} {fn : List (Nat × Str)} {S : SC}
theorem notSlice_ix {e : Expr} (h : notSlice e = true) : PlainIx e := by
  intro o i
  cases e <;> first | rfl | cases h
theorem notSet_mark {e : Expr} {op : CmpOp} (h : notSet e = true) : behindInMarks op e = false := by cases e <;> first | rfl | cases h
theorem notSet_last {b c : Expr} {op op' : CmpOp} (h : notSet c = true) : lastMarks [op, op'] [b, c] = false := by
  show behindInMarks op' c = false
  exact notSet_mark h
theorem notSet_fold {e : Expr} {env : Env} (h : notSet e = true) : ∀ x, foldedSetIterable e env x = pure x := by
  intro x
  cases e <;> first | rfl | cases h
/-- the block of a comprehension is good, too -/
theorem Gd.blk (G : Gd X k cf fn S) (scope : Scope) (hu : ∀ y ∈ scope.names, scope.names.lookup y.1 = some y.2) (s : Shared) (H : Hp) (C : Addr) (cl : List (Str × Addr)) (fp : List Addr) :
    Gd (X.blk s H scope (compEnvC scope cl C X.env) fp) k cf fn ⟨relS scope S.sc, some (scope.names.filterMap fun p => if p.2 == .cell then some p.1 else none)⟩ where
  calm := G.calm
  nd := G.nd
  room := G.room
  gd := G.gd
  sc := by
    show relabel scope X.env = relS scope S.sc
    rw [← G.sc]
    rfl
  fnk := fun x h => by
    show (scope.names.lookup x == some .cell) = true
    have h : (scope.names.filterMap fun p => if p.2 == .cell then some p.1 else none).contains x = true := h
    rw [List.contains_iff_mem, List.mem_filterMap] at h
    obtain ⟨⟨y, kd⟩, h1, h2⟩ := h
    split at h2
    · rename_i h3
      cases h2
      have := hu _ h1
      have h3 : kd = .cell := by simpa using h3
      rw [this, h3]
      rfl
    · cases h2
  po := PassesOwn.never
  blt := G.blt
  fns := G.fns

theorem chkEs_len {N : List Str} : ∀ {ms : MEs} {es : List Expr}, chkEs N fn S ms es = true → (ms = .nil ↔ es = [])
  | .nil, es, h => by
    unfold chkEs at h
    cases es with
    | nil => exact ⟨fun _ => rfl, fun _ => rfl⟩
    | cons _ _ => cases h
  | .cons m ms, es, h => by
    unfold chkEs at h
    cases es with
    | nil => cases h
    | cons e es => exact ⟨fun e => (by cases e), fun e => (by cases e)⟩
/-- a plain expression's test is its value's truth -/
def plainB : ME → Bool
  | .not _ => false
  | .and _ => false
  | .or _ => false
  | .cmp _ _ _ => false
  | .chain _ _ _ _ _ => false
  | _ => true
theorem plain_test {N : List Str} {m : ME} {e : Expr} (h : chkE N fn S m e = true) (hp : plainB m = true) (hi : notIf e = true) (env : Env) : ∀ whole, isTrue e env whole = (do let v ← whole; standAt e.pos; holding [v] (truthy v)) := by
  intro whole
  cases e with
  | IfExp _ _ _ _ => cases hi
  | UnaryOp op x p =>
    cases op with
    | Not => cases m <;> first | (unfold chkE at h; cases h; done) | (cases hp; done) | (unfold chkE at h; split at h <;> first | (cases h; done) | contradiction)
    | _ => rfl
  | BoolOp op xs p => cases m <;> first | (unfold chkE at h; cases h; done) | (cases hp; done) | (unfold chkE at h; split at h <;> first | (cases h; done) | contradiction)
  | Compare a ops cs p => cases m <;> first | (unfold chkE at h; cases h; done) | (cases hp; done) | (unfold chkE at h; split at h <;> first | (cases h; done) | contradiction)
  | _ => rfl
/-- a test from a value's rule, where it is plain -/
theorem t_plain {m : ME} {e : Expr} (h : chkE X.N fn S m e = true) (hp : plainB m = true) (hi : notIf e = true) (he : PE X e (tE X.K w0 (evE cf m))) : PT X e (tTs X.K w0 (fun σ M => (evE cf m σ M).bind truth)) := plain_of (plain_test h hp hi X.env) he
mutual
theorem sndE : ∀ (m : ME) {X : Cx} {S : SC} {e : Expr}, Gd X k cf fn S → chkE X.N fn S m e = true → PE X e (tE X.K w0 (evE cf m))
  | .var i, X, S, e, G, h => by
    unfold chkE at h
    split at h
    · simp only [Bool.and_eq_true, beq_iff_eq] at h
      obtain ⟨⟨h1, h2⟩, h3⟩ := h
      obtain ⟨d1, d2⟩ := nmB_of h3
      unfold evE
      exact s_var h1 (G.vis h2) d1 d2
    · cases h
  | .int i, X, S, e, G, h => by
    unfold chkE at h
    split at h
    · rw [decide_eq_true_eq] at h
      subst h
      unfold evE
      exact s_const pe_int fun _ _ => rep_int.mpr rfl
    · cases h
  | .bl b, X, S, e, G, h => by
    unfold chkE at h
    split at h
    · have h := beq_iff_eq.mp h
      subst h
      unfold evE
      exact s_const pe_bl fun _ _ => rep_bl.mpr rfl
    · cases h
  | .non, X, S, e, G, h => by
    unfold chkE at h
    split at h
    · unfold evE
      exact s_const pe_non fun _ _ => rep_non.mpr rfl
    · cases h
  | .str x, X, S, e, G, h => by
    unfold chkE at h
    split at h
    · rw [decide_eq_true_eq] at h
      subst h
      unfold evE
      exact s_const pe_str fun _ _ => rep_str.mpr rfl
    · cases h
  | .tup es, X, S, e, G, h => by
    unfold chkE at h
    split at h
    · unfold evE
      exact s_tup (sndEs es G h)
    · cases h
  | .lst es, X, S, e, G, h => by
    unfold chkE at h
    split at h
    · unfold evE
      exact s_lst (sndEs es G h)
    · cases h
  | .bin op a b, X, S, e, G, h => by
    unfold chkE at h
    split at h
    · simp only [Bool.and_eq_true, beq_iff_eq] at h
      obtain ⟨⟨rfl, h2⟩, h3⟩ := h
      unfold evE
      exact s_trim (s_bin (sndE a G h2) (sndE b G h3))
    · cases h
  | .neg a, X, S, e, G, h => by
    unfold chkE at h
    split at h
    · unfold evE
      exact s_neg (sndE a G h)
    · cases h
  | .not a, X, S, e, G, h => by
    unfold chkE at h
    split at h
    · simp only [Bool.and_eq_true] at h
      unfold evE
      exact s_trim (s_not (sndE a G h.1))
    · cases h
  | .cmp op a b, X, S, e, G, h => by
    unfold chkE at h
    split at h
    · simp only [Bool.and_eq_true, beq_iff_eq] at h
      obtain ⟨⟨⟨rfl, h2⟩, h3⟩, h4⟩ := h
      unfold evE
      exact s_trim (s_cmp G.hu (notSet_mark h4) (sndE a G h2) (sndE b G h3))
    · cases h
  | .chain op1 op2 a b c, X, S, e, G, h => by
    unfold chkE at h
    split at h
    · simp only [Bool.and_eq_true, beq_iff_eq] at h
      obtain ⟨⟨⟨⟨⟨⟨rfl, rfl⟩, h2⟩, h3⟩, h4⟩, h5⟩, h6⟩ := h
      unfold evE
      exact s_trim (s_chain G.hu (notSet_last h6) (sndE a G h2) (sndE b G h3) (sndE c G h4))
    · cases h
  | .and es, X, S, e, G, h => by
    unfold chkE at h
    split at h
    · simp only [Bool.and_eq_true] at h
      unfold evE
      exact sndAnd es G h.1
    · cases h
  | .or es, X, S, e, G, h => by
    unfold chkE at h
    split at h
    · simp only [Bool.and_eq_true] at h
      unfold evE
      exact sndOr es G h.1
    · cases h
  | .ife c a b, X, S, e, G, h => by
    unfold chkE at h
    split at h
    · simp only [Bool.and_eq_true] at h
      obtain ⟨⟨⟨h1, h2⟩, h3⟩, h4⟩ := h
      unfold evE
      exact s_ife (sndT c G h1 h4) (sndE a G h2) (sndE b G h3)
    · cases h
  | .ix a i, X, S, e, G, h => by
    unfold chkE at h
    split at h
    · simp only [Bool.and_eq_true] at h
      obtain ⟨⟨h1, h2⟩, h3⟩ := h
      unfold evE
      exact s_trim (s_ix (notSlice_ix h3) (sndE a G h1) (sndE i G h2))
    · cases h
  | .sl a lo hi, X, S, e, G, h => by
    unfold chkE at h
    split at h
    · simp only [Bool.and_eq_true] at h
      obtain ⟨⟨h1, h2⟩, h3⟩ := h
      unfold evE
      exact s_trim (s_sl (sndE a G h1) (sndO lo G h2) (sndO hi G h3))
    · cases h
  | .stp a st, X, S, e, G, h => by
    unfold chkE at h
    split at h
    · simp only [Bool.and_eq_true] at h
      unfold evE
      exact s_trim (s_stp (sndE a G h.1) (sndE st G h.2))
    · cases h
  | .call f args, X, S, e, G, h => by
    unfold chkE at h
    split at h
    · rename_i x p es pos
      simp only [Bool.and_eq_true, beq_iff_eq] at h
      obtain ⟨⟨⟨h1, h2⟩, h3⟩, h4⟩ := h
      have ha := sndEs args G h4
      have hst := chkEs_star h4
      unfold evE
      refine s_trim ?_
      cases es with
      | nil =>
        have e0 := (chkEs_len h4).mpr rfl
        subst e0
        unfold evEs
        exact s_call0 G h1 h2 h3
      | cons y ys => exact s_call G h1 h2 h3 hst ha
    · cases h
  | .bcall f args, X, S, e, G, h => by
    unfold chkE at h
    split at h
    · rename_i a x p1 y p2 z pos2 pos
      simp only [Bool.and_eq_true, beq_iff_eq] at h
      obtain ⟨⟨⟨⟨⟨h1, h2⟩, h3⟩, h4⟩, h5⟩, h6⟩ := h
      have := s_trim (s_listR1 (pos := pos) (p := p1) (p2 := p2) (pos2 := pos2) G h1 h2 h3 h4 h6 (sndE a G h5))
      unfold evE
      simp only [evEs]
      exact this
    · rename_i a x p1 y p2 z pos2 pos
      simp only [Bool.and_eq_true, beq_iff_eq] at h
      obtain ⟨⟨⟨⟨⟨h1, h2⟩, h3⟩, h4⟩, h5⟩, h6⟩ := h
      have := s_trim (s_tupR1 (pos := pos) (p := p1) (p2 := p2) (pos2 := pos2) G h1 h2 h3 h4 h6 (sndE a G h5))
      unfold evE
      simp only [evEs]
      exact this
    · rename_i a x p1 y p2 z pos2 pos
      simp only [Bool.and_eq_true, beq_iff_eq] at h
      obtain ⟨⟨⟨⟨⟨h1, h2⟩, h3⟩, h4⟩, h5⟩, h6⟩ := h
      have := s_trim (s_tupRev (pos := pos) (p := p1) (p2 := p2) (pos2 := pos2) G h1 h2 h3 h4 h6 (sndE a G h5))
      unfold evE
      simp only [evEs]
      exact this
    · rename_i f' args' x p es pos _ _ _
      simp only [Bool.and_eq_true, beq_iff_eq, decide_eq_true_eq] at h
      obtain ⟨⟨⟨h1, h2⟩, h3⟩, h4⟩ := h
      have ha := sndEs args G h3
      have hst := chkEs_star h3
      unfold evE
      cases es with
      | nil => exact absurd h4 (by simp)
      | cons y ys => exact s_trim (s_bcall G h1 h2 hst ha)
    · cases h
  | .meth m o args, X, S, e, G, h => by
    unfold chkE at h
    split at h
    · rename_i x name apos es cpos
      simp only [Bool.and_eq_true, beq_iff_eq, decide_eq_true_eq] at h
      obtain ⟨⟨⟨⟨⟨h1, h2⟩, h3⟩, h4⟩, h5⟩, h6⟩ := h
      have ha := sndEs args G h3
      have hst := chkEs_star h3
      have ho := sndE o G h2
      unfold evE
      refine s_trim ?_
      cases es with
      | nil =>
        have e0 := (chkEs_len h3).mpr rfl
        subst e0
        unfold evEs
        exact s_meth0 G.hu h1 h4 (beq_iff_eq.mpr h5) ho
      | cons y ys => exact s_meth G.hu h1 h4 (beq_iff_eq.mpr h5) h6 hst ho ha
    · cases h
  | .isi a ts tup, X, S, e, G, h => by
    unfold chkE at h
    split at h
    · simp only [Bool.and_eq_true, beq_iff_eq] at h
      obtain ⟨⟨⟨⟨⟨h0, h1⟩, h2⟩, h3⟩, h4⟩, h5⟩ := h
      subst h0
      unfold evE
      exact s_trim (s_isiT G h1 h2 h4 h5 (sndE a G h3))
    · simp only [Bool.and_eq_true, beq_iff_eq] at h
      obtain ⟨⟨⟨⟨⟨h0, h1⟩, h2⟩, h3⟩, h4⟩, h5⟩ := h
      have h0 : tup = false := by simpa using h0
      subst h0
      split at h5
      · simp only [Bool.and_eq_true, beq_iff_eq] at h5
        unfold evE
        exact s_trim (s_isi1 G h1 h2 h4 h5.1 h5.2 (sndE a G h3))
      · cases h5
    · cases h
  | .lc own g it cnd elt, X, S, e, G, h => by
    unfold chkE at h
    split at h
    · rename_i el tg iter ifs ia scope pos
      simp only [Bool.and_eq_true, decide_eq_true_eq] at h
      obtain ⟨⟨⟨⟨⟨⟨⟨h1, h2⟩, h3⟩, h4⟩, h5⟩, h6⟩, h7⟩, h8⟩ := h
      subst h1
      have ok := blkOk_by h2
      rw [← G.sc] at ok
      have GB := fun s H C cl fp => G.blk scope ok.uniq s H C cl fp
      have hG := fun s H C cl fp => pg_of (GB s H C cl fp) h6
      have hE := fun s H C cl fp => sndE elt (GB s H C cl fp) h8
      have hI := sndI it (g := g) G h4 fun ht => isTup_of h6 ht
      unfold evE
      cases cnd with
      | none =>
        cases ifs with
        | nil =>
          unfold evC
          exact s_lc (tt := tYes) G.calm G.nd hI ok hG (fun s H C cl fp => pts_nil) hE (fun mσ' σ' β' M' H' Q R Sl o => o.ok R) h3 (notSet_fold h5)
        | cons _ _ => cases h7
      | some c =>
        cases ifs with
        | nil => cases h7
        | cons x xs =>
          cases xs with
          | nil =>
            simp only [Bool.and_eq_true] at h7
            have hT := fun s H C cl fp => sndT c (GB s H C cl fp) h7.1 h7.2
            unfold evC
            exact s_lc (tt := tTs X.K w0 (fun σ M => (evE cf c σ M).bind truth)) G.calm G.nd hI ok hG (fun s H C cl fp => pts_one (hT s H C cl fp)) hE (fun mσ' σ' β' M' H' Q R Sl o => ⟨mσ', β', M', R, Sl, o⟩) h3 (notSet_fold h5)
          | cons _ _ => cases h7
    · cases h
theorem sndT : ∀ (m : ME) {X : Cx} {S : SC} {e : Expr}, Gd X k cf fn S → chkE X.N fn S m e = true → notIf e = true → PT X e (tTs X.K w0 (fun σ M => (evE cf m σ M).bind truth))
  | .not a, X, S, e, G, h, hi => by
    unfold chkE at h
    split at h
    · simp only [Bool.and_eq_true] at h
      unfold evE
      exact t_not (sndT a G h.1 h.2)
    · cases h
  | .cmp op a b, X, S, e, G, h, hi => by
    unfold chkE at h
    split at h
    · simp only [Bool.and_eq_true, beq_iff_eq] at h
      obtain ⟨⟨⟨rfl, h2⟩, h3⟩, h4⟩ := h
      unfold evE
      exact t_cmp G.hu (notSet_mark h4) (sndE a G h2) (sndE b G h3)
    · cases h
  | .chain op1 op2 a b c, X, S, e, G, h, hi => by
    unfold chkE at h
    split at h
    · simp only [Bool.and_eq_true, beq_iff_eq] at h
      obtain ⟨⟨⟨⟨⟨⟨rfl, rfl⟩, h2⟩, h3⟩, h4⟩, h5⟩, h6⟩ := h
      unfold evE
      exact t_chain G.hu (notSet_last h6) (sndE a G h2) (sndE b G h3) (sndE c G h4)
    · cases h
  | .and es, X, S, e, G, h, hi => by
    unfold chkE at h
    split at h
    · simp only [Bool.and_eq_true] at h
      unfold evE
      exact (sndAndT es G h.1 h.2).pt
    · cases h
  | .or es, X, S, e, G, h, hi => by
    unfold chkE at h
    split at h
    · simp only [Bool.and_eq_true] at h
      unfold evE
      exact (sndOrT es G h.1 h.2).pt
    · cases h
  | .var i, X, S, e, G, h, hi => t_plain h rfl hi (sndE _ G h)
  | .int i, X, S, e, G, h, hi => t_plain h rfl hi (sndE _ G h)
  | .bl i, X, S, e, G, h, hi => t_plain h rfl hi (sndE _ G h)
  | .non, X, S, e, G, h, hi => t_plain h rfl hi (sndE _ G h)
  | .str i, X, S, e, G, h, hi => t_plain h rfl hi (sndE _ G h)
  | .tup i, X, S, e, G, h, hi => t_plain h rfl hi (sndE _ G h)
  | .lst i, X, S, e, G, h, hi => t_plain h rfl hi (sndE _ G h)
  | .bin op a b, X, S, e, G, h, hi => t_plain h rfl hi (sndE _ G h)
  | .neg a, X, S, e, G, h, hi => t_plain h rfl hi (sndE _ G h)
  | .ife a b c, X, S, e, G, h, hi => t_plain h rfl hi (sndE _ G h)
  | .ix a b, X, S, e, G, h, hi => t_plain h rfl hi (sndE _ G h)
  | .sl a b c, X, S, e, G, h, hi => t_plain h rfl hi (sndE _ G h)
  | .stp a st, X, S, e, G, h, hi => t_plain h rfl hi (sndE _ G h)
  | .call f a, X, S, e, G, h, hi => t_plain h rfl hi (sndE _ G h)
  | .bcall f a, X, S, e, G, h, hi => t_plain h rfl hi (sndE _ G h)
  | .meth f a b, X, S, e, G, h, hi => t_plain h rfl hi (sndE _ G h)
  | .isi f a b, X, S, e, G, h, hi => t_plain h rfl hi (sndE _ G h)
  | .lc a b c d f, X, S, e, G, h, hi => t_plain h rfl hi (sndE _ G h)
theorem sndEs : ∀ (ms : MEs) {X : Cx} {S : SC} {es : List Expr}, Gd X k cf fn S → chkEs X.N fn S ms es = true → PA X es (tAs X.K w0 (evEs cf ms))
  | .nil, X, S, es, G, h => by
    unfold chkEs at h
    cases es with
    | nil => unfold evEs; exact a_nil
    | cons _ _ => cases h
  | .cons m ms, X, S, es, G, h => by
    unfold chkEs at h
    cases es with
    | nil => cases h
    | cons e es =>
      simp only [Bool.and_eq_true] at h
      unfold evEs
      exact a_cons h.1.2 (sndE m G h.1.1) (sndEs ms G h.2)
theorem sndAnd : ∀ (ms : MEs) {X : Cx} {S : SC} {es : List Expr} {pos : Pos}, Gd X k cf fn S → chkEs X.N fn S ms es = true → PE X (.BoolOp .And es pos) (tE X.K w0 (evAnd cf ms))
  | .nil, X, S, es, pos, G, h => by
    unfold evAnd
    exact ⟨fun pins s σ H Q I q => by obtain ⟨_, _, _, _, _, o⟩ := q; exact o.elim⟩
  | .cons m .nil, X, S, es, pos, G, h => by
    unfold chkEs at h
    cases es with
    | nil => cases h
    | cons e es =>
      simp only [Bool.and_eq_true] at h
      have e0 := (chkEs_len h.2).mp rfl
      subst e0
      unfold evAnd
      exact pe_one (sndE m G h.1.1)
  | .cons m (.cons m' ms), X, S, es, pos, G, h => by
    unfold chkEs at h
    cases es with
    | nil => cases h
    | cons e es =>
      simp only [Bool.and_eq_true] at h
      cases es with
      | nil => exact absurd h.2 (by unfold chkEs; simp)
      | cons e' es =>
        unfold evAnd
        exact s_and (sndE m G h.1.1) (sndAnd (.cons m' ms) G h.2)
theorem sndOr : ∀ (ms : MEs) {X : Cx} {S : SC} {es : List Expr} {pos : Pos}, Gd X k cf fn S → chkEs X.N fn S ms es = true → PE X (.BoolOp .Or es pos) (tE X.K w0 (evOr cf ms))
  | .nil, X, S, es, pos, G, h => by
    unfold evOr
    exact ⟨fun pins s σ H Q I q => by obtain ⟨_, _, _, _, _, o⟩ := q; exact o.elim⟩
  | .cons m .nil, X, S, es, pos, G, h => by
    unfold chkEs at h
    cases es with
    | nil => cases h
    | cons e es =>
      simp only [Bool.and_eq_true] at h
      have e0 := (chkEs_len h.2).mp rfl
      subst e0
      unfold evOr
      exact pe_one (sndE m G h.1.1)
  | .cons m (.cons m' ms), X, S, es, pos, G, h => by
    unfold chkEs at h
    cases es with
    | nil => cases h
    | cons e es =>
      simp only [Bool.and_eq_true] at h
      cases es with
      | nil => exact absurd h.2 (by unfold chkEs; simp)
      | cons e' es =>
        unfold evOr
        exact s_or (sndE m G h.1.1) (sndOr (.cons m' ms) G h.2)
theorem sndAndT : ∀ (ms : MEs) {X : Cx} {S : SC} {es : List Expr} {pos : Pos}, Gd X k cf fn S → chkEs X.N fn S ms es = true → es.all notIf = true → PW X (.BoolOp .And es pos) (tTs X.K w0 (fun σ M => (evAnd cf ms σ M).bind truth))
  | .nil, X, S, es, pos, G, h, hi => by
    unfold evAnd
    exact ⟨fun wh pins s σ H Q I q => by obtain ⟨_, _, _, _, _, o⟩ := q; exact o.elim⟩
  | .cons m .nil, X, S, es, pos, G, h, hi => by
    unfold chkEs at h
    cases es with
    | nil => cases h
    | cons e es =>
      simp only [Bool.and_eq_true] at h
      have e0 := (chkEs_len h.2).mp rfl
      subst e0
      rw [List.all_cons, Bool.and_eq_true] at hi
      unfold evAnd
      exact pw_and1 (sndT m G h.1.1 hi.1)
  | .cons m (.cons m' ms), X, S, es, pos, G, h, hi => by
    unfold chkEs at h
    cases es with
    | nil => cases h
    | cons e es =>
      simp only [Bool.and_eq_true] at h
      rw [List.all_cons, Bool.and_eq_true] at hi
      cases es with
      | nil => exact absurd h.2 (by unfold chkEs; simp)
      | cons e' es =>
        unfold evAnd
        exact w_and (sndT m G h.1.1 hi.1) (sndAndT (.cons m' ms) G h.2 hi.2)
theorem sndOrT : ∀ (ms : MEs) {X : Cx} {S : SC} {es : List Expr} {pos : Pos}, Gd X k cf fn S → chkEs X.N fn S ms es = true → es.all notIf = true → PW X (.BoolOp .Or es pos) (tTs X.K w0 (fun σ M => (evOr cf ms σ M).bind truth))
  | .nil, X, S, es, pos, G, h, hi => by
    unfold evOr
    exact ⟨fun wh pins s σ H Q I q => by obtain ⟨_, _, _, _, _, o⟩ := q; exact o.elim⟩
  | .cons m .nil, X, S, es, pos, G, h, hi => by
    unfold chkEs at h
    cases es with
    | nil => cases h
    | cons e es =>
      simp only [Bool.and_eq_true] at h
      have e0 := (chkEs_len h.2).mp rfl
      subst e0
      rw [List.all_cons, Bool.and_eq_true] at hi
      unfold evOr
      exact pw_or1 (sndT m G h.1.1 hi.1)
  | .cons m (.cons m' ms), X, S, es, pos, G, h, hi => by
    unfold chkEs at h
    cases es with
    | nil => cases h
    | cons e es =>
      simp only [Bool.and_eq_true] at h
      rw [List.all_cons, Bool.and_eq_true] at hi
      cases es with
      | nil => exact absurd h.2 (by unfold chkEs; simp)
      | cons e' es =>
        unfold evOr
        exact w_or (sndT m G h.1.1 hi.1) (sndOrT (.cons m' ms) G h.2 hi.2)
theorem sndO : ∀ (m : MEo) {X : Cx} {S : SC} {e : Option Expr}, Gd X k cf fn S → chkO X.N fn S m e = true → PO X e (tOs X.K w0 (evO cf m))
  | .none, X, S, e, G, h => by
    unfold chkO at h
    cases e with
    | none => unfold evO; exact o_none
    | some _ => cases h
  | .some m, X, S, e, G, h => by
    unfold chkO at h
    split at h
    · unfold evO
      exact o_some (sndE m G h)
    · cases h
theorem sndI : ∀ (m : MI) {g : MG} {X : Cx} {S : SC} {tg e : Expr}, Gd X k cf fn S → chkI X.N fn S m (isTup tg) e = true → (isTup tg = true → (∃ gs, g = .tup gs) ∧ ∃ xs kk pp, tg = .Tuple xs kk pp) → PI X tg e (tI X.K w0 (evI cf m) g)
  | .seq m, g, X, S, tg, e, G, h, ht => by
    unfold chkI at h
    unfold evI
    exact i_seq (sndE m G h)
  | .range1 a, g, X, S, tg, e, G, h, ht => by
    unfold chkI at h
    split at h
    · simp only [Bool.and_eq_true, beq_iff_eq] at h
      obtain ⟨⟨⟨h1, h2⟩, h3⟩, h4⟩ := h
      unfold evI
      exact i_range1 G h1 h2 h4 (sndE a G h3)
    · cases h
  | .range2 a b, g, X, S, tg, e, G, h, ht => by
    unfold chkI at h
    split at h
    · simp only [Bool.and_eq_true, beq_iff_eq] at h
      obtain ⟨⟨⟨⟨⟨h1, h2⟩, h3⟩, h4⟩, h5⟩, h6⟩ := h
      unfold evI
      exact i_range2 G h1 h2 h5 h6 (sndE a G h3) (sndE b G h4)
    · cases h
  | .enum a, g, X, S, tg, e, G, h, ht => by
    unfold chkI at h
    split at h
    · simp only [Bool.and_eq_true, beq_iff_eq] at h
      obtain ⟨⟨⟨⟨h0, h1⟩, h2⟩, h3⟩, h4⟩ := h
      unfold evI
      exact i_enum G h1 h2 h4 (ht h0).1 (ht h0).2 (sndE a G h3)
    · cases h
  | .zip a b, g, X, S, tg, e, G, h, ht => by
    unfold chkI at h
    split at h
    · simp only [Bool.and_eq_true, beq_iff_eq] at h
      obtain ⟨⟨⟨⟨⟨⟨h0, h1⟩, h2⟩, h3⟩, h4⟩, h5⟩, h6⟩ := h
      unfold evI
      exact i_zip G h1 h2 h5 h6 (ht h0).1 (ht h0).2 (sndE a G h3) (sndE b G h4)
    · cases h
end
end
end Mn
end
section
set_option Elab.async false
set_option linter.all false
set_option maxRecDepth 100000
set_option maxHeartbeats 4000000
namespace Mn
open PySem PySem.Spec PyProof.Rows L2
section
variable {X : Cx} {k : Nat} {cf : CF} {fn : List (Nat × Str)} {S : SC}
theorem sw_notComp {v : Expr} {t : Option Expr} {l : Nat} {env : Env} (h : notComp v = true) : swapsWith v t l env = pure false := by
  cases v <;> first | rfl | cases h
theorem swS_notComp {t v : Expr} {l : Nat} {env : Env} (h : notComp v = true) : swapsWithSole [t] v l env = pure false := sw_notComp h
theorem sw_falseLc {el : Expr} {gs : List Comprehension} {scope : Scope} {pos px : Pos} {x : Str} {l : Nat} {env : Env} (h : (env.scope.names.lookup x == some .local && (px.line == pos.line) && !(scope.names.any fun (n, k) => n == x && (k == .local || k == .cell))) = false) :
    swapsWith (.ListComp el gs scope pos) (some (.Name x px)) l env = pure false := by
  have h2 : (env.blockKind == .function && env.kindOf x == some .local && px.line == pos.line && !(scope.names.any fun (n, k) => n == x && (k == .local || k == .cell))) = false := by
    have e : env.kindOf x = env.scope.names.lookup x := rfl
    rw [e]
    cases h1 : (env.blockKind == ScopeKind.function)
    · rfl
    · simpa [Bool.true_and] using h
  unfold swapsWith
  show (pure (env.blockKind == .function && env.kindOf x == some .local && px.line == pos.line && !(scope.names.any fun (n, k) => n == x && (k == .local || k == .cell))) : Sem Bool) = pure false
  rw [h2]
theorem st_asgLc {own : List Nat} {g : MG} {elt tg iter : Expr} {ifs : List Expr} {scope : Scope} {pos py spos : Pos} {i : Nat} {y : Str} {evI : Mn.St → Mem → Res Src} {cnd : Option Mn.Ev} {tt : TT} {ee : Mn.Ev}
    (hc0 : X.calm = true) (hN : X.N.Nodup) (hy : X.N[i]? = some y) (hyl : X.env.scope.names.lookup y = some .local)
    (hsw : swapsWith (.ListComp elt [⟨tg, iter, ifs, 0⟩] scope pos) (some (.Name y py)) spos.line X.env = pure true) (hI : PI X tg iter (tI X.K w0 evI g)) (ok : BlkOk X.N X.env.scope scope (ownP X.N own))
    (hG : ∀ (s : Shared) (H : Hp) (C : Addr) (cl : List (Str × Addr)) (fp : List Addr), PG (X.blk s H scope (compEnvC scope cl C X.env) fp) tg (gT X.K g))
    (hT : ∀ (s : Shared) (H : Hp) (C : Addr) (cl : List (Str × Addr)) (fp : List Addr), PTs (X.blk s H scope (compEnvC scope cl C X.env) fp) ifs tt)
    (hE : ∀ (s : Shared) (H : Hp) (C : Addr) (cl : List (Str × Addr)) (fp : List Addr), PE (X.blk s H scope (compEnvC scope cl C X.env) fp) elt (tE X.K w0 ee))
    (hc : ∀ mσ' σ' β' M' H' (Q : Bool → Hp → Prop), RelH X.K β' M' H' → RelS X.K H' β' mσ' σ' → Out X.K β' M' H' (match cnd with | none => Res.ok true M' | some c => (c mσ' M').bind truth) (kB Q) (fun _ _ _ _ => False) → tt σ' H' Q)
    (hg : g.slots.all (fun i => own.contains i) = true) (hs : ∀ x, foldedSetIterable iter X.env x = pure x) :
    PS X (.Assign [.Name y py] (.ListComp elt [⟨tg, iter, ifs, 0⟩] scope pos) spos) (tSt X.K (fun σ M => (trim M ((evI σ M).bind fun s M1 => lcRun own g cnd ee σ s M1)).bind fun v M1 => .ok (.next (σ.set i (some v))) M1)) := by
  refine PS.imp (ps_setLc hc0 hN hy hyl hsw hI ok hG hT hE hs) fun D σ H h => ?_
  have e : (ownP X.N own).map (·.2) = own := by
    unfold ownP
    rw [List.map_map]
    exact List.map_id' own
  rw [e]
  obtain ⟨mσ, β, M, R, Sl, o⟩ := h
  refine lc_read hc hg (oneT (w := w0) (ea := fun σ M => (evI σ M).bind fun s M1 => lcRun own g cnd ee σ s M1) R Sl o fun v y β1 M1 H1 s1 r1 S1 o1 => ?_)
  exact o1.ok s1.rel _ (S1.set r1)
theorem assign_sub {o i : Expr} {pos : Pos} {env : Env} (h : notSlice i = true) : ∀ v, assign (.Subscript o i pos) env v = (do
      let ov ← holding [v] (eval o env)
      let iv ← holding [v, ov] (eval i env)
      standAt pos
      holding [v, ov, iv] (setItem ov iv v)
      release [v, ov, iv] []) := by
  intro v
  cases i <;> first | rfl | cases h
mutual
theorem sndS : ∀ (m : MS) {X : Cx} {S : SC} {st : Stmt}, Gd X k cf fn S → X.env.scope.kind = .function → chkS X.N fn S m st = true → PS X st (tSt X.K (evS cf m))
  | .asg i e, X, S, st, G, hk, h => by
    unfold chkS at h
    split at h
    · rename_i x px v pos
      simp only [Bool.and_eq_true, beq_iff_eq] at h
      obtain ⟨⟨⟨h1, h2⟩, h3⟩, h4⟩ := h
      unfold evS
      cases hv : notComp v with
      | true => exact st_asg G.nd h1 (G.loc h2) (sw_notComp hv) (sndE e G h3)
      | false =>
        rw [hv, Bool.false_or] at h4
        cases v with
        | ListComp el gens scope pos2 =>
          cases hw : (X.env.scope.names.lookup x == some .local && (px.line == pos2.line) && !(scope.names.any fun (n, k) => n == x && (k == .local || k == .cell))) with
          | false => exact st_asg G.nd h1 (G.loc h2) (sw_falseLc hw) (sndE e G h3)
          | true =>
            simp only [Bool.and_eq_true, beq_iff_eq, Bool.not_eq_true'] at hw
            obtain ⟨⟨w1, w2⟩, w3⟩ := hw
            have hsw := fun l => sw_true (elt := el) (gs := gens) (l := l) hk w1 (beq_iff_eq.mpr w2) w3
            cases e with
            | lc own g it cnd elt =>
              unfold chkE at h3
              split at h3
              · rename_i el tg iter ifs ia scope pos e0
                cases e0
                simp only [Bool.and_eq_true, decide_eq_true_eq] at h3
                obtain ⟨⟨⟨⟨⟨⟨⟨q1, q2⟩, q3⟩, q4⟩, q5⟩, q6⟩, q7⟩, q8⟩ := h3
                subst q1
                have ok := blkOk_by q2
                rw [← G.sc] at ok
                have GB := fun s H C cl fp => G.blk scope ok.uniq s H C cl fp
                have hG := fun s H C cl fp => pg_of (GB s H C cl fp) q6
                have hE := fun s H C cl fp => sndE elt (GB s H C cl fp) q8
                have hI := sndI it (g := g) G q4 fun ht => isTup_of q6 ht
                unfold evE
                cases cnd with
                | none =>
                  cases ifs with
                  | nil =>
                    unfold evC
                    exact st_asgLc (tt := tYes) G.calm G.nd h1 w1 (hsw _) hI ok hG (fun s H C cl fp => pts_nil) hE (fun mσ' σ' β' M' H' Q R Sl o => o.ok R) q3 (notSet_fold q5)
                  | cons _ _ => cases q7
                | some c =>
                  cases ifs with
                  | nil => cases q7
                  | cons x xs =>
                    cases xs with
                    | nil =>
                      simp only [Bool.and_eq_true] at q7
                      have hT := fun s H C cl fp => sndT c (GB s H C cl fp) q7.1 q7.2
                      unfold evC
                      exact st_asgLc (tt := tTs X.K w0 (fun σ M => (evE cf c σ M).bind truth)) G.calm G.nd h1 w1 (hsw _) hI ok hG (fun s H C cl fp => pts_one (hT s H C cl fp)) hE (fun mσ' σ' β' M' H' Q R Sl o => ⟨mσ', β', M', R, Sl, o⟩) q3 (notSet_fold q5)
                    | cons _ _ => cases q7
              · cases h3
            | bcall f args => unfold chkE at h3; split at h3 <;> first | (cases h3; done) | contradiction
            | _ => unfold chkE at h3; cases h3
        | _ => cases h4
    · cases h
  | .asgT g e, X, S, st, G, hk, h => by
    unfold chkS at h
    split at h
    · rename_i ts kk pt v pos
      simp only [Bool.and_eq_true] at h
      obtain ⟨⟨⟨h1, h2⟩, h3⟩, h4⟩ := h
      unfold evS
      refine st_asgT (pg_of G h1) (swS_notComp h3) ?_ (sndE e G h2)
      rw [Bool.or_eq_true] at h4
      rcases h4 with h4 | h4
      · cases v <;> first | rfl | cases h4
      · rw [← G.sc] at h4
        cases v <;> first | exact sw_cap h4 | rfl
    · cases h
  | .par i j es, X, S, st, G, hk, h => by
    unfold chkS at h
    split at h
    · simp only [Bool.and_eq_true, beq_iff_eq, decide_eq_true_eq] at h
      obtain ⟨⟨⟨⟨⟨h1, h2⟩, h3⟩, h4⟩, h5⟩, h6⟩ := h
      unfold evS
      rw [← G.sc] at h5
      have hst := chkEs_star h6
      simp only [List.all_cons, List.all_nil, Bool.and_eq_true, and_true] at hst
      obtain ⟨l1, l2, l3⟩ := sw_two h5 h4 hst.1 hst.2
      exact st_par G.calm G.nd h1 h2 h3 l1 l2 l3 (sndEs es G h6)
    · cases h
  | .par3 i j l es, X, S, st, G, hk, h => by
    unfold chkS at h
    split at h
    · simp only [Bool.and_eq_true, beq_iff_eq, decide_eq_true_eq] at h
      obtain ⟨⟨⟨⟨⟨⟨⟨⟨⟨⟨h1, h2⟩, h2'⟩, h3⟩, h3'⟩, h3''⟩, h4⟩, h4'⟩, h4''⟩, h5⟩, h6⟩ := h
      unfold evS
      rw [← G.sc] at h5
      have hst := chkEs_star h6
      simp only [List.all_cons, List.all_nil, Bool.and_eq_true, and_true] at hst
      obtain ⟨l1, l2, l2', l3⟩ := sw_three h5 h4 h4' h4'' hst.1 hst.2.1 hst.2.2
      exact st_par3 G.calm G.nd h1 h2 h2' h3 h3' h3'' l1 l2 l2' l3 (sndEs es G h6)
    · cases h
  | .setix o i e, X, S, st, G, hk, h => by
    unfold chkS at h
    split at h
    · simp only [Bool.and_eq_true] at h
      obtain ⟨⟨⟨⟨h1, h2⟩, h3⟩, h4⟩, h5⟩ := h
      unfold evS
      exact st_setix (swS_notComp h5) rfl (pg_sub (sndE o G h1) (sndE i G h2) set_okM (assign_sub h4)) (sndE e G h3)
    · cases h
  | .expr e, X, S, st, G, hk, h => by
    unfold chkS at h
    split at h
    · simp only [Bool.and_eq_true] at h
      unfold evS
      exact st_expr (sw_notComp h.2) (sndE e G h.1)
    · cases h
  | .ret e, X, S, st, G, hk, h => by
    unfold chkS at h
    split at h
    · unfold evS
      exact st_ret (sndE e G h)
    · cases h
  | .ife c a b, X, S, st, G, hk, h => by
    unfold chkS at h
    split at h
    · simp only [Bool.and_eq_true] at h
      obtain ⟨⟨⟨h1, h2⟩, h3⟩, h4⟩ := h
      unfold evS
      exact st_if (sndT c G h1 h2) (sndSs a G hk h3) (sndSs b G hk h4)
    · cases h
  | .for_ g it b, X, S, st, G, hk, h => by
    unfold chkS at h
    split at h
    · simp only [Bool.and_eq_true] at h
      obtain ⟨⟨⟨h1, h2⟩, h3⟩, h4⟩ := h
      unfold evS
      exact st_for G.po G.calm (sndI it G h2 fun ht => isTup_of h1 ht) (pg_of G h1) (sndSs b G hk h3) (notSet_fold h4)
    · cases h
  | .while_ c b, X, S, st, G, hk, h => by
    unfold chkS at h
    split at h
    · simp only [Bool.and_eq_true] at h
      obtain ⟨⟨h1, h2⟩, h3⟩ := h
      unfold evS
      exact st_while G.po (sndT c G h1 h2) (sndSs b G hk h3)
    · cases h
  | .pass, X, S, st, G, hk, h => by
    unfold chkS at h
    split at h
    · unfold evS; exact st_pass
    · cases h
  | .brk, X, S, st, G, hk, h => by
    unfold chkS at h
    split at h
    · unfold evS; exact st_brk
    · cases h
  | .cont, X, S, st, G, hk, h => by
    unfold chkS at h
    split at h
    · unfold evS; exact st_cont
    · cases h
theorem sndSs : ∀ (ms : MSs) {X : Cx} {S : SC} {ss : List Stmt}, Gd X k cf fn S → X.env.scope.kind = .function → chkSs X.N fn S ms ss = true → PSs X ss (tSt X.K (evSs cf ms))
  | .nil, X, S, ss, G, hk, h => by
    unfold chkSs at h
    cases ss with
    | nil => unfold evSs; exact st_nil
    | cons _ _ => cases h
  | .cons m ms, X, S, ss, G, hk, h => by
    unfold chkSs at h
    cases ss with
    | nil => cases h
    | cons s ss =>
      simp only [Bool.and_eq_true] at h
      unfold evSs
      exact st_cons (sndS m G hk h.1) (sndSs ms G hk h.2)
end
end

/-! ### defs -/
/-- a def of the text, told small -/
structure FD where
  id : Nat
  name : Str
  st : Stmt
  N : List Str
  ps : List Str
  fn : Fn
/-- the look at a def -/
def chkD (names : List (Nat × Str)) (d : FD) : Bool :=
  (match (defScope d.st).kind with | .function => true | _ => false) && !(defScope d.st).isCoroutine && !(defScope d.st).isGenerator && decide d.N.Nodup && (d.N.take d.ps.length == d.ps) &&
    d.ps.all (fun x => match (defScope d.st).names.lookup x with | some .local => true | some .cell => true | _ => false) && (defScope d.st).names.all (fun y => y.2 != .free) &&
    (d.fn.np == d.ps.length) && (d.fn.nn == d.N.length) && chkSs d.N names ⟨defScope d.st, none⟩ d.fn.body (defBody d.st)
theorem chkD_scope {names : List (Nat × Str)} {d : FD} (h : chkD names d = true) : FnScope d.N d.ps (defScope d.st) ∧ d.fn.np = d.ps.length ∧ d.fn.nn = d.N.length ∧ chkSs d.N names ⟨defScope d.st, none⟩ d.fn.body (defBody d.st) = true := by
  unfold chkD at h
  simp only [Bool.and_eq_true, beq_iff_eq, decide_eq_true_eq, Bool.not_eq_true'] at h
  obtain ⟨⟨⟨⟨⟨⟨⟨⟨⟨h1, h2⟩, h3⟩, h4⟩, h5⟩, h6⟩, h7⟩, h8⟩, h9⟩, h10⟩ := h
  refine ⟨⟨?_, h2, h3, h4, h5, fun x hx => ?_, fun y hy => ?_⟩, h8, h9, h10⟩
  · split at h1
    · assumption
    · cases h1
  · have := List.all_eq_true.mp h6 x hx
    split at this
    · rename_i e; exact .inl e
    · rename_i e; exact .inr e
    · cases this
  · have := List.all_eq_true.mp h7 y hy
    simpa using this
/-- where a def stands, and how it binds -/
structure DefAt (K : PySem.W.Frag) (mg : Str → Option Value) (d : FD) (fa : Addr) (fd : FuncData) : Prop where
  fu : Fun K d.name d.name d.st fa fd
  gl : mg d.name = some (.ref fa)
  bi : Binds K fd d.ps []
section
variable {P : Program} {w : World} {K : PySem.W.Frag} {mg : Str → Option Value} {base : Heap}
theorem start_rel {H : Hp} {β : List Addr} {N : List Str} {pvs : List PV} {vs : List V} (r : Reps K H β pvs vs) : RelS K H β (startσ N.length pvs) (L2.start N vs) := by
  have hl := r.length
  refine ⟨?_, fun i v e => ?_⟩
  · unfold startσ L2.start
    rw [List.length_append, List.length_append, List.length_map, List.length_map, List.length_replicate, List.length_replicate, hl]
  · unfold startσ at e
    by_cases hi : i < pvs.length
    · rw [List.getElem?_append_left (by rw [List.length_map]; exact hi), List.getElem?_map, Option.map_eq_some_iff] at e
      obtain ⟨p, e1, e2⟩ := e
      cases e2
      obtain ⟨x, e3, r3⟩ := r.get e1
      refine ⟨x, ?_, r3⟩
      unfold L2.start
      rw [List.getElem?_append_left (by rw [List.length_map, ← hl]; exact hi), List.getElem?_map, e3]
      rfl
    · rw [List.getElem?_append_right (by rw [List.length_map]; omega), List.getElem?_replicate] at e
      split at e <;> cases e
/-- the body's end from the def's -/
theorem end_out {β : List Addr} {M : Mem} {H : Hp} {r : Res Flow} {Q : VK} (R : RelH K β M H) (o : Out K β M H (endOf M r) (kQ K Q) (fun _ _ _ _ => False)) : Out K β M H r (kS K { nx := fun _ H' => Q .non H', rt := Q }) (fun _ _ _ _ => False) := by
  cases r with
  | ok fl M1 =>
    intro β1 H1 s
    have key : ∀ v x, Out K β M H (trimV M v M1) (kQ K Q) (fun _ _ _ _ => False) → Rep K H1 β1 v x → Q x H1 := fun v x o rx => by
      obtain ⟨v', β2, M2, e, t, hr⟩ := trim_ok R s v
      rw [e] at o
      exact o β2 H1 t x (hr x rx)
    cases fl with
    | next mσ => exact fun σ _ => key .non .non o (rep_non.mpr rfl)
    | ret v => exact fun x rx => key v x o rx
    | brk mσ => exact o.elim
    | cont mσ => exact o.elim
  | exc v M1 => exact o
  | stuck => exact o
/-- the names and the bodies of the defs -/
def nms (ds : List FD) : List (Nat × Str) := ds.map fun d => (d.id, d.name)
def fns (ds : List FD) : List (Nat × Fn) := ds.map fun d => (d.id, d.fn)
theorem lookup_at {α : Type} (h : FD → α) (f : Nat) : ∀ {ds : List FD} {x : α}, (ds.map fun d => (d.id, h d)).lookup f = some x → ∃ d, ds.find? (fun d => f == d.id) = some d ∧ h d = x
  | [], x, e => by cases e
  | d :: ds, x, e => by
    rw [List.map_cons, List.lookup_cons] at e
    rw [List.find?_cons]
    cases hf : f == d.id with
    | true => rw [hf] at e; cases e; exact ⟨d, rfl, rfl⟩
    | false => rw [hf] at e; exact lookup_at h f e
theorem lookup_of {α : Type} (h : FD → α) (f : Nat) : ∀ {ds : List FD} {d : FD}, ds.find? (fun d => f == d.id) = some d → (ds.map fun d => (d.id, h d)).lookup f = some (h d)
  | [], d, e => by cases e
  | c :: ds, d, e => by
    rw [List.map_cons, List.lookup_cons]
    rw [List.find?_cons] at e
    cases hf : f == c.id with
    | true => rw [hf] at e; cases e; rfl
    | false => rw [hf] at e; exact lookup_of h f e
/-- a def by its body, where nothing is being shown -/
theorem FnG.of_body {x qual : Str} {st : Stmt} {fa : Addr} {fd : FuncData} {N ps : List Str} {k : Nat} {sp : Sp} (F : Fun K x qual st fa fd) (S : FnScope N ps (defScope st)) (hlen : ∀ xs H Q E, sp xs H Q E → xs.length = ps.length)
    (hbody : ∀ (cdv : Value) (B : Around) (out : List Env) (s : Shared) (H : Hp) (xs : List V) (Q : VK) (E : XK), Room k (B.deeper (envOfC qual (defScope st) s.heap.objs.size fa cdv)) → B.guards = some [] → sp xs H Q E →
      ∃ t, PSs (cxOf CX0 P w K mg base N qual (defScope st) fa cdv B out s H E).nox (defBody st) t ∧ t { nx := fun _ H' => Q .non H', rt := Q } (L2.start N xs) H) : FnG P w K mg base (k + 1) fa fd ps sp := by
  obtain ⟨oc, od, kV, doc, pm, an, cdv, ct, osl, rfl, lk, hcd⟩ := F.ex
  refine ⟨hlen, fun B out s H as us xs Q E hr hg e0 hb r hsp => ?_⟩
  have hl := hlen _ _ _ _ hsp
  have kin : K.In s.heap := e0.mod.kin.keeps fun b o e => (e0.bs b o e).1
  have nol : s.heap.NoLimit := e0.mod.nolimit.keeps fun b o e => (e0.bs b o e).1
  have hk : ∀ y ∈ ps.zip us, (defScope st).names.lookup y.1 = some .local ∨ ((defScope st).names.lookup y.1 = some .cell ∧ ((cellsFrom (s.heap.objs.size + 1) (defScope st).names []).lookup y.1).isSome = true) := by
    rintro ⟨n, v⟩ hy
    exact (S.par n (List.of_mem_zip hy).1).imp id fun q => ⟨q, PySem.W.cellsFrom_some _ _ _ (.inl q)⟩
  refine codeAny_call_function hr.depth (kin _ _ lk) rfl S.co S.gen rfl (PySem.W.codeRec_of kin hcd) (hb _ _ _ _ (wpAny_newFunctionEnv_cells S.kind hk fun env he s1 y => ?_))
  subst he
  refine ⟨nol.keeps y.toInCall.keep, codeAny_func ?_⟩
  obtain ⟨t, ht, hq⟩ := hbody cdv B out s H xs Q E (hr.deeper _) hg hsp
  have J : Inv (cxOf CX0 P w K mg base N qual (defScope st) fa cdv B out s H E) [] (L2.start N xs) H s1 := inv_start S hr.hd e0 hl r y
  refine wpAny_mono (ht.nox.run [] s1 (L2.start N xs) H _ J hq) (fun fl s' hs => ?_) fun e s' hs => hs
  match fl, hs with
  | .ret u, ⟨v, σ', H', J', rv, q⟩ => exact ⟨v, H', J'.os, J'.bare, J'.base, J'.hok, rv, q⟩
  | .next, ⟨σ', H', J', q⟩ => exact ⟨V.non, H', J'.os, J'.bare, J'.base, J'.hok, rfl, q⟩
  | .brk, ⟨_, _, _, q⟩ => exact q.elim
  | .cont, ⟨_, _, _, q⟩ => exact q.elim
/-- THE THEOREM: each def keeps what the evaluator says of it, at every depth -/
theorem all_fn (ds : List FD) (hc : ∀ d ∈ ds, chkD (nms ds) d = true) (hd : ∀ d ∈ ds, ∃ fa fd, DefAt K mg d fa fd) (hb : ∀ x ∈ bltNames, mg x = none) :
    ∀ (k : Nat) (f : Nat) (d : FD), ds.find? (fun d => f == d.id) = some d → ∀ fa fd, DefAt K mg d fa fd → FnG P w K mg base k fa fd d.ps (spM K (run (fns ds) k) f)
  | 0, f, d, hf, fa, fd, D => by
    refine ⟨fun vs H Q E h => ?_, fun A outer s H args us vs Q E hr hgd e0 hb r h => ?_⟩
    · obtain ⟨_, _, _, _, _, o⟩ := h
      exact o.elim
    · obtain ⟨_, _, _, _, _, o⟩ := h
      exact o.elim
  | k + 1, f, d, hf, fa, fd, D => by
    have ih := all_fn ds hc hd hb k
    obtain ⟨sc, np, nn, ck⟩ := chkD_scope (hc d (List.mem_of_find?_eq_some hf))
    have hfn : (fns ds).lookup f = some d.fn := lookup_of (·.fn) f hf
    have runE : ∀ pvs M, run (fns ds) (k + 1) f pvs M = if pvs.length = d.fn.np then endOf M (evSs (run (fns ds) k) d.fn.body (startσ d.fn.nn pvs) M) else .stuck := fun pvs M => by
      rw [run]
      simp only [hfn]
    refine .of_body D.fu sc (fun vs H Q E h => ?_) (fun cdv A outer s H vs Q E hr hgd h => ?_)
    · obtain ⟨pvs, β, M, R, r, o⟩ := h
      rw [runE] at o
      by_cases hl : pvs.length = d.fn.np
      · rw [← r.length, hl, np]
      · rw [if_neg hl] at o; exact o.elim
    · obtain ⟨pvs, β, M, R, r, o⟩ := h
      rw [runE] at o
      by_cases hl : pvs.length = d.fn.np
      · rw [if_pos hl] at o
        let X := (cxOf CX0 P w K mg base d.N d.name (defScope d.st) fa cdv A outer s H E).nox
        have G : Gd X k (run (fns ds) k) (nms ds) ⟨defScope d.st, none⟩ := {
          calm := rfl
          nd := sc.nd
          room := hr
          gd := hgd
          sc := rfl
          fnk := fun _ _ => rfl
          po := PassesOwn.never
          blt := hb
          fns := fun g x hx => by
            obtain ⟨d', e1, e2⟩ := lookup_at (·.name) g hx
            subst e2
            obtain ⟨fa', fd', D'⟩ := hd d' (List.mem_of_find?_eq_some e1)
            exact ⟨fa', fd', d'.ps, D'.gl, D'.fu.kp, D'.bi, ih g d' e1 fa' fd' D'⟩ }
        refine ⟨_, sndSs d.fn.body G sc.kind ck, startσ d.fn.nn pvs, β, M, R, ?_, end_out R o⟩
        rw [nn]
        exact start_rel r
      · rw [if_neg hl] at o; exact o.elim
end
end Mn
end
section
set_option Elab.async false
set_option linter.all false
set_option maxRecDepth 100000
set_option maxHeartbeats 4000000
namespace Mn
open PySem PySem.Spec PyProof.Rows L2
section
variable {K : PySem.W.Frag} {mg : Str → Option Value} {h : Heap}
/-- how a def binds -/
def BindsAs (d : FD) : Prop := ∀ (kV doc pm : Value) (an : Option Addr) (cdv ct : Value) (us : List Value), us.length = d.ps.length → bindArgs (PySem.W.fnOf d.name d.name (defArgs d.st) (defBody d.st) (defScope d.st) .none kV doc pm an cdv ct) ⟨us, []⟩ = pure (d.ps.zip us)
/-- what the top left of a def -/
def Left (K : PySem.W.Frag) (d : FD) : Prop := ∃ (f : Addr) (oc : Value) (od : Option Addr) (kV dc pm : Value) (an : Option Addr) (cd ct : Value) (sl : Array (Option Value)),
  PySem.W.nsIn K mainGlobals d.name = some (some (.ref f)) ∧ K.lookup f = some ⟨oc, od, .func (PySem.W.fnOf d.name d.name (defArgs d.st) (defBody d.st) (defScope d.st) .none kV dc pm an cd ct), sl⟩ ∧
    PySem.W.codeIn K cd d.name = true ∧ PySem.W.keepIn K (.ref f) = true
theorem left_mk {d : FD} {f : Addr} {oc : Value} {od : Option Addr} {kV dc pm : Value} {an : Option Addr} {cd ct : Value} {sl : Array (Option Value)} (a : PySem.W.nsIn K mainGlobals d.name = some (some (.ref f)))
    (l : K.lookup f = some ⟨oc, od, .func (PySem.W.fnOf d.name d.name (defArgs d.st) (defBody d.st) (defScope d.st) .none kV dc pm an cd ct), sl⟩) (c : PySem.W.codeIn K cd d.name = true) (k : PySem.W.keepIn K (.ref f) = true) : Left K d :=
  ⟨f, oc, od, kV, dc, pm, an, cd, ct, sl, a, l, c, k⟩
theorem Left.at {d : FD} (x : Left K d) (X : K.In h) (G : h.Ns mainGlobals mg) (b : BindsAs d) : ∃ fa fd, DefAt K mg d fa fd := by
  obtain ⟨f, oc, od, kV, dc, pm, an, cd, ct, sl, a, l, c, k⟩ := x
  have F := fun_mk (st := d.st) l c k
  exact ⟨f, _, F, PySem.W.mg_of X G a, F.binds b⟩
/-- the law's def -/
theorem Left.law {lw : PySem.W.OpenLaw} {w : World} {ds : List FD} {f : Nat} {d : FD} {fa : Addr} {x : Str} {k : Nat} (X : K.In h) (G : h.Ns mainGlobals mg) (hfa : mg d.name = some (.ref fa)) (hx : d.ps = [x]) (hf : ds.find? (fun d => f == d.id) = some d)
    (hc : (ds.all fun d => chkD (nms ds) d) = true) (hl : ∀ d ∈ ds, Left K d ∧ BindsAs d) (hb : ∀ y ∈ bltNames, PySem.W.nsIn K mainGlobals y = some none) :
    ∃ fd : FuncData, (∀ (s : Shared) (v : Value), BindsTo s fd ⟨[v], []⟩ [(x, v)]) ∧ ∀ base : Heap, K.In base → base.Ns mainGlobals mg → FnG lw.prog w K mg base k fa fd [x] (spM K (run (fns ds) k) f) := by
  obtain ⟨lf, bf⟩ := hl d (List.mem_of_find?_eq_some hf)
  obtain ⟨f', oc, od, kV, dc, pm, an, cd, ct, sl, a, l, c, kp⟩ := lf
  have e := hfa.symm.trans (PySem.W.mg_of X G a)
  cases e
  have F := fun_mk (st := d.st) l c kp
  have D : DefAt K mg d fa _ := ⟨F, PySem.W.mg_of X G a, F.binds bf⟩
  refine ⟨PySem.W.fnOf d.name d.name (defArgs d.st) (defBody d.st) (defScope d.st) .none kV dc pm an cd ct, fun s v => ?_, fun base _ _ => ?_⟩
  · have := bf kV dc pm an cd ct [v] (by rw [hx]; rfl)
    rw [hx] at this
    exact .of_eq this
  · have := all_fn (P := lw.prog) (w := w) (base := base) ds (fun d hd => List.all_eq_true.mp hc d hd) (fun d hd => (hl d hd).1.at X G (hl d hd).2) (fun y hy => PySem.W.mg_none_of X G (hb y hy)) k f d hf fa _ D
    rw [hx] at this
    exact this
end
/-- the script, small -/
def scr (ns : List Int) : Mem := ⟨1, [.rol (ns.map PV.int)], 0⟩
theorem law_sp {K : PySem.W.Frag} {H : Hp} {a : Addr} {ns : List Int} {cf : CF} {f : Nat} {M' : Mem} (hO : Only H) (hS : SqL K H a (ns.map V.int)) (h : cf f [.ref 0] (scr ns) = .ok (.bl true) M') : spM K cf f [.ref a] H (fun v _ => v = .bl true) fun _ _ _ => False := by
  have rol : Rol K H a (ns.map V.int) := by
    rcases hS with (h1 | ⟨o, h1⟩) | h1
    · rcases hO a with z | ⟨o, xs, z⟩
      · rw [h1] at z; cases z
      · rw [h1] at z; cases z
    · exact .inl ⟨o, h1⟩
    · exact .inr h1
  have g0 : ∀ {n o}, (scr ns).get n = some o → n = 0 ∧ o = .rol (ns.map PV.int) := fun {n o} e => by
    have hn : n < 1 := get_lt e
    have hn : n = 0 := by omega
    subst hn
    cases e
    exact ⟨rfl, rfl⟩
  refine ⟨[.ref 0], [a], scr ns, ⟨rfl, rfl, fun n m b xs ys e1 => ?_, fun n o e => ?_⟩, .one (rep_ref.mpr ⟨a, rfl, rfl⟩), ?_⟩
  · obtain ⟨_, e2⟩ := g0 e1
    cases e2
  · obtain ⟨rfl, rfl⟩ := g0 e
    exact ⟨a, rfl, _, rol, reps_ints ns⟩
  · rw [h]
    exact fun β' H' s x rx => rep_bl.mp rx
/-- the law's call, from its promise -/
theorem law_callG {P : Program} {w : World} {K : PySem.W.Frag} {mg mb : Str → Option Value} {k : Nat} {fa a : Addr} {fd : FuncData} {x : Str} {sp : Sp} {z : Shared} {vs : List Value} {ns : List Int}
    (KX : K.In z.heap) (hns : z.heap.Ns mainGlobals mg) (hb : z.heap.Ns builtinsNs mb) (hbb : ∀ x : Str, x ≠ "__name__" → mb x = bootBuiltins x) (hlim : z.heap.NoLimit) (hg : z.gens = #[])
    (ha : z.heap.get? a = some { cls := .type "list", data := .seq vs.toArray }) (hi : IntsAre vs ns) (hl : ns.length ≤ sizeLine) (hr : Room k callerA)
    (F : ∀ base : Heap, K.In base → base.Ns mainGlobals mg → FnG P w K mg base k fa fd [x] sp) (hbind : ∀ (s : Shared) (u : Value), BindsTo s fd ⟨[u], []⟩ [(x, u)])
    (hsp : ∀ H : Hp, Only H → SqL K H a (ns.map V.int) → sp [.ref a] H (fun v _ => v = .bl true) E0) :
    codeAny (model P w) callerA (.call (.ref fa) ⟨[.ref a], []⟩) (fun r s' => r = .ok (.ret (.bool true)) ∧ OldK z.heap s'.heap ∧ s'.os = z.os ∧ AllBare s'.gens) z := by
  have rv := vals_ints hi
  have key : ∀ H : Hp, Only H → SqL K H a (ns.map V.int) → HOk P w H z.heap → (∀ b, H b ≠ none → b = a) → (H a ≠ none → K.lookup a = none) →
      codeAny (model P w) callerA (.call (.ref fa) ⟨[.ref a], []⟩) (fun r s' => r = .ok (.ret (.bool true)) ∧ OldK z.heap s'.heap ∧ s'.os = z.os ∧ AllBare s'.gens) z := by
    intro H hO hS ok only hK
    have low : ∀ {b : Addr} {m : Str → Option Value}, z.heap.Ns b m → (hidT z.heap H).Ns b m := by
      rintro b m ⟨o, es, ep, e, d, r⟩
      refine ⟨o, es, ep, hidT_get e ?_, d, r⟩
      cases q : H b with
      | none => rfl
      | some u =>
        have : b = a := only b (by rw [q]; simp)
        subst this
        rw [ha] at e; cases e
        have d' : Data.seq vs.toArray _ = Data.dict es ep := d
        cases d'
    have kb : K.In (hidT z.heap H) := by
      intro b o e
      refine hidT_get (KX b o e) ?_
      cases q : H b with
      | none => rfl
      | some u =>
        have : b = a := only b (by rw [q]; simp)
        subst this
        rw [hK (by rw [q]; simp)] at e; cases e
    have md : Mod K mg (hidT z.heap H) := ⟨kb, low hns, ⟨mb, low hb, hbb⟩, let ⟨mc, h1, h2⟩ := hlim; ⟨mc, low h1, h2⟩⟩
    have e0 : Env0 P w K mg (hidT z.heap H) callerA [] z H := ⟨rfl, md, fun b o e => of_hidT e, Nat.le_of_eq (hidT_size _ _), trivial, fun b hb => absurd (show b ∈ ([] : List Addr) from hb) (by simp), ok, .of_eq hg⟩
    refine codeAny_mono ((F _ kb (low hns)).goes callerA [] z H ⟨[.ref a], []⟩ [.ref a] [.ref a] _ _ hr rfl e0 (hbind z (.ref a)) (.cons rfl .nil) (hsp H hO hS)) fun r s' h => ?_
    match r, h with
    | .error e, h => exact h.elim
    | .ok .next, h => exact h.elim
    | .ok .brk, h => exact h.elim
    | .ok .cont, h => exact h.elim
    | .ok (.ret u), ⟨v, H', os, bare, un, ok', r', q⟩ =>
      have q' : v = .bl true := q
      subst q'
      obtain rfl : u = Value.bool true := r'
      refine ⟨rfl, OldK.of_keep fun b o e => ?_, os, bare⟩
      cases q : H b with
      | none => exact un.keep b o e q (by intro z; exact absurd (show b ∈ ([] : List Addr) from z) (by simp)) (by simp)
      | some u =>
        rcases hO b with n | ⟨ob, xs, n⟩
        · rw [q] at n; cases n
        · obtain ⟨e1, _⟩ := ok b _ n
          obtain ⟨e2, _⟩ := ok' b _ (un.frzs b ob _ n)
          rw [e] at e1; cases e1
          exact e2
  cases hk : K.lookup a with
  | some o =>
    have e := KX a o hk
    rw [ha] at e
    cases e
    exact key (fun _ => none) (fun _ => .inl rfl) (.inr ⟨_, vs.toArray, _, hk, rfl, rfl, rfl, by rw [List.size_toArray, hi.length]; exact hl, by simpa using rv⟩) (fun b u z => by have z' : (none : Option HO) = some u := z; cases z') (fun b z => absurd rfl z) fun z => absurd rfl z
  | none =>
    have at_a : ∀ b u, (if b = a then some (HO.frz { cls := .type "list", data := .seq vs.toArray } (.lst (ns.map V.int))) else none) = some u → b = a ∧ u = HO.frz { cls := .type "list", data := .seq vs.toArray } (.lst (ns.map V.int)) := by
      intro b u e
      split at e
      · rename_i hb
        exact ⟨hb, (Option.some.inj e).symm⟩
      · cases e
    refine key (fun b => if b = a then some (.frz { cls := .type "list", data := .seq vs.toArray } (.lst (ns.map V.int))) else none) (fun b => ?_) (.inl (.inr ⟨{ cls := .type "list", data := .seq vs.toArray }, if_pos rfl⟩)) (fun b u e => ?_) (fun b e => ?_) fun _ => hk
    · by_cases hb : b = a
      · exact .inr ⟨_, _, if_pos hb⟩
      · exact .inl (if_neg hb)
    · obtain ⟨rfl, rfl⟩ := at_a b u e
      exact ⟨ha, by rw [List.length_map]; exact hl, vs, _, rv, ha⟩
    · by_cases hb : b = a
      · exact hb
      · exact absurd (if_neg hb) e
/-- what k_head leaves, from the law's promise -/
theorem walkG {l : PySem.W.OpenLaw} {n k : Nat} {q : Program} {loose : List Str} {XP : (Str → Option Value) → Heap → Prop} {YP : World → Heap → Prop} {d : DefRec} {K : Params → PySem.W.Frag} {sp : PySem.W.Frag → Sp} {x : Str}
    (hn : l.most = some n) (hn2 : n ≤ sizeLine) (hdf : d.params.defaults = []) (hr : Room k callerA) (hY : ∀ (w : World) (h : Heap), YP w h → (K w.params).In h)
    (F : ∀ (w : World) (mg : Str → Option Value) (fa : Addr) (h : Heap), (K w.params).In h → h.Ns mainGlobals mg → mg d.name = some (.ref fa) →
      ∃ fd : FuncData, (∀ (s : Shared) (u : Value), BindsTo s fd ⟨[u], []⟩ [(x, u)]) ∧ ∀ base : Heap, (K w.params).In base → base.Ns mainGlobals mg → FnG l.prog w (K w.params) mg base k fa fd [x] (sp (K w.params)))
    (hsp : ∀ (K : PySem.W.Frag) (H : Hp) (a : Addr) (ns : List Int), ns.length ≤ n → Only H → SqL K H a (ns.map V.int) → sp K [.ref a] H (fun v _ => v = .bl true) E0) :
    PySem.W.WalkO q loose XP YP l.row.toRowW d [] (fun f vs => PySem.call f vs) := by
  refine Att.attach_call hn hdf fun w s₀ z mg mb fa o pm cd doc a vs ns G Y ho hd hcd hmg hobj hints hlen hg => ?_
  obtain ⟨fd, hb, hF⟩ := F w mg fa _ (hY w _ Y) G.T.g hmg
  exact law_callG (hY w _ Y) G.T.g G.T.b G.T.builtins G.T.nolimit hg hobj hints (Nat.le_trans hlen hn2) hr hF hb fun H hO hS => hsp _ H a ns hlen hO hS
end Mn
end
section
set_option Elab.async false
set_option linter.all false
set_option maxRecDepth 100000
set_option maxHeartbeats 4000000
namespace Mn
open PySem
/-! ### walking a text: one step each -/
@[simp] theorem bind_ok_ {α β : Type} (a : α) (M : Mem) (f : α → Mem → Res β) : Res.bind (.ok a M) f = f a M := id rfl
@[simp] theorem bind_exc_ {α β : Type} (a : PV) (M : Mem) (f : α → Mem → Res β) : Res.bind (.exc a M) f = .exc a M := id rfl
@[simp] theorem bind_stuck_ {α β : Type} (f : α → Mem → Res β) : Res.bind .stuck f = .stuck := id rfl
@[simp] theorem trim_ok_ (M0 : Mem) (v : PV) (M : Mem) : trim M0 (.ok v M) = trimV M0 v M := id rfl
@[simp] theorem trimV_same (M : Mem) (v : PV) : trimV M v M = .ok v M := by simp [trimV]
theorem trimV_sz {M0 M : Mem} (v : PV) (h : M.sz = M0.sz) : trimV M0 v M = .ok v M := by simp [trimV, h]
@[simp] theorem put_sz (M : Mem) (n : Nat) (o : MObj) (e : Nat) : (M.put n o e).sz = M.sz := id rfl
@[simp] theorem push_sz (M : Mem) (o : MObj) : (M.push o).sz = M.sz + 1 := id rfl
@[simp] theorem put_esc (M : Mem) (n : Nat) (o : MObj) (e : Nat) : (M.put n o e).esc = M.esc + e := id rfl
@[simp] theorem push_esc (M : Mem) (o : MObj) : (M.push o).esc = M.esc := id rfl
@[simp] theorem trimV_put (M : Mem) (v : PV) (n : Nat) (o : MObj) (e : Nat) : trimV M v (M.put n o e) = .ok v (M.put n o e) := trimV_sz v rfl
@[simp] theorem push_get (M : Mem) (o : MObj) : (M.push o).get M.sz = some o := by simp [Mem.get, Mem.push]
theorem push_get' (M : Mem) (o : MObj) {n : Nat} (h : n < M.sz) : (M.push o).get n = M.get n := by
  have e : M.sz - n = (M.sz - 1 - n) + 1 := by omega
  simp [Mem.get, Mem.push, h, Nat.lt_succ_of_lt h, e]
@[simp] theorem push_cut (M : Mem) (o : MObj) : (M.push o).cut M.sz = M := by simp [Mem.cut, Mem.push]
/-- whole: as many objects as its size -/
def Mem.Wh (M : Mem) : Prop := M.objs.length = M.sz
theorem put_get {M : Mem} (hw : M.Wh) {n : Nat} (h : n < M.sz) (o : MObj) (e : Nat) : (M.put n o e).get n = some o := by
  have : M.sz - 1 - n < M.objs.length := by rw [hw]; omega
  simp [Mem.get, Mem.put, h, this]
theorem put_get' {M : Mem} {n m : Nat} (o : MObj) (e : Nat) (hn : n < M.sz) (h : m ≠ n) : (M.put n o e).get m = M.get m := by
  show (if m < M.sz then (M.objs.set (M.sz - 1 - n) o)[M.sz - 1 - m]? else none) = (if m < M.sz then M.objs[M.sz - 1 - m]? else none)
  by_cases hm : m < M.sz
  · rw [if_pos hm, if_pos hm, List.getElem?_set_ne]; omega
  · rw [if_neg hm, if_neg hm]
theorem Mem.Wh.put {M : Mem} (h : M.Wh) (n : Nat) (o : MObj) (e : Nat) : (M.put n o e).Wh := by simp [Mem.Wh, Mem.put] at *; exact h
theorem Mem.Wh.push {M : Mem} (h : M.Wh) (o : MObj) : (M.push o).Wh := by simp [Mem.Wh, Mem.push] at *; exact h
theorem put_put (M : Mem) (n : Nat) (o o' : MObj) (e e' : Nat) : (M.put n o e).put n o' e' = M.put n o' (e + e') := by simp [Mem.put, Nat.add_assoc]
/-- a list made on the way and handed out -/
theorem trimV_push (M : Mem) (o : MObj) {v : PV} (h : v.bnd M.sz = true) : trimV M v (M.push o) = .ok v M := by simp [trimV, h]
@[simp] theorem trimV_int (M : Mem) (o : MObj) (i : Int) : trimV M (.int i) (M.push o) = .ok (.int i) M := trimV_push M o rfl
@[simp] theorem trimV_bl (M : Mem) (o : MObj) (i : Bool) : trimV M (.bl i) (M.push o) = .ok (.bl i) M := trimV_push M o rfl
@[simp] theorem trimV_non (M : Mem) (o : MObj) : trimV M .non (M.push o) = .ok .non M := trimV_push M o rfl
@[simp] theorem trimV_ref (M : Mem) (o : MObj) : trimV M (.ref M.sz) (M.push o) = .ok (.ref M.sz) (M.push o) := by
  simp only [trimV]
  cases o with
  | lst xs => simp [PV.bnd]
  | rol xs => simp [PV.bnd]
section
variable (cf : CF) (σ : St) (M : Mem)

def kT (M0 : Mem) (r : Res PV) : Res PV := r.bind fun v M1 => trimV M0 v M1
@[simp] theorem kT_ok (M0 : Mem) (v : PV) (M1 : Mem) : kT M0 (.ok v M1) = trimV M0 v M1 := id rfl
def kTup  (r : Res (List PV)) : Res PV := r.bind fun vs M1 => if vs.length ≤ LIM then .ok (.tup vs) M1 else .stuck
@[simp] theorem kTup_ok  (vs : (List PV)) (M1 : Mem) : kTup  (.ok vs M1) = if vs.length ≤ LIM then .ok (.tup vs) M1 else .stuck := id rfl
def kLst  (r : Res (List PV)) : Res PV := r.bind fun vs M1 => if vs.length ≤ LIM then .ok (.ref M1.sz) (M1.push (.lst vs)) else .stuck
@[simp] theorem kLst_ok  (vs : (List PV)) (M1 : Mem) : kLst  (.ok vs M1) = if vs.length ≤ LIM then .ok (.ref M1.sz) (M1.push (.lst vs)) else .stuck := id rfl
def kBin2 (op : Operator) (v : PV) (r : Res PV) : Res PV := r.bind fun w M2 => binM op v w M2
@[simp] theorem kBin2_ok (op : Operator) (v : PV) (w : PV) (M2 : Mem) : kBin2 op v (.ok w M2) = binM op v w M2 := id rfl
def kBin1 (cf : CF) (σ : St) (op : Operator) (b : ME) (r : Res PV) : Res PV := r.bind fun v M1 => kBin2 op v (evE cf b σ M1)
@[simp] theorem kBin1_ok (cf : CF) (σ : St) (op : Operator) (b : ME) (v : PV) (M1 : Mem) : kBin1 cf σ op b (.ok v M1) = kBin2 op v (evE cf b σ M1) := id rfl
def kNeg2  (r : Res Int) : Res PV := r.bind fun i M1 => .ok (.int (-i)) M1
@[simp] theorem kNeg2_ok  (i : Int) (M1 : Mem) : kNeg2  (.ok i M1) = .ok (.int (-i)) M1 := id rfl
def kNeg1  (r : Res PV) : Res PV := r.bind fun v M1 => kNeg2 (intR v M1)
@[simp] theorem kNeg1_ok  (v : PV) (M1 : Mem) : kNeg1  (.ok v M1) = kNeg2 (intR v M1) := id rfl
def kNot2  (r : Res Bool) : Res PV := r.bind fun b M1 => .ok (.bl (!b)) M1
@[simp] theorem kNot2_ok  (b : Bool) (M1 : Mem) : kNot2  (.ok b M1) = .ok (.bl (!b)) M1 := id rfl
def kNot1  (r : Res PV) : Res PV := r.bind fun v M1 => kNot2 (truth v M1)
@[simp] theorem kNot1_ok  (v : PV) (M1 : Mem) : kNot1  (.ok v M1) = kNot2 (truth v M1) := id rfl
def kCmp2 (op : CmpOp) (v : PV) (r : Res PV) : Res PV := r.bind fun w M2 => cmpM op v w M2
@[simp] theorem kCmp2_ok (op : CmpOp) (v : PV) (w : PV) (M2 : Mem) : kCmp2 op v (.ok w M2) = cmpM op v w M2 := id rfl
def kCmp1 (cf : CF) (σ : St) (op : CmpOp) (b : ME) (r : Res PV) : Res PV := r.bind fun v M1 => kCmp2 op v (evE cf b σ M1)
@[simp] theorem kCmp1_ok (cf : CF) (σ : St) (op : CmpOp) (b : ME) (v : PV) (M1 : Mem) : kCmp1 cf σ op b (.ok v M1) = kCmp2 op v (evE cf b σ M1) := id rfl
def kAnd2 (cf : CF) (σ : St) (v : PV) (es : MEs) (r : Res Bool) : Res PV := r.bind fun t M2 => if t then evAnd cf es σ M2 else .ok v M2
@[simp] theorem kAnd2_ok (cf : CF) (σ : St) (v : PV) (es : MEs) (t : Bool) (M2 : Mem) : kAnd2 cf σ v es (.ok t M2) = if t then evAnd cf es σ M2 else .ok v M2 := id rfl
def kAnd1 (cf : CF) (σ : St) (es : MEs) (r : Res PV) : Res PV := r.bind fun v M1 => kAnd2 cf σ v es (truth v M1)
@[simp] theorem kAnd1_ok (cf : CF) (σ : St) (es : MEs) (v : PV) (M1 : Mem) : kAnd1 cf σ es (.ok v M1) = kAnd2 cf σ v es (truth v M1) := id rfl
def kOr2 (cf : CF) (σ : St) (v : PV) (es : MEs) (r : Res Bool) : Res PV := r.bind fun t M2 => if t then .ok v M2 else evOr cf es σ M2
@[simp] theorem kOr2_ok (cf : CF) (σ : St) (v : PV) (es : MEs) (t : Bool) (M2 : Mem) : kOr2 cf σ v es (.ok t M2) = if t then .ok v M2 else evOr cf es σ M2 := id rfl
def kOr1 (cf : CF) (σ : St) (es : MEs) (r : Res PV) : Res PV := r.bind fun v M1 => kOr2 cf σ v es (truth v M1)
@[simp] theorem kOr1_ok (cf : CF) (σ : St) (es : MEs) (v : PV) (M1 : Mem) : kOr1 cf σ es (.ok v M1) = kOr2 cf σ v es (truth v M1) := id rfl
def kTr  (r : Res PV) : Res Bool := r.bind fun v M1 => truth v M1
@[simp] theorem kTr_ok  (v : PV) (M1 : Mem) : kTr  (.ok v M1) = truth v M1 := id rfl
def kIfe (cf : CF) (σ : St) (a : ME) (b : ME) (r : Res Bool) : Res PV := r.bind fun t M2 => if t then evE cf a σ M2 else evE cf b σ M2
@[simp] theorem kIfe_ok (cf : CF) (σ : St) (a : ME) (b : ME) (t : Bool) (M2 : Mem) : kIfe cf σ a b (.ok t M2) = if t then evE cf a σ M2 else evE cf b σ M2 := id rfl
def kIx2 (v : PV) (r : Res PV) : Res PV := r.bind fun w M2 => ixM v w M2
@[simp] theorem kIx2_ok (v : PV) (w : PV) (M2 : Mem) : kIx2 v (.ok w M2) = ixM v w M2 := id rfl
def kIx1 (cf : CF) (σ : St) (b : ME) (r : Res PV) : Res PV := r.bind fun v M1 => kIx2 v (evE cf b σ M1)
@[simp] theorem kIx1_ok (cf : CF) (σ : St) (b : ME) (v : PV) (M1 : Mem) : kIx1 cf σ b (.ok v M1) = kIx2 v (evE cf b σ M1) := id rfl
def kSl3 (v : PV) (l : Option Int) (r : Res (Option Int)) : Res PV := r.bind fun h M3 => slM v l h M3
@[simp] theorem kSl3_ok (v : PV) (l : Option Int) (h : (Option Int)) (M3 : Mem) : kSl3 v l (.ok h M3) = slM v l h M3 := id rfl
def kSl2 (cf : CF) (σ : St) (v : PV) (hi : MEo) (r : Res (Option Int)) : Res PV := r.bind fun l M2 => kSl3 v l (evO cf hi σ M2)
@[simp] theorem kSl2_ok (cf : CF) (σ : St) (v : PV) (hi : MEo) (l : (Option Int)) (M2 : Mem) : kSl2 cf σ v hi (.ok l M2) = kSl3 v l (evO cf hi σ M2) := id rfl
def kSl1 (cf : CF) (σ : St) (lo : MEo) (hi : MEo) (r : Res PV) : Res PV := r.bind fun v M1 => kSl2 cf σ v hi (evO cf lo σ M1)
@[simp] theorem kSl1_ok (cf : CF) (σ : St) (lo : MEo) (hi : MEo) (v : PV) (M1 : Mem) : kSl1 cf σ lo hi (.ok v M1) = kSl2 cf σ v hi (evO cf lo σ M1) := id rfl
def kO2  (r : Res Int) : Res (Option Int) := r.bind fun i M2 => .ok (some i) M2
@[simp] theorem kO2_ok  (i : Int) (M2 : Mem) : kO2  (.ok i M2) = .ok (some i) M2 := id rfl
def kO1  (r : Res PV) : Res (Option Int) := r.bind fun v M1 => kO2 (intR v M1)
@[simp] theorem kO1_ok  (v : PV) (M1 : Mem) : kO1  (.ok v M1) = kO2 (intR v M1) := id rfl
def kCall (cf : CF) (f : Nat) (r : Res (List PV)) : Res PV := r.bind fun vs M1 => callM cf f vs M1
@[simp] theorem kCall_ok (cf : CF) (f : Nat) (vs : (List PV)) (M1 : Mem) : kCall cf f (.ok vs M1) = callM cf f vs M1 := id rfl
def kBc (f : BF) (r : Res (List PV)) : Res PV := r.bind fun vs M1 => bcallM f vs M1
@[simp] theorem kBc_ok (f : BF) (vs : (List PV)) (M1 : Mem) : kBc f (.ok vs M1) = bcallM f vs M1 := id rfl
def kM2 (m : MF) (v : PV) (r : Res (List PV)) : Res PV := r.bind fun vs M2 => methM m v vs M2
@[simp] theorem kM2_ok (m : MF) (v : PV) (vs : (List PV)) (M2 : Mem) : kM2 m v (.ok vs M2) = methM m v vs M2 := id rfl
def kM1 (cf : CF) (σ : St) (m : MF) (es : MEs) (r : Res PV) : Res PV := r.bind fun v M1 => if recvOk m v M1 then kM2 m v (evEs cf es σ M1) else .stuck
@[simp] theorem kM1_ok (cf : CF) (σ : St) (m : MF) (es : MEs) (v : PV) (M1 : Mem) : kM1 cf σ m es (.ok v M1) = if recvOk m v M1 then kM2 m v (evEs cf es σ M1) else .stuck := id rfl
def kIsiT (ts : List TyK) (r : Res PV) : Res PV := r.bind fun v M1 => if ts.length ≤ LIM then isiM v ts M1 else .stuck
@[simp] theorem kIsiT_ok (ts : List TyK) (v : PV) (M1 : Mem) : kIsiT ts (.ok v M1) = if ts.length ≤ LIM then isiM v ts M1 else .stuck := id rfl
def kIsi (ts : List TyK) (r : Res PV) : Res PV := r.bind fun v M1 => isiM v ts M1
@[simp] theorem kIsi_ok (ts : List TyK) (v : PV) (M1 : Mem) : kIsi ts (.ok v M1) = isiM v ts M1 := id rfl
def kLc (cf : CF) (σ : St) (own : List Nat) (g : MG) (cnd : MEo) (elt : ME) (r : Res Src) : Res PV := r.bind fun s M1 => lcRun own g (evC cf cnd) (evE cf elt) σ s M1
@[simp] theorem kLc_ok (cf : CF) (σ : St) (own : List Nat) (g : MG) (cnd : MEo) (elt : ME) (s : Src) (M1 : Mem) : kLc cf σ own g cnd elt (.ok s M1) = lcRun own g (evC cf cnd) (evE cf elt) σ s M1 := id rfl
def kEs2 (v : PV) (r : Res (List PV)) : Res (List PV) := r.bind fun vs M2 => .ok (v :: vs) M2
@[simp] theorem kEs2_ok (v : PV) (vs : (List PV)) (M2 : Mem) : kEs2 v (.ok vs M2) = .ok (v :: vs) M2 := id rfl
def kEs1 (cf : CF) (σ : St) (es : MEs) (r : Res PV) : Res (List PV) := r.bind fun v M1 => kEs2 v (evEs cf es σ M1)
@[simp] theorem kEs1_ok (cf : CF) (σ : St) (es : MEs) (v : PV) (M1 : Mem) : kEs1 cf σ es (.ok v M1) = kEs2 v (evEs cf es σ M1) := id rfl
def kSeq  (r : Res PV) : Res Src := r.bind fun v M1 => optR (srcSeq v M1) M1
@[simp] theorem kSeq_ok  (v : PV) (M1 : Mem) : kSeq  (.ok v M1) = optR (srcSeq v M1) M1 := id rfl
def kEnum  (r : Res PV) : Res Src := r.bind fun v M1 => optR (srcEnum v M1) M1
@[simp] theorem kEnum_ok  (v : PV) (M1 : Mem) : kEnum  (.ok v M1) = optR (srcEnum v M1) M1 := id rfl
def kR1b  (r : Res Int) : Res Src := r.bind fun j M2 => if inRange j then .ok (.items (rangeL 0 j)) M2 else .stuck
@[simp] theorem kR1b_ok  (j : Int) (M2 : Mem) : kR1b  (.ok j M2) = if inRange j then .ok (.items (rangeL 0 j)) M2 else .stuck := id rfl
def kR1  (r : Res PV) : Res Src := r.bind fun v M1 => kR1b (intR v M1)
@[simp] theorem kR1_ok  (v : PV) (M1 : Mem) : kR1  (.ok v M1) = kR1b (intR v M1) := id rfl
def kR2d (i : Int) (r : Res Int) : Res Src := r.bind fun j M4 => if inRange i && inRange j then .ok (.items (rangeL i j)) M4 else .stuck
@[simp] theorem kR2d_ok (i : Int) (j : Int) (M4 : Mem) : kR2d i (.ok j M4) = if inRange i && inRange j then .ok (.items (rangeL i j)) M4 else .stuck := id rfl
def kR2c (w : PV) (r : Res Int) : Res Src := r.bind fun i M3 => kR2d i (intR w M3)
@[simp] theorem kR2c_ok (w : PV) (i : Int) (M3 : Mem) : kR2c w (.ok i M3) = kR2d i (intR w M3) := id rfl
def kR2b (v : PV) (r : Res PV) : Res Src := r.bind fun w M2 => kR2c w (intR v M2)
@[simp] theorem kR2b_ok (v : PV) (w : PV) (M2 : Mem) : kR2b v (.ok w M2) = kR2c w (intR v M2) := id rfl
def kR2 (cf : CF) (σ : St) (b : ME) (r : Res PV) : Res Src := r.bind fun v M1 => kR2b v (evE cf b σ M1)
@[simp] theorem kR2_ok (cf : CF) (σ : St) (b : ME) (v : PV) (M1 : Mem) : kR2 cf σ b (.ok v M1) = kR2b v (evE cf b σ M1) := id rfl
def kZip2 (v : PV) (r : Res PV) : Res Src := r.bind fun w M2 => optR (srcZip v w M2) M2
@[simp] theorem kZip2_ok (v : PV) (w : PV) (M2 : Mem) : kZip2 v (.ok w M2) = optR (srcZip v w M2) M2 := id rfl
def kZip1 (cf : CF) (σ : St) (b : ME) (r : Res PV) : Res Src := r.bind fun v M1 => kZip2 v (evE cf b σ M1)
@[simp] theorem kZip1_ok (cf : CF) (σ : St) (b : ME) (v : PV) (M1 : Mem) : kZip1 cf σ b (.ok v M1) = kZip2 v (evE cf b σ M1) := id rfl
def sA (σ : St) (i : Nat) (r : Res PV) : Res Flow := r.bind fun v M1 => .ok (.next (σ.set i (some v))) M1
@[simp] theorem sA_ok (σ : St) (i : Nat) (v : PV) (M1 : Mem) : sA σ i (.ok v M1) = .ok (.next (σ.set i (some v))) M1 := id rfl
def sT2  (r : Res St) : Res Flow := r.bind fun s M2 => .ok (.next s) M2
@[simp] theorem sT2_ok  (s : St) (M2 : Mem) : sT2  (.ok s M2) = .ok (.next s) M2 := id rfl
def sT (σ : St) (g : MG) (r : Res PV) : Res Flow := r.bind fun v M1 => sT2 (optR (assignG g v σ) M1)
@[simp] theorem sT_ok (σ : St) (g : MG) (v : PV) (M1 : Mem) : sT σ g (.ok v M1) = sT2 (optR (assignG g v σ) M1) := id rfl
def sS4 (σ : St) (r : Res Unit) : Res Flow := r.bind fun u M4 => .ok (.next σ) M4
@[simp] theorem sS4_ok (σ : St) (u : Unit) (M4 : Mem) : sS4 σ (.ok u M4) = .ok (.next σ) M4 := id rfl
def sS3 (σ : St) (v : PV) (ov : PV) (r : Res PV) : Res Flow := r.bind fun iv M3 => sS4 σ (setM ov iv v M3)
@[simp] theorem sS3_ok (σ : St) (v : PV) (ov : PV) (iv : PV) (M3 : Mem) : sS3 σ v ov (.ok iv M3) = sS4 σ (setM ov iv v M3) := id rfl
def sS2 (cf : CF) (σ : St) (i : ME) (v : PV) (r : Res PV) : Res Flow := r.bind fun ov M2 => sS3 σ v ov (evE cf i σ M2)
@[simp] theorem sS2_ok (cf : CF) (σ : St) (i : ME) (v : PV) (ov : PV) (M2 : Mem) : sS2 cf σ i v (.ok ov M2) = sS3 σ v ov (evE cf i σ M2) := id rfl
def sS1 (cf : CF) (σ : St) (o : ME) (i : ME) (r : Res PV) : Res Flow := r.bind fun v M1 => sS2 cf σ i v (evE cf o σ M1)
@[simp] theorem sS1_ok (cf : CF) (σ : St) (o : ME) (i : ME) (v : PV) (M1 : Mem) : sS1 cf σ o i (.ok v M1) = sS2 cf σ i v (evE cf o σ M1) := id rfl
def sE (σ : St) (r : Res PV) : Res Flow := r.bind fun v M1 => .ok (.next σ) M1
@[simp] theorem sE_ok (σ : St) (v : PV) (M1 : Mem) : sE σ (.ok v M1) = .ok (.next σ) M1 := id rfl
def sR  (r : Res PV) : Res Flow := r.bind fun v M1 => .ok (.ret v) M1
@[simp] theorem sR_ok  (v : PV) (M1 : Mem) : sR  (.ok v M1) = .ok (.ret v) M1 := id rfl
def sI (cf : CF) (σ : St) (a : MSs) (b : MSs) (r : Res Bool) : Res Flow := r.bind fun t M2 => if t then evSs cf a σ M2 else evSs cf b σ M2
@[simp] theorem sI_ok (cf : CF) (σ : St) (a : MSs) (b : MSs) (t : Bool) (M2 : Mem) : sI cf σ a b (.ok t M2) = if t then evSs cf a σ M2 else evSs cf b σ M2 := id rfl
def sF (cf : CF) (σ : St) (g : MG) (b : MSs) (r : Res Src) : Res Flow := r.bind fun s M1 => forRun g (evSs cf b) s σ M1
@[simp] theorem sF_ok (cf : CF) (σ : St) (g : MG) (b : MSs) (s : Src) (M1 : Mem) : sF cf σ g b (.ok s M1) = forRun g (evSs cf b) s σ M1 := id rfl
def sQ (cf : CF) (ss : MSs) (r : Res Flow) : Res Flow := r.bind fun f M1 => match f with | .next s => evSs cf ss s M1 | f => .ok f M1
@[simp] theorem sQ_next (cf : CF) (ss : MSs) (s : St) (M : Mem) : sQ cf ss (.ok (.next s) M) = evSs cf ss s M := id rfl
@[simp] theorem sQ_ret (cf : CF) (ss : MSs) (v : PV) (M : Mem) : sQ cf ss (.ok (.ret v) M) = .ok (.ret v) M := id rfl
@[simp] theorem sQ_brk (cf : CF) (ss : MSs) (s : St) (M : Mem) : sQ cf ss (.ok (.brk s) M) = .ok (.brk s) M := id rfl
@[simp] theorem sQ_cont (cf : CF) (ss : MSs) (s : St) (M : Mem) : sQ cf ss (.ok (.cont s) M) = .ok (.cont s) M := id rfl
theorem kT_trim (M0 : Mem) (r : Res PV) : trim M0 r = kT M0 r := by cases r <;> rfl
@[simp] theorem xv (i : Nat) : evE cf (.var i) σ M = (match σ[i]? with | some (some v) => .ok v M | _ => .stuck) := id rfl
@[simp] theorem xi (i : Int) : evE cf (.int i) σ M = .ok (.int i) M := id rfl
@[simp] theorem xb (i : Bool) : evE cf (.bl i) σ M = .ok (.bl i) M := id rfl
@[simp] theorem xn : evE cf .non σ M = .ok .non M := id rfl
@[simp] theorem xs (i : Str) : evE cf (.str i) σ M = .ok (.str i) M := id rfl
@[simp] theorem xtup (es : MEs) : evE cf (.tup es) σ M = kTup (evEs cf es σ M) := id rfl
@[simp] theorem xlst (es : MEs) : evE cf (.lst es) σ M = kLst (evEs cf es σ M) := id rfl
@[simp] theorem xbin (op : Operator) (a b : ME) : evE cf (.bin op a b) σ M = kT M (kBin1 cf σ op b (evE cf a σ M)) := kT_trim M _
@[simp] theorem xneg (a : ME) : evE cf (.neg a) σ M = kNeg1 (evE cf a σ M) := id rfl
@[simp] theorem xnot (a : ME) : evE cf (.not a) σ M = kT M (kNot1 (evE cf a σ M)) := kT_trim M _
@[simp] theorem xcmp (op : CmpOp) (a b : ME) : evE cf (.cmp op a b) σ M = kT M (kCmp1 cf σ op b (evE cf a σ M)) := kT_trim M _
@[simp] theorem xand1 (a : ME) : evAnd cf (.cons a .nil) σ M = evE cf a σ M := id rfl
@[simp] theorem xand2 (a b : ME) (es : MEs) : evAnd cf (.cons a (.cons b es)) σ M = kAnd1 cf σ (.cons b es) (evE cf a σ M) := id rfl
@[simp] theorem xor1 (a : ME) : evOr cf (.cons a .nil) σ M = evE cf a σ M := id rfl
@[simp] theorem xor2 (a b : ME) (es : MEs) : evOr cf (.cons a (.cons b es)) σ M = kOr1 cf σ (.cons b es) (evE cf a σ M) := id rfl
@[simp] theorem xand (es : MEs) : evE cf (.and es) σ M = evAnd cf es σ M := id rfl
@[simp] theorem xor (es : MEs) : evE cf (.or es) σ M = evOr cf es σ M := id rfl
@[simp] theorem xife (c a b : ME) : evE cf (.ife c a b) σ M = kIfe cf σ a b (kTr (evE cf c σ M)) := id rfl
@[simp] theorem xix (a b : ME) : evE cf (.ix a b) σ M = kT M (kIx1 cf σ b (evE cf a σ M)) := kT_trim M _
@[simp] theorem xoN : evO cf .none σ M = .ok none M := id rfl
@[simp] theorem xoS (e : ME) : evO cf (.some e) σ M = kO1 (evE cf e σ M) := id rfl
@[simp] theorem xsl (a : ME) (lo hi : MEo) : evE cf (.sl a lo hi) σ M = kT M (kSl1 cf σ lo hi (evE cf a σ M)) := kT_trim M _
def kSt2 (v : PV) (r : Res PV) : Res PV := r.bind fun w M2 => stpM v w M2
@[simp] theorem kSt2_ok (v w : PV) (M2 : Mem) : kSt2 v (.ok w M2) = stpM v w M2 := id rfl
def kSt1 (cf : CF) (σ : St) (b : ME) (r : Res PV) : Res PV := r.bind fun v M1 => kSt2 v (evE cf b σ M1)
@[simp] theorem kSt1_ok (cf : CF) (σ : St) (b : ME) (v : PV) (M1 : Mem) : kSt1 cf σ b (.ok v M1) = kSt2 v (evE cf b σ M1) := id rfl
@[simp] theorem xstp (a st : ME) : evE cf (.stp a st) σ M = kT M (kSt1 cf σ st (evE cf a σ M)) := kT_trim M _
@[simp] theorem xcall (f : Nat) (es : MEs) : evE cf (.call f es) σ M = kT M (kCall cf f (evEs cf es σ M)) := kT_trim M _
@[simp] theorem xbc (f : BF) (es : MEs) : evE cf (.bcall f es) σ M = kT M (kBc f (evEs cf es σ M)) := kT_trim M _
@[simp] theorem xm (m : MF) (o : ME) (es : MEs) : evE cf (.meth m o es) σ M = kT M (kM1 cf σ m es (evE cf o σ M)) := kT_trim M _
@[simp] theorem xisiT (e : ME) (ts : List TyK) : evE cf (.isi e ts true) σ M = kT M (kIsiT ts (evE cf e σ M)) := kT_trim M _
@[simp] theorem xisi (e : ME) (ts : List TyK) : evE cf (.isi e ts false) σ M = kT M (kIsi ts (evE cf e σ M)) := kT_trim M _
@[simp] theorem xlc (own : List Nat) (g : MG) (it : MI) (cnd : MEo) (elt : ME) : evE cf (.lc own g it cnd elt) σ M = kLc cf σ own g cnd elt (evI cf it σ M) := id rfl
@[simp] theorem xesN : evEs cf .nil σ M = .ok [] M := id rfl
@[simp] theorem xesC (e : ME) (es : MEs) : evEs cf (.cons e es) σ M = kEs1 cf σ es (evE cf e σ M) := id rfl
@[simp] theorem xiS (e : ME) : evI cf (.seq e) σ M = kSeq (evE cf e σ M) := id rfl
@[simp] theorem xiR (e : ME) : evI cf (.range1 e) σ M = kR1 (evE cf e σ M) := id rfl
@[simp] theorem xiR2 (a b : ME) : evI cf (.range2 a b) σ M = kR2 cf σ b (evE cf a σ M) := id rfl
@[simp] theorem xiE (e : ME) : evI cf (.enum e) σ M = kEnum (evE cf e σ M) := id rfl
@[simp] theorem xiZ (a b : ME) : evI cf (.zip a b) σ M = kZip1 cf σ b (evE cf a σ M) := id rfl
@[simp] theorem xcN : evC cf .none = none := id rfl
@[simp] theorem xcS (e : ME) : evC cf (.some e) = some (evE cf e) := id rfl
@[simp] theorem yasg (i : Nat) (e : ME) : evS cf (.asg i e) σ M = sA σ i (kT M (evE cf e σ M)) := congrArg (sA σ i) (kT_trim M _)
@[simp] theorem yasgT (g : MG) (e : ME) : evS cf (.asgT g e) σ M = sT σ g (kT M (evE cf e σ M)) := congrArg (sT σ g) (kT_trim M _)
@[simp] theorem ysetix (o i e : ME) : evS cf (.setix o i e) σ M = sS1 cf σ o i (kT M (evE cf e σ M)) := congrArg (sS1 cf σ o i) (kT_trim M _)
def sPa (σ : St) (i j : Nat) (r : Res (List PV)) : Res Flow := r.bind fun vs M1 => match vs with
  | [v, w] => .ok (.next ((σ.set i (some v)).set j (some w))) M1
  | _ => .stuck
@[simp] theorem sPa_ok (σ : St) (i j : Nat) (v w : PV) (M : Mem) : sPa σ i j (.ok [v, w] M) = .ok (.next ((σ.set i (some v)).set j (some w))) M := id rfl
@[simp] theorem ypar (i j : Nat) (es : MEs) : evS cf (.par i j es) σ M = sPa σ i j (evEs cf es σ M) := id rfl
def sPb (σ : St) (i j l : Nat) (r : Res (List PV)) : Res Flow := r.bind fun vs M1 => match vs with
  | [v, w, u] => .ok (.next (((σ.set i (some v)).set j (some w)).set l (some u))) M1
  | _ => .stuck
@[simp] theorem sPb_ok (σ : St) (i j l : Nat) (v w u : PV) (M : Mem) : sPb σ i j l (.ok [v, w, u] M) = .ok (.next (((σ.set i (some v)).set j (some w)).set l (some u))) M := id rfl
@[simp] theorem ypar3 (i j l : Nat) (es : MEs) : evS cf (.par3 i j l es) σ M = sPb σ i j l (evEs cf es σ M) := id rfl
@[simp] theorem yexpr (e : ME) : evS cf (.expr e) σ M = sE σ (kT M (evE cf e σ M)) := congrArg (sE σ) (kT_trim M _)
@[simp] theorem yret (e : ME) : evS cf (.ret e) σ M = sR (kT M (evE cf e σ M)) := congrArg sR (kT_trim M _)
@[simp] theorem yife (c : ME) (a b : MSs) : evS cf (.ife c a b) σ M = sI cf σ a b (kTr (evE cf c σ M)) := id rfl
@[simp] theorem yfor (g : MG) (it : MI) (b : MSs) : evS cf (.for_ g it b) σ M = sF cf σ g b (evI cf it σ M) := id rfl
@[simp] theorem ywhile (c : ME) (b : MSs) : evS cf (.while_ c b) σ M = whileRun (evE cf c) (evSs cf b) WF σ M := id rfl
@[simp] theorem ypass : evS cf .pass σ M = .ok (.next σ) M := id rfl
@[simp] theorem ybrk : evS cf .brk σ M = .ok (.brk σ) M := id rfl
@[simp] theorem ycont : evS cf .cont σ M = .ok (.cont σ) M := id rfl
@[simp] theorem yN : evSs cf .nil σ M = .ok (.next σ) M := id rfl
@[simp] theorem yC (s : MS) (ss : MSs) : evSs cf (.cons s ss) σ M = sQ cf ss (evS cf s σ M) := id rfl
end
/-! loops -/
def aT (g : MG) (body : Sv) (xs : List PV) (r : Res Flow) : Res Flow := r.bind fun f M' => afterTurn f M' (forItems g body xs)
@[simp] theorem forI_nil (g : MG) (body : Sv) (σ : St) (M : Mem) : forItems g body [] σ M = .ok (.next σ) M := id rfl
theorem forI_cons (g : MG) (body : Sv) (x : PV) (xs : List PV) (σ : St) (M : Mem) : forItems g body (x :: xs) σ M = (match assignG g x σ with | none => .stuck | some s => aT g body xs (body s M)) := rfl
@[simp] theorem aT_next (g : MG) (body : Sv) (xs : List PV) (σ : St) (M : Mem) : aT g body xs (.ok (.next σ) M) = forItems g body xs σ M := id rfl
@[simp] theorem aT_cont (g : MG) (body : Sv) (xs : List PV) (σ : St) (M : Mem) : aT g body xs (.ok (.cont σ) M) = forItems g body xs σ M := id rfl
@[simp] theorem aT_brk (g : MG) (body : Sv) (xs : List PV) (σ : St) (M : Mem) : aT g body xs (.ok (.brk σ) M) = .ok (.next σ) M := id rfl
@[simp] theorem aT_ret (g : MG) (body : Sv) (xs : List PV) (v : PV) (M : Mem) : aT g body xs (.ok (.ret v) M) = .ok (.ret v) M := id rfl
def wT (c : Ev) (body : Sv) (f : Nat) (r : Res Flow) : Res Flow := r.bind fun fl M' => afterTurn fl M' (whileRun c body f)
@[simp] theorem wT_next (c : Ev) (body : Sv) (f : Nat) (σ : St) (M : Mem) : wT c body f (.ok (.next σ) M) = whileRun c body f σ M := id rfl
@[simp] theorem wT_cont (c : Ev) (body : Sv) (f : Nat) (σ : St) (M : Mem) : wT c body f (.ok (.cont σ) M) = whileRun c body f σ M := id rfl
@[simp] theorem wT_brk (c : Ev) (body : Sv) (f : Nat) (σ : St) (M : Mem) : wT c body f (.ok (.brk σ) M) = .ok (.next σ) M := id rfl
@[simp] theorem wT_ret (c : Ev) (body : Sv) (f : Nat) (v : PV) (M : Mem) : wT c body f (.ok (.ret v) M) = .ok (.ret v) M := id rfl
def wC (c : Ev) (body : Sv) (f : Nat) (σ : St) (r : Res Bool) : Res Flow := r.bind fun t M2 => if t then wT c body f (body σ M2) else .ok (.next σ) M2
@[simp] theorem wC_ok (c : Ev) (body : Sv) (f : Nat) (σ : St) (t : Bool) (M2 : Mem) : wC c body f σ (.ok t M2) = if t then wT c body f (body σ M2) else .ok (.next σ) M2 := id rfl
theorem while_step (c : Ev) (body : Sv) (f : Nat) (σ : St) (M : Mem) : whileRun c body (f + 1) σ M = wC c body f σ (kTr (c σ M)) := rfl
def lT (own : List Nat) (g : MG) (cnd : Option Ev) (elt : Ev) (σ : St) (xs : List PV) (r : Res (List PV)) : Res (List PV) := r.bind fun acc M => lcItems own g cnd elt σ xs acc M
@[simp] theorem lT_ok (own : List Nat) (g : MG) (cnd : Option Ev) (elt : Ev) (σ : St) (xs : List PV) (acc : List PV) (M : Mem) : lT own g cnd elt σ xs (.ok acc M) = lcItems own g cnd elt σ xs acc M := id rfl
@[simp] theorem lcI_nil (own : List Nat) (g : MG) (cnd : Option Ev) (elt : Ev) (σ : St) (acc : List PV) (M : Mem) : lcItems own g cnd elt σ [] acc M = .ok acc M := id rfl
theorem lcI_cons (own : List Nat) (g : MG) (cnd : Option Ev) (elt : Ev) (σ : St) (x : PV) (xs : List PV) (acc : List PV) (M : Mem) : lcItems own g cnd elt σ (x :: xs) acc M = lT own g cnd elt σ xs (lcTurn own g cnd elt σ x acc M) := rfl
def lE (acc : List PV) (r : Res PV) : Res (List PV) := r.bind fun v M2 => if acc.length < LIM then .ok (acc ++ [v]) M2 else .stuck
@[simp] theorem lE_ok (acc : List PV) (v : PV) (M : Mem) : lE acc (.ok v M) = if acc.length < LIM then .ok (acc ++ [v]) M else .stuck := id rfl
def lC (elt : Ev) (σ : St) (acc : List PV) (r : Res Bool) : Res (List PV) := r.bind fun b M1 => if b then lE acc (kT M1 (elt σ M1)) else .ok acc M1
@[simp] theorem lC_ok (elt : Ev) (σ : St) (acc : List PV) (b : Bool) (M : Mem) : lC elt σ acc (.ok b M) = if b then lE acc (kT M (elt σ M)) else .ok acc M := id rfl
theorem lcT_none (own : List Nat) (g : MG) (elt : Ev) (σ : St) (x : PV) (acc : List PV) (M : Mem) : lcTurn own g none elt σ x acc M = (match assignG g x (wipe σ own) with | none => .stuck | some s => lE acc (kT M (elt s M))) := by
  simp only [lcTurn]; cases assignG g x (wipe σ own) <;> first | rfl | (simp only [kT_trim, lE]; rfl)
theorem lcT_some (own : List Nat) (g : MG) (c elt : Ev) (σ : St) (x : PV) (acc : List PV) (M : Mem) : lcTurn own g (some c) elt σ x acc M = (match assignG g x (wipe σ own) with | none => .stuck | some s => lC elt s acc (kTr (c s M))) := by
  simp only [lcTurn]; cases assignG g x (wipe σ own) <;> simp only [lC, kTr, lE, kT_trim] <;> rfl
def lEnd (r : Res (List PV)) : Res PV := r.bind fun acc M => .ok (.ref M.sz) (M.push (.lst acc))
@[simp] theorem lEnd_ok (acc : List PV) (M : Mem) : lEnd (.ok acc M) = .ok (.ref M.sz) (M.push (.lst acc)) := id rfl
@[simp] theorem lcR_items (own : List Nat) (g : MG) (cnd : Option Ev) (elt : Ev) (σ : St) (xs : List PV) (M : Mem) : lcRun own g cnd elt σ (.items xs) M = lEnd (lcItems own g cnd elt σ xs [] M) := id rfl
@[simp] theorem lcR_at1 (own : List Nat) (g : MG) (cnd : Option Ev) (elt : Ev) (σ : St) (n : Nat) (e : Bool) (M : Mem) : lcRun own g cnd elt σ (.at1 n e) M = lEnd (lcSrc own g cnd elt σ (.at1 n e) (srcLen (.at1 n e) M + 1) 0 [] M) := id rfl
@[simp] theorem lcR_at2 (own : List Nat) (g : MG) (cnd : Option Ev) (elt : Ev) (σ : St) (n m : Nat) (M : Mem) : lcRun own g cnd elt σ (.at2 n m) M = lEnd (lcSrc own g cnd elt σ (.at2 n m) (srcLen (.at2 n m) M + 1) 0 [] M) := id rfl
@[simp] theorem forR_items (g : MG) (body : Sv) (xs : List PV) (σ : St) (M : Mem) : forRun g body (.items xs) σ M = forItems g body xs σ M := id rfl
@[simp] theorem assign_name_ (i : Nat) (v : PV) (σ : St) : assignG (.name i) v σ = some (σ.set i (some v)) := id rfl
@[simp] theorem assign_tup_ (gs : MGs) (vs : List PV) (σ : St) : assignG (.tup gs) (.tup vs) σ = assignGs gs vs σ := id rfl
@[simp] theorem assigns_nil_ (σ : St) : assignGs .nil [] σ = some σ := id rfl
@[simp] theorem assigns_cons_ (g : MG) (gs : MGs) (v : PV) (vs : List PV) (σ : St) : assignGs (.cons g gs) (v :: vs) σ = (assignG g v σ).bind (assignGs gs vs) := id rfl
@[simp] theorem wipe_nil (σ : St) : wipe σ [] = σ := id rfl
@[simp] theorem wipe_cons (σ : St) (v : Nat) (vs : List Nat) : wipe σ (v :: vs) = (wipe σ vs).set v none := id rfl
/-- a call -/
theorem run_at {fs : List (Nat × Fn)} {f : Nat} {F : Fn} (hf : fs.lookup f = some F) (k : Nat) (vs : List PV) (M : Mem) (hl : vs.length = F.np) :
    run fs (k + 1) f vs M = endOf M (evSs (run fs k) F.body (startσ F.nn vs) M) := by
  simp only [run, hf, hl, if_true]
@[simp] theorem end_ret (M0 : Mem) (v : PV) (M : Mem) : endOf M0 (.ok (.ret v) M) = trimV M0 v M := id rfl
@[simp] theorem end_next (M0 : Mem) (σ : St) (M : Mem) : endOf M0 (.ok (.next σ) M) = trimV M0 .non M := id rfl
@[simp] theorem lim_le : (∀ n : Nat, n ≤ 16777216 → n ≤ LIM) := fun _ h => h
end Mn
namespace Mn
@[simp] theorem pure_int (b : Nat) (i : Int) : (PV.int i).bnd b = true := id rfl
@[simp] theorem pure_bl (b : Nat) (i : Bool) : (PV.bl i).bnd b = true := id rfl
@[simp] theorem pure_non (b : Nat) : PV.non.bnd b = true := id rfl
@[simp] theorem pure_str (b : Nat) (x : PySem.Str) : (PV.str x).bnd b = true := id rfl
@[simp] theorem pure_ref (b n : Nat) : (PV.ref n).bnd b = decide (n < b) := id rfl
@[simp] theorem isMul_r {i j : Int} (h : -(2 ^ 64) < j) (h' : j < 2 ^ 64) : isMul i j = true := by simp only [isMul, decide_eq_true h, decide_eq_true h']; simp
@[simp] theorem isMul_l {i j : Int} (h : -(2 ^ 64) < i) (h' : i < 2 ^ 64) : isMul i j = true := by simp only [isMul, decide_eq_true h, decide_eq_true h']; simp
end Mn
end
section
set_option Elab.async false
set_option linter.all false
set_option maxRecDepth 100000
set_option maxHeartbeats 1000000
namespace Mn
/-! ### more fuel, more defs: what was told is told still -/
def Le {α : Type} (r r' : Res α) : Prop := r = .stuck ∨ r = r'
theorem Le.refl {α : Type} (r : Res α) : Le r r := .inr rfl
theorem Le.stk {α : Type} {r : Res α} : Le .stuck r := .inl rfl
theorem Le.trans {α : Type} {r s t : Res α} (h : Le r s) (g : Le s t) : Le r t := by
  rcases h with rfl | rfl
  · exact .inl rfl
  · exact g
theorem Le.ok {α : Type} {r r' : Res α} {a : α} {M : Mem} (h : Le r r') (e : r = .ok a M) : r' = .ok a M := by
  rcases h with rfl | rfl
  · cases e
  · exact e
theorem Le.bind {α γ : Type} {r r' : Res α} {f f' : α → Mem → Res γ} (h : Le r r') (g : ∀ a M, Le (f a M) (f' a M)) : Le (r.bind f) (r'.bind f') := by
  rcases h with rfl | rfl
  · exact .inl rfl
  · cases r with
    | ok a M => exact g a M
    | exc v M => exact .refl _
    | stuck => exact .refl _
theorem Le.trim {M : Mem} {r r' : Res PV} (h : Le r r') : Le (Mn.trim M r) (Mn.trim M r') := by
  rcases h with rfl | rfl
  · exact .inl rfl
  · exact .refl _
def LeC (cf cf' : CF) : Prop := ∀ f vs M, Le (cf f vs M) (cf' f vs M)
def LeE {α : Type} (e e' : St → Mem → Res α) : Prop := ∀ σ M, Le (e σ M) (e' σ M)
def LeO (e e' : Option Ev) : Prop := match e, e' with | none, none => True | some a, some b => LeE a b | _, _ => False
theorem LeE.refl {α : Type} (e : St → Mem → Res α) : LeE e e := fun _ _ => .refl _
section
variable {cf cf' : CF}
theorem callM_le (h : LeC cf cf') (f : Nat) (vs : List PV) (M : Mem) : Le (callM cf f vs M) (callM cf' f vs M) := by
  unfold callM
  split
  · rcases h f vs Mem.emp with e | e
    · rw [e]; exact .inl rfl
    · rw [e]; exact .refl _
  · split
    · split
      · split
        · unfold callBox
          rcases h f (vs.map to0) ⟨1, [_], 0⟩ with e | e
          · rw [e]; exact .inl rfl
          · rw [e]; exact .refl _
        · exact (h f vs M).trim
      · exact (h f vs M).trim
    · exact (h f vs M).trim
theorem lcTurn_le {own : List Nat} {g : MG} {c c' : Option Ev} {e e' : Ev} (hc : LeO c c') (he : LeE e e') (σ : St) (x : PV) (acc : List PV) (M : Mem) : Le (lcTurn own g c e σ x acc M) (lcTurn own g c' e' σ x acc M) := by
  unfold lcTurn
  split
  · exact .refl _
  · refine Le.bind ?_ fun b M1 => ?_
    · cases c with
      | none => cases c' with
        | none => exact .refl _
        | some _ => exact hc.elim
      | some c => cases c' with
        | none => exact hc.elim
        | some c' => exact (hc _ _).bind fun _ _ => .refl _
    · split
      · exact (he _ _).trim.bind fun _ _ => .refl _
      · exact .refl _
theorem lcItems_le {own : List Nat} {g : MG} {c c' : Option Ev} {e e' : Ev} (hc : LeO c c') (he : LeE e e') (σ : St) : ∀ (xs acc : List PV) (M : Mem), Le (lcItems own g c e σ xs acc M) (lcItems own g c' e' σ xs acc M)
  | [], acc, M => .refl _
  | x :: xs, acc, M => (lcTurn_le hc he σ x acc M).bind fun a M => lcItems_le hc he σ xs a M
theorem lcSrc_le {own : List Nat} {g : MG} {c c' : Option Ev} {e e' : Ev} (hc : LeO c c') (he : LeE e e') (σ : St) (s : Src) : ∀ (f i : Nat) (acc : List PV) (M : Mem), Le (lcSrc own g c e σ s f i acc M) (lcSrc own g c' e' σ s f i acc M)
  | 0, _, _, _ => .refl _
  | f + 1, i, acc, M => by
    unfold lcSrc
    split
    · exact .refl _
    · exact .refl _
    · exact (lcTurn_le hc he σ _ acc M).bind fun a M => lcSrc_le hc he σ s f (i + 1) a M
theorem lcRun_le {own : List Nat} {g : MG} {c c' : Option Ev} {e e' : Ev} (hc : LeO c c') (he : LeE e e') (σ : St) (s : Src) (M : Mem) : Le (lcRun own g c e σ s M) (lcRun own g c' e' σ s M) := by
  unfold lcRun
  refine Le.bind ?_ fun _ _ => .refl _
  cases s with
  | items xs => exact lcItems_le hc he σ xs [] M
  | at1 n e => exact lcSrc_le hc he σ _ _ _ _ _
  | at2 n m => exact lcSrc_le hc he σ _ _ _ _ _
theorem after_le (f : Flow) (M : Mem) {go go' : St → Mem → Res Flow} (h : LeE go go') : Le (afterTurn f M go) (afterTurn f M go') := by
  cases f with
  | next σ => exact h σ M
  | cont σ => exact h σ M
  | ret v => exact .refl _
  | brk σ => exact .refl _
theorem forItems_le {g : MG} {b b' : Sv} (hb : LeE b b') : ∀ (xs : List PV), LeE (forItems g b xs) (forItems g b' xs)
  | [] => .refl _
  | x :: xs => fun σ M => by
    unfold forItems
    split
    · exact .refl _
    · exact (hb _ _).bind fun f M' => after_le f M' (forItems_le hb xs)
theorem forSrc_le {g : MG} {b b' : Sv} (hb : LeE b b') (s : Src) : ∀ (f i : Nat), LeE (forSrc g b s f i) (forSrc g b' s f i)
  | 0, _ => .refl _
  | f + 1, i => fun σ M => by
    unfold forSrc
    split
    · exact .refl _
    · exact .refl _
    · split
      · exact .refl _
      · exact (hb _ _).bind fun fl M' => after_le fl M' (forSrc_le hb s f (i + 1))
theorem forRun_le {g : MG} {b b' : Sv} (hb : LeE b b') (s : Src) : LeE (forRun g b s) (forRun g b' s) := fun σ M => by
  unfold forRun
  cases s with
  | items xs => exact forItems_le hb xs σ M
  | at1 n e => exact forSrc_le hb _ _ _ σ M
  | at2 n m => exact forSrc_le hb _ _ _ σ M
theorem while_le {c c' : Ev} {b b' : Sv} (hc : LeE c c') (hb : LeE b b') : ∀ (f : Nat), LeE (whileRun c b f) (whileRun c' b' f)
  | 0 => .refl _
  | f + 1 => fun σ M => by
    unfold whileRun
    refine ((hc σ M).bind fun _ _ => .refl _).bind fun t M2 => ?_
    split
    · exact (hb _ _).bind fun fl M' => after_le fl M' (while_le hc hb f)
    · exact .refl _
mutual
theorem evE_le (h : LeC cf cf') : ∀ e : ME, LeE (evE cf e) (evE cf' e)
  | .var i => .refl _
  | .int i => .refl _
  | .bl b => .refl _
  | .non => .refl _
  | .str x => .refl _
  | .tup es => fun σ M => (evEs_le h es σ M).bind fun _ _ => .refl _
  | .lst es => fun σ M => (evEs_le h es σ M).bind fun _ _ => .refl _
  | .bin op a b => fun σ M => ((evE_le h a σ M).bind fun _ M1 => (evE_le h b σ M1).bind fun _ _ => .refl _).trim
  | .neg a => fun σ M => (evE_le h a σ M).bind fun _ _ => .refl _
  | .not a => fun σ M => ((evE_le h a σ M).bind fun _ _ => .refl _).trim
  | .cmp op a b => fun σ M => ((evE_le h a σ M).bind fun _ M1 => (evE_le h b σ M1).bind fun _ _ => .refl _).trim
  | .chain op op' a b c => fun σ M => ((evE_le h a σ M).bind fun _ M1 => (evE_le h b σ M1).bind fun _ M2 => (Le.refl _).bind fun r M3 => by
      split
      · exact (evE_le h c σ M3).bind fun _ _ => .refl _
      · exact .refl _
      · exact .refl _).trim
  | .and es => evAnd_le h es
  | .or es => evOr_le h es
  | .ife c a b => fun σ M => ((evE_le h c σ M).bind fun _ _ => .refl _).bind fun t M2 => by
      split
      · exact evE_le h a σ M2
      · exact evE_le h b σ M2
  | .ix a i => fun σ M => ((evE_le h a σ M).bind fun _ M1 => (evE_le h i σ M1).bind fun _ _ => .refl _).trim
  | .sl a lo hi => fun σ M => ((evE_le h a σ M).bind fun _ M1 => (evO_le h lo σ M1).bind fun _ M2 => (evO_le h hi σ M2).bind fun _ _ => .refl _).trim
  | .stp a st => fun σ M => ((evE_le h a σ M).bind fun _ M1 => (evE_le h st σ M1).bind fun _ _ => .refl _).trim
  | .call f args => fun σ M => ((evEs_le h args σ M).bind fun vs M1 => callM_le h f vs M1).trim
  | .bcall f args => fun σ M => ((evEs_le h args σ M).bind fun _ _ => .refl _).trim
  | .meth m o args => fun σ M => ((evE_le h o σ M).bind fun v M1 => by
      split
      · exact (evEs_le h args σ M1).bind fun _ _ => .refl _
      · exact .refl _).trim
  | .isi e ts tup => fun σ M => by
      cases tup with
      | true => exact ((evE_le h e σ M).bind fun _ _ => .refl _).trim
      | false => exact ((evE_le h e σ M).bind fun _ _ => .refl _).trim
  | .lc own g it cnd elt => fun σ M => (evI_le h it σ M).bind fun s M1 => lcRun_le (evC_le h cnd) (evE_le h elt) σ s M1
theorem evEs_le (h : LeC cf cf') : ∀ es : MEs, LeE (evEs cf es) (evEs cf' es)
  | .nil => .refl _
  | .cons e es => fun σ M => (evE_le h e σ M).bind fun _ M1 => (evEs_le h es σ M1).bind fun _ _ => .refl _
theorem evAnd_le (h : LeC cf cf') : ∀ es : MEs, LeE (evAnd cf es) (evAnd cf' es)
  | .nil => .refl _
  | .cons e .nil => evE_le h e
  | .cons e (.cons e' es) => fun σ M => (evE_le h e σ M).bind fun _ _ => (Le.refl _).bind fun t M2 => by
      split
      · exact evAnd_le h (.cons e' es) σ M2
      · exact .refl _
theorem evOr_le (h : LeC cf cf') : ∀ es : MEs, LeE (evOr cf es) (evOr cf' es)
  | .nil => .refl _
  | .cons e .nil => evE_le h e
  | .cons e (.cons e' es) => fun σ M => (evE_le h e σ M).bind fun _ _ => (Le.refl _).bind fun t M2 => by
      split
      · exact .refl _
      · exact evOr_le h (.cons e' es) σ M2
theorem evO_le (h : LeC cf cf') : ∀ o : MEo, LeE (evO cf o) (evO cf' o)
  | .none => .refl _
  | .some e => fun σ M => (evE_le h e σ M).bind fun _ _ => .refl _
theorem evC_le (h : LeC cf cf') : ∀ o : MEo, LeO (evC cf o) (evC cf' o)
  | .none => trivial
  | .some e => evE_le h e
theorem evI_le (h : LeC cf cf') : ∀ i : MI, LeE (evI cf i) (evI cf' i)
  | .seq e => fun σ M => (evE_le h e σ M).bind fun _ _ => .refl _
  | .range1 e => fun σ M => (evE_le h e σ M).bind fun _ _ => .refl _
  | .range2 a b => fun σ M => (evE_le h a σ M).bind fun _ M1 => (evE_le h b σ M1).bind fun _ _ => .refl _
  | .enum e => fun σ M => (evE_le h e σ M).bind fun _ _ => .refl _
  | .zip a b => fun σ M => (evE_le h a σ M).bind fun _ M1 => (evE_le h b σ M1).bind fun _ _ => .refl _
end
mutual
theorem evS_le (h : LeC cf cf') : ∀ s : MS, LeE (evS cf s) (evS cf' s)
  | .asg i e => fun σ M => (evE_le h e σ M).trim.bind fun _ _ => .refl _
  | .asgT g e => fun σ M => (evE_le h e σ M).trim.bind fun _ _ => .refl _
  | .par i j es => fun σ M => (evEs_le h es σ M).bind fun _ _ => .refl _
  | .par3 i j l es => fun σ M => (evEs_le h es σ M).bind fun _ _ => .refl _
  | .setix o i e => fun σ M => (evE_le h e σ M).trim.bind fun _ M1 => (evE_le h o σ M1).bind fun _ M2 => (evE_le h i σ M2).bind fun _ _ => .refl _
  | .expr e => fun σ M => (evE_le h e σ M).trim.bind fun _ _ => .refl _
  | .ret e => fun σ M => (evE_le h e σ M).trim.bind fun _ _ => .refl _
  | .ife c a b => fun σ M => ((evE_le h c σ M).bind fun _ _ => .refl _).bind fun t M2 => by
      split
      · exact evSs_le h a σ M2
      · exact evSs_le h b σ M2
  | .for_ g it b => fun σ M => (evI_le h it σ M).bind fun s M1 => forRun_le (evSs_le h b) s σ M1
  | .while_ c b => fun σ M => while_le (evE_le h c) (evSs_le h b) WF σ M
  | .pass => .refl _
  | .brk => .refl _
  | .cont => .refl _
theorem evSs_le (h : LeC cf cf') : ∀ ss : MSs, LeE (evSs cf ss) (evSs cf' ss)
  | .nil => .refl _
  | .cons s ss => fun σ M => (evS_le h s σ M).bind fun f M1 => by
      cases f with
      | next σ' => exact evSs_le h ss σ' M1
      | ret v => exact .refl _
      | brk σ => exact .refl _
      | cont σ => exact .refl _
end
end
theorem end_le {M : Mem} {r r' : Res Flow} (h : Le r r') : Le (endOf M r) (endOf M r') := by
  rcases h with rfl | rfl
  · exact .inl rfl
  · exact .refl _
/-- a table within another -/
def Sub (fs fs' : List (Nat × Fn)) : Prop := ∀ f F, fs.lookup f = some F → fs'.lookup f = some F
theorem run_le {fs fs' : List (Nat × Fn)} (hs : Sub fs fs') : ∀ (k k' : Nat), k ≤ k' → LeC (run fs k) (run fs' k')
  | 0, k', _ => fun f vs M => .inl rfl
  | k + 1, 0, h => by omega
  | k + 1, k' + 1, h => fun f vs M => by
    unfold run
    cases e : fs.lookup f with
    | none => exact .inl rfl
    | some F =>
      rw [hs f F e]
      simp only
      split
      · exact end_le (evSs_le (run_le hs k k' (by omega)) _ _ _)
      · exact .refl _
theorem run_up {fs fs' : List (Nat × Fn)} (hs : Sub fs fs') {k k' : Nat} (hk : k ≤ k') {f : Nat} {vs : List PV} {M M' : Mem} {v : PV} (h : run fs k f vs M = .ok v M') : run fs' k' f vs M = .ok v M' := (run_le hs k k' hk f vs M).ok h
/-- looked at by the kernel -/
def subB (fs fs' : List (Nat × Fn)) (eq : List Nat) : Bool := fs.all fun p => eq.contains p.1
theorem Sub.of {fs fs' : List (Nat × Fn)} (h : ∀ p ∈ fs, fs'.lookup p.1 = some p.2) : Sub fs fs' := by
  intro f F e
  have : (f, F) ∈ fs := by
    clear h
    induction fs with
    | nil => cases e
    | cons a fs ih =>
      obtain ⟨g, G⟩ := a
      rw [List.lookup_cons] at e
      split at e
      · rename_i hg
        cases e
        have : f = g := by simpa using hg
        subst this
        exact List.mem_cons_self
      · exact List.mem_cons_of_mem _ (ih e)
  exact h _ this
end Mn
end
section
set_option Elab.async false
set_option linter.all false
set_option maxRecDepth 100000
set_option maxHeartbeats 4000000
namespace Lw
open PySem PySem.Spec PyProof.Rows L2 Mn
/-- orders_of -/
def b1 : MSs := (.cons (.asg 1 (.int 1))
    (.cons (.for_ (.name 2) (.range1 (.var 0)) (.cons (.asg 1 (.bin .Mult (.var 1) (.bin .Add (.var 2) (.int 1))))
      .nil))
    (.cons (.ret (.var 1))
    .nil)))
def fn1 : Fn := ⟨1, 3, b1⟩
/-- number_of -/
def b2 : MSs := (.cons (.asg 1 (.int 0))
    (.cons (.for_ (.tup (.cons (.name 2) (.cons (.name 3) .nil))) (.enum (.var 0)) (.cons (.asg 1 (.bin .Add (.bin .Mult (.var 1) (.bin .Sub (.bcall .len (.cons (.var 0) .nil)) (.var 2))) (.bcall .len (.cons (.lc [4] (.name 4) (.seq (.sl (.var 0) (.some (.bin .Add (.var 2) (.int 1))) .none)) (.some (.cmp .Lt (.var 4) (.var 3))) (.var 4)) .nil))))
      .nil))
    (.cons (.ret (.var 1))
    .nil)))
def fn2 : Fn := ⟨1, 5, b2⟩
/-- order_at -/
def b3 : MSs := (.cons (.asg 2 (.bcall .listR1 (.cons (.var 0) .nil)))
    (.cons (.asg 3 (.call 1 (.cons (.var 0) .nil)))
    (.cons (.asg 4 (.tup .nil))
    (.cons (.while_ (.cmp .Gt (.bcall .len (.cons (.var 2) .nil)) (.int 0)) (.cons (.asg 3 (.bin .FloorDiv (.var 3) (.bcall .len (.cons (.var 2) .nil))))
      (.cons (.asg 4 (.bin .Add (.var 4) (.tup (.cons (.meth .pop (.var 2) (.cons (.bin .FloorDiv (.var 1) (.var 3)) .nil)) .nil))))
      (.cons (.asg 1 (.bin .Mod (.var 1) (.var 3)))
      .nil))))
    (.cons (.ret (.var 4))
    .nil)))))
def fn3 : Fn := ⟨2, 5, b3⟩
/-- _law_box -/
def b4 : MSs := (.cons (.asg 2 (.bin .Add (.bin .Mult (.int 7919) (.var 1)) (.int 11)))
    (.cons (.ife (.cmp .Lt (.var 1) (.bcall .len (.cons (.var 0) .nil))) (.cons (.asg 2 (.ix (.var 0) (.var 1)))
      .nil) (.cons (.ife (.cmp .Gt (.bcall .len (.cons (.var 0) .nil)) (.int 0)) (.cons (.asg 2 (.bin .Add (.var 2) (.bin .Mult (.bin .Mod (.ix (.var 0) (.bin .Mod (.var 1) (.bcall .len (.cons (.var 0) .nil)))) (.int 2147483629)) (.int 69623))))
        .nil) .nil)
      .nil))
    (.cons (.asg 3 (.bin .Add (.bin .Mod (.bin .Add (.bin .Mult (.bin .Mod (.var 2) (.int 2147483629)) (.int 48271)) (.bin .Mult (.int 40692) (.var 1))) (.int 2147483629)) (.int 1)))
    (.cons (.ret (.lst (.cons (.bin .Mult (.var 2) (.bcall .int (.cons (.cmp .GtE (.var 2) (.bin .Pow (.int 10) (.int 18))) .nil))) (.cons (.var 3) .nil))))
    .nil))))
def fn4 : Fn := ⟨2, 4, b4⟩
/-- _law_take -/
def b5 : MSs := (.cons (.ife (.cmp .Gt (.ix (.var 0) (.int 0)) (.int 0)) (.cons (.asg 3 (.bin .Mod (.ix (.var 0) (.int 0)) (.var 1)))
      (.cons (.setix (.var 0) (.int 0) (.bin .FloorDiv (.ix (.var 0) (.int 0)) (.var 1)))
      (.cons (.ret (.var 3))
      .nil))) .nil)
    (.cons (.asg 2 (.bin .Mod (.bin .Mult (.ix (.var 0) (.int 1)) (.int 69623)) (.int 2147483647)))
    (.cons (.setix (.var 0) (.int 1) (.bin .Add (.bin .Mod (.bin .Add (.bin .Mult (.var 2) (.int 48271)) (.int 30103)) (.int 2147483629)) (.int 1)))
    (.cons (.ret (.bin .Mod (.bin .FloorDiv (.bin .Add (.bin .Mult (.var 2) (.int 2147483647)) (.ix (.var 0) (.int 1))) (.int 8191)) (.var 1)))
    .nil))))
def fn5 : Fn := ⟨2, 4, b5⟩
/-- _law_orders -/
def b6 : MSs := (.cons (.asg 1 (.lst (.cons (.tup .nil) .nil)))
    (.cons (.for_ (.name 2) (.range1 (.var 0)) (.cons (.asg 3 (.lst .nil))
      (.cons (.for_ (.name 4) (.seq (.var 1)) (.cons (.expr (.meth .extend (.var 3) (.cons (.lc [5] (.name 5) (.range1 (.var 0)) (.some (.cmp .NotIn (.var 5) (.var 4))) (.bin .Add (.var 4) (.tup (.cons (.var 5) .nil)))) .nil)))
        .nil))
      (.cons (.asg 1 (.var 3))
      .nil))))
    (.cons (.ret (.var 1))
    .nil)))
def fn6 : Fn := ⟨1, 6, b6⟩
/-- _law_alike -/
def b7 : MSs := (.cons (.ife (.isi (.var 1) [.list, .tuple] true) (.cons (.ife (.or (.cons (.cmp .NotEq (.isi (.var 0) [.tuple] false) (.isi (.var 1) [.tuple] false)) (.cons (.cmp .NotEq (.isi (.var 0) [.list] false) (.isi (.var 1) [.list] false)) .nil))) (.cons (.ret (.bl false))
        .nil) .nil)
      (.cons (.ret (.and (.cons (.cmp .Eq (.bcall .len (.cons (.var 0) .nil)) (.bcall .len (.cons (.var 1) .nil))) (.cons (.bcall .all (.cons (.lc [2, 3] (.tup (.cons (.name 2) (.cons (.name 3) .nil))) (.zip (.var 0) (.var 1)) .none (.call 7 (.cons (.var 2) (.cons (.var 3) .nil)))) .nil)) .nil))))
      .nil)) .nil)
    (.cons (.ret (.and (.cons (.cmp .Eq (.isi (.var 0) [.bool] false) (.isi (.var 1) [.bool] false)) (.cons (.cmp .Eq (.var 0) (.var 1)) .nil))))
    .nil))
def fn7 : Fn := ⟨2, 4, b7⟩
/-- _law_drawn_order -/
def b8 : MSs := (.cons (.asg 2 (.bcall .listR1 (.cons (.var 1) .nil)))
    (.cons (.asg 3 (.tup .nil))
    (.cons (.while_ (.cmp .Gt (.bcall .len (.cons (.var 2) .nil)) (.int 0)) (.cons (.asg 3 (.bin .Add (.var 3) (.tup (.cons (.meth .pop (.var 2) (.cons (.call 5 (.cons (.var 0) (.cons (.bcall .len (.cons (.var 2) .nil)) .nil))) .nil)) .nil))))
      .nil))
    (.cons (.ret (.var 3))
    .nil))))
def fn8 : Fn := ⟨2, 4, b8⟩
/-- _law_right -/
def b9 : MSs := (.cons (.asg 2 (.call 6 (.cons (.var 0) .nil)))
    (.cons (.asg 3 (.call 0 (.cons (.var 0) .nil)))
    (.cons (.ife (.or (.cons (.not (.call 7 (.cons (.var 3) (.cons (.var 2) .nil)))) (.cons (.not (.call 7 (.cons (.call 2 (.cons (.var 1) .nil)) (.cons (.meth .index (.var 2) (.cons (.var 1) .nil)) .nil)))) .nil))) (.cons (.ret (.bl false))
      .nil) .nil)
    (.cons (.expr (.meth .reverse (.var 3) .nil))
    (.cons (.expr (.meth .append (.var 3) (.cons .non .nil)))
    (.cons (.ife (.not (.call 7 (.cons (.lc [4] (.name 4) (.seq (.var 2)) .none (.call 2 (.cons (.var 4) .nil))) (.cons (.bcall .listR1 (.cons (.bcall .len (.cons (.var 2) .nil)) .nil)) .nil)))) (.cons (.ret (.bl false))
      .nil) .nil)
    (.cons (.ife (.not (.call 7 (.cons (.lc [5] (.name 5) (.range1 (.bcall .len (.cons (.var 2) .nil))) .none (.call 3 (.cons (.var 0) (.cons (.var 5) .nil)))) (.cons (.var 2) .nil)))) (.cons (.ret (.bl false))
      .nil) .nil)
    (.cons (.ret (.and (.cons (.call 7 (.cons (.call 0 (.cons (.var 0) .nil)) (.cons (.var 2) .nil))) (.cons (.call 7 (.cons (.call 3 (.cons (.var 0) (.cons (.meth .index (.var 2) (.cons (.var 1) .nil)) .nil))) (.cons (.var 1) .nil))) .nil))))
    .nil))))))))
def fn9 : Fn := ⟨2, 6, b9⟩
/-- law -/
def b10 : MSs := (.cons (.asg 1 (.lst .nil))
    (.cons (.for_ (.name 2) (.range1 (.bin .Add (.int 1) (.bcall .len (.cons (.sl (.var 0) .none (.some (.int 3))) .nil)))) (.cons (.asg 3 (.call 4 (.cons (.var 0) (.cons (.var 2) .nil))))
      (.cons (.asg 4 (.ix (.lst (.cons (.int 2) (.cons (.int 3) (.cons (.int 3) (.cons (.int 4) (.cons (.int 4) (.cons (.int 5) .nil))))))) (.call 5 (.cons (.var 3) (.cons (.int 6) .nil)))))
      (.cons (.expr (.meth .append (.var 1) (.cons (.tup (.cons (.var 4) (.cons (.call 8 (.cons (.var 3) (.cons (.var 4) .nil))) .nil))) .nil)))
      .nil))))
    (.cons (.ret (.bcall .all (.cons (.lc [4, 5] (.tup (.cons (.name 4) (.cons (.name 5) .nil))) (.seq (.bin .Add (.var 1) (.sl (.var 1) .none (.some (.int 1))))) .none (.call 9 (.cons (.var 4) (.cons (.var 5) .nil)))) .nil)))
    .nil)))
def fn10 : Fn := ⟨1, 6, b10⟩
/-- puts_ahead -/
def b11 : MSs := (.cons (.ret (.cmp .Lt (.meth .index (.var 0) (.cons (.var 1) .nil)) (.meth .index (.var 0) (.cons (.var 2) .nil))))
    .nil)
def fn11 : Fn := ⟨3, 3, b11⟩
/-- first_of -/
def b12 : MSs := (.cons (.ret (.ix (.lc [2] (.name 2) (.seq (.var 0)) (.some (.cmp .In (.var 2) (.var 1))) (.var 2)) (.int 0)))
    .nil)
def fn12 : Fn := ⟨2, 3, b12⟩
/-- last_of -/
def b13 : MSs := (.cons (.ret (.ix (.lc [2] (.name 2) (.seq (.var 0)) (.some (.cmp .In (.var 2) (.var 1))) (.var 2)) (.neg (.int 1))))
    .nil)
def fn13 : Fn := ⟨2, 3, b13⟩
/-- _law_some -/
def b14 : MSs := (.cons (.asg 2 (.lc [3] (.name 3) (.range1 (.var 1)) (.some (.cmp .Eq (.call 5 (.cons (.var 0) (.cons (.int 2) .nil))) (.int 1))) (.var 3)))
    (.cons (.ife (.cmp .Eq (.bcall .len (.cons (.var 2) .nil)) (.int 0)) (.cons (.expr (.meth .append (.var 2) (.cons (.call 5 (.cons (.var 0) (.cons (.var 1) .nil))) .nil)))
      .nil) .nil)
    (.cons (.ret (.bcall .tuple (.cons (.var 2) .nil)))
    .nil)))
def fn14 : Fn := ⟨2, 4, b14⟩
/-- exchanged -/
def b17 : MSs := (.cons (.ret (.bin .Add (.bin .Add (.sl (.var 0) .none (.some (.var 1))) (.tup (.cons (.ix (.var 0) (.bin .Add (.var 1) (.int 1))) (.cons (.ix (.var 0) (.var 1)) .nil)))) (.sl (.var 0) (.some (.bin .Add (.var 1) (.int 2))) .none)))
    .nil)
def fn17 : Fn := ⟨2, 2, b17⟩
/-- how_many -/
def b24 : MSs := (.cons (.asg 2 (.int 1))
    (.cons (.for_ (.name 3) (.range1 (.var 0)) (.cons (.asg 2 (.bin .Mult (.var 2) (.call 1 (.cons (.var 1) .nil))))
      .nil))
    (.cons (.ret (.var 2))
    .nil)))
def fn24 : Fn := ⟨2, 4, b24⟩
/-- saying_at -/
def b25 : MSs := (.cons (.asg 3 (.call 1 (.cons (.var 1) .nil)))
    (.cons (.asg 4 (.tup .nil))
    (.cons (.for_ (.name 5) (.range1 (.var 0)) (.cons (.asg 4 (.bin .Add (.tup (.cons (.call 3 (.cons (.var 1) (.cons (.bin .Mod (.var 2) (.var 3)) .nil))) .nil)) (.var 4)))
      (.cons (.asg 2 (.bin .FloorDiv (.var 2) (.var 3)))
      .nil)))
    (.cons (.ret (.var 4))
    .nil))))
def fn25 : Fn := ⟨3, 6, b25⟩
/-- place_of -/
def b26 : MSs := (.cons (.asg 1 (.call 1 (.cons (.bcall .len (.cons (.ix (.var 0) (.int 0)) .nil)) .nil)))
    (.cons (.asg 2 (.int 0))
    (.cons (.for_ (.name 3) (.seq (.var 0)) (.cons (.asg 2 (.bin .Add (.bin .Mult (.var 2) (.var 1)) (.call 2 (.cons (.var 3) .nil))))
      .nil))
    (.cons (.ret (.var 2))
    .nil))))
def fn26 : Fn := ⟨1, 4, b26⟩
/-- _law_sizes -/
def b27 : MSs := (.cons (.asg 1 (.lst (.cons (.tup (.cons (.int 2) (.cons (.int 3) .nil))) (.cons (.tup (.cons (.int 2) (.cons (.int 3) .nil))) (.cons (.tup (.cons (.int 2) (.cons (.int 3) .nil))) (.cons (.tup (.cons (.int 3) (.cons (.int 3) .nil))) (.cons (.tup (.cons (.int 3) (.cons (.int 3) .nil))) (.cons (.tup (.cons (.int 1) (.cons (.int 3) .nil))) (.cons (.tup (.cons (.int 2) (.cons (.int 2) .nil))) (.cons (.tup (.cons (.int 3) (.cons (.int 2) .nil))) .nil))))))))))
    (.cons (.asg 1 (.bin .Add (.var 1) (.lst (.cons (.tup (.cons (.int 1) (.cons (.int 4) .nil))) (.cons (.tup (.cons (.int 1) (.cons (.int 2) .nil))) (.cons (.tup (.cons (.int 2) (.cons (.int 3) .nil))) (.cons (.tup (.cons (.int 2) (.cons (.int 3) .nil))) (.cons (.tup (.cons (.int 3) (.cons (.int 3) .nil))) (.cons (.tup (.cons (.int 2) (.cons (.int 3) .nil))) (.cons (.tup (.cons (.int 1) (.cons (.int 4) .nil))) (.cons (.tup (.cons (.int 2) (.cons (.int 4) .nil))) .nil)))))))))))
    (.cons (.ret (.ix (.var 1) (.call 5 (.cons (.var 0) (.cons (.int 16) .nil)))))
    .nil)))
def fn27 : Fn := ⟨1, 2, b27⟩
/-- _law_many -/
def b28 : MSs := (.cons (.asg 2 (.int 1))
    (.cons (.for_ (.name 3) (.range1 (.var 0)) (.cons (.asg 2 (.bin .Mult (.var 2) (.bcall .len (.cons (.call 6 (.cons (.var 1) .nil)) .nil))))
      .nil))
    (.cons (.ret (.var 2))
    .nil)))
def fn28 : Fn := ⟨2, 4, b28⟩
/-- said_otherwise -/
def b32 : MSs := (.cons (.ret (.bin .Add (.bin .Add (.sl (.var 0) .none (.some (.var 1))) (.tup (.cons (.var 2) .nil))) (.sl (.var 0) (.some (.bin .Add (.var 1) (.int 1))) .none)))
    .nil)
def fn32 : Fn := ⟨3, 3, b32⟩
/-- _law_sayings -/
def b149 : MSs := (.cons (.asg 2 (.lst (.cons (.tup .nil) .nil)))
    (.cons (.for_ (.name 3) (.range1 (.var 0)) (.cons (.asg 4 (.lst .nil))
      (.cons (.for_ (.name 5) (.seq (.var 2)) (.cons (.expr (.meth .extend (.var 4) (.cons (.lc [6] (.name 6) (.seq (.call 6 (.cons (.var 1) .nil))) .none (.bin .Add (.var 5) (.tup (.cons (.var 6) .nil)))) .nil)))
        .nil))
      (.cons (.asg 2 (.var 4))
      .nil))))
    (.cons (.ret (.var 2))
    .nil)))
def fn149 : Fn := ⟨2, 7, b149⟩
/-- _law_ahead -/
def b162 : MSs := (.cons (.ret (.cmp .Lt (.meth .index (.var 0) (.cons (.var 1) .nil)) (.meth .index (.var 0) (.cons (.var 2) .nil))))
    .nil)
def fn162 : Fn := ⟨3, 3, b162⟩
/-- _law_first -/
def b163 : MSs := (.cons (.ret (.ix (.lc [2] (.name 2) (.seq (.var 0)) (.some (.cmp .In (.var 2) (.var 1))) (.var 2)) (.int 0)))
    .nil)
def fn163 : Fn := ⟨2, 3, b163⟩
/-- answer -/
def b173 : MSs := (.cons (.ret (.ix (.ix (.var 0) (.int 2)) (.call 26 (.cons (.var 1) .nil))))
    .nil)
def fn173 : Fn := ⟨2, 2, b173⟩
/-- _law_answers -/
def b175 : MSs := (.cons (.asgT (.tup (.cons (.name 9) (.cons (.name 10) .nil))) (.var 1))
    (.cons (.asg 2 (.call 5 (.cons (.var 0) (.cons (.int 6) .nil))))
    (.cons (.asg 3 (.call 149 (.cons (.var 9) (.cons (.var 10) .nil))))
    (.cons (.asg 4 (.call 14 (.cons (.var 0) (.cons (.var 10) .nil))))
    (.cons (.asg 5 (.call 5 (.cons (.var 0) (.cons (.var 9) .nil))))
    (.cons (.ife (.cmp .Lt (.var 2) (.int 2)) (.cons (.ret (.lc [8] (.name 8) (.seq (.var 3)) .none (.ix (.var 4) (.call 5 (.cons (.var 0) (.cons (.bcall .len (.cons (.var 4) .nil)) .nil))))))
      .nil) .nil)
    (.cons (.ife (.cmp .Lt (.var 2) (.int 4)) (.cons (.ret (.lc [8] (.name 8) (.seq (.var 3)) .none (.call 163 (.cons (.ix (.var 8) (.var 5)) (.cons (.var 4) .nil)))))
      .nil) .nil)
    (.cons (.asgT (.tup (.cons (.name 11) (.cons (.name 12) .nil))) (.tup (.cons (.ix (.var 4) (.int 0)) (.cons (.ix (.var 4) (.neg (.int 1))) .nil))))
    (.cons (.asg 6 (.lc [14] (.name 14) (.range1 (.bin .Add (.int 1) (.call 5 (.cons (.var 0) (.cons (.int 2) .nil))))) .none (.call 14 (.cons (.var 0) (.cons (.var 9) .nil)))))
    (.cons (.asg 7 (.lst .nil))
    (.cons (.for_ (.name 8) (.seq (.var 3)) (.cons (.asg 13 (.lc [15] (.name 15) (.seq (.var 6)) .none (.bcall .all (.cons (.lc [16] (.name 16) (.seq (.var 15)) .none (.call 162 (.cons (.ix (.var 8) (.var 16)) (.cons (.var 11) (.cons (.var 12) .nil))))) .nil))))
      (.cons (.expr (.meth .append (.var 7) (.cons (.ix (.lst (.cons (.var 12) (.cons (.var 11) .nil))) (.bcall .int (.cons (.cmp .In (.bl true) (.var 13)) .nil))) .nil)))
      .nil)))
    (.cons (.ret (.var 7))
    .nil))))))))))))
def fn175 : Fn := ⟨2, 17, b175⟩
/-- _law_table -/
def b176 : MSs := (.cons (.asg 2 (.call 175 (.cons (.var 0) (.cons (.var 1) .nil))))
    (.cons (.for_ (.name 3) (.range1 (.bcall .max2 (.cons (.int 0) (.cons (.bin .Sub (.call 5 (.cons (.var 0) (.cons (.int 4) .nil))) (.int 1)) .nil)))) (.cons (.setix (.var 2) (.call 5 (.cons (.var 0) (.cons (.bcall .len (.cons (.var 2) .nil)) .nil))) (.call 5 (.cons (.var 0) (.cons (.ix (.var 1) (.int 1)) .nil))))
      .nil))
    (.cons (.ret (.bin .Add (.var 1) (.tup (.cons (.bcall .tuple (.cons (.var 2) .nil)) .nil))))
    .nil)))
def fn176 : Fn := ⟨2, 4, b176⟩
/-- gains_by -/
def b212 : MSs := (.cons (.asg 4 (.call 173 (.cons (.var 0) (.cons (.var 2) .nil))))
    (.cons (.asg 5 (.call 173 (.cons (.var 0) (.cons (.call 32 (.cons (.var 2) (.cons (.var 1) (.cons (.var 3) .nil)))) .nil))))
    (.cons (.ret (.call 11 (.cons (.ix (.var 2) (.var 1)) (.cons (.var 5) (.cons (.var 4) .nil)))))
    .nil)))
def fn212 : Fn := ⟨4, 6, b212⟩
/-- near_gain -/
def b216 : MSs := (.cons (.asgT (.tup (.cons (.name 1) (.cons (.name 2) (.cons (.name 3) .nil)))) (.var 0))
    (.cons (.for_ (.tup (.cons (.name 4) (.cons (.name 5) .nil))) (.enum (.var 3)) (.cons (.asg 6 (.call 25 (.cons (.var 1) (.cons (.var 2) (.cons (.var 4) .nil)))))
      (.cons (.for_ (.name 7) (.range1 (.var 1)) (.cons (.for_ (.name 8) (.range1 (.bin .Sub (.var 2) (.int 1))) (.cons (.asg 9 (.call 17 (.cons (.ix (.var 6) (.var 7)) (.cons (.var 8) .nil))))
          (.cons (.asg 10 (.call 173 (.cons (.var 0) (.cons (.call 32 (.cons (.var 6) (.cons (.var 7) (.cons (.var 9) .nil)))) .nil))))
          (.cons (.ife (.call 11 (.cons (.ix (.var 6) (.var 7)) (.cons (.var 10) (.cons (.var 5) .nil)))) (.cons (.ret (.tup (.cons (.var 7) (.cons (.var 6) (.cons (.var 9) .nil)))))
            .nil) .nil)
          .nil))))
        .nil))
      .nil)))
    (.cons (.ret .non)
    .nil)))
def fn216 : Fn := ⟨1, 11, b216⟩
/-- _law_places -/
def b217 : MSs := (.cons (.ret (.lc [1] (.name 1) (.seq (.call 6 (.cons (.var 0) .nil))) .none (.lc [2] (.name 2) (.range1 (.var 0)) .none (.meth .index (.var 1) (.cons (.var 2) .nil)))))
    .nil)
def fn217 : Fn := ⟨1, 3, b217⟩
/-- _law_strides -/
def b218 : MSs := (.cons (.asg 2 (.lst (.cons (.int 1) .nil)))
    (.cons (.for_ (.name 3) (.range2 (.int 1) (.ix (.var 0) (.int 0))) (.cons (.asg 2 (.bin .Add (.lst (.cons (.bin .Mult (.ix (.var 2) (.int 0)) (.var 1)) .nil)) (.var 2)))
      .nil))
    (.cons (.ret (.var 2))
    .nil)))
def fn218 : Fn := ⟨2, 4, b218⟩
/-- _law_near_numbers -/
def b219 : MSs := (.cons (.asg 1 (.call 6 (.cons (.var 0) .nil)))
    (.cons (.asg 2 (.lst .nil))
    (.cons (.for_ (.name 3) (.seq (.var 1)) (.cons (.asg 4 (.lc [5] (.name 5) (.range1 (.bin .Sub (.var 0) (.int 1))) .none (.bin .Add (.bin .Add (.sl (.var 3) .none (.some (.var 5))) (.tup (.cons (.ix (.var 3) (.bin .Add (.var 5) (.int 1))) (.cons (.ix (.var 3) (.var 5)) .nil)))) (.sl (.var 3) (.some (.bin .Add (.var 5) (.int 2))) .none))))
      (.cons (.expr (.meth .append (.var 2) (.cons (.lc [6] (.name 6) (.seq (.var 4)) .none (.meth .index (.var 1) (.cons (.var 6) .nil))) .nil)))
      .nil)))
    (.cons (.ret (.var 2))
    .nil))))
def fn219 : Fn := ⟨1, 7, b219⟩
/-- _law_gain_numbers -/
def b220 : MSs := (.cons (.asgT (.tup (.cons (.name 6) (.cons (.name 7) (.cons (.name 8) .nil)))) (.var 0))
    (.cons (.asg 2 (.call 217 (.cons (.var 7) .nil)))
    (.cons (.asg 3 (.bcall .len (.cons (.var 2) .nil)))
    (.cons (.asg 4 (.call 218 (.cons (.tup (.cons (.var 6) (.cons (.var 7) .nil))) (.cons (.var 3) .nil))))
    (.cons (.asg 5 (.lst .nil))
    (.cons (.for_ (.tup (.cons (.name 9) (.cons (.name 10) .nil))) (.enum (.var 8)) (.cons (.for_ (.name 11) (.range1 (.var 6)) (.cons (.asg 12 (.bin .Mod (.bin .FloorDiv (.var 9) (.ix (.var 4) (.var 11))) (.var 3)))
        (.cons (.for_ (.name 13) (.seq (.ix (.var 1) (.var 12))) (.cons (.asg 14 (.ix (.var 8) (.bin .Add (.var 9) (.bin .Mult (.bin .Sub (.var 13) (.var 12)) (.ix (.var 4) (.var 11))))))
          (.cons (.ife (.cmp .Lt (.ix (.ix (.var 2) (.var 12)) (.var 14)) (.ix (.ix (.var 2) (.var 12)) (.var 10))) (.cons (.expr (.meth .append (.var 5) (.cons (.tup (.cons (.var 9) (.cons (.var 11) (.cons (.var 13) .nil)))) .nil)))
            .nil) .nil)
          .nil)))
        .nil)))
      .nil))
    (.cons (.ret (.var 5))
    .nil)))))))
def fn220 : Fn := ⟨2, 15, b220⟩
/-- _law_first_near -/
def b221 : MSs := (.cons (.asg 1 (.call 220 (.cons (.var 0) (.cons (.call 219 (.cons (.ix (.var 0) (.int 1)) .nil)) .nil))))
    (.cons (.ife (.cmp .Eq (.bcall .len (.cons (.var 1) .nil)) (.int 0)) (.cons (.ret .non)
      .nil) .nil)
    (.cons (.asgT (.tup (.cons (.name 2) (.cons (.name 3) (.cons (.name 4) .nil)))) (.ix (.var 1) (.int 0)))
    (.cons (.ret (.tup (.cons (.var 3) (.cons (.ix (.call 149 (.cons (.ix (.var 0) (.int 0)) (.cons (.ix (.var 0) (.int 1)) .nil))) (.var 2)) (.cons (.ix (.call 6 (.cons (.ix (.var 0) (.int 1)) .nil)) (.var 4)) .nil)))))
    .nil))))
def fn221 : Fn := ⟨1, 5, b221⟩
/-- _law_web -/
def b423 : MSs := (.cons (.asg 2 (.lc [3] (.name 3) (.range1 (.var 1)) .none (.lst .nil)))
    (.cons (.for_ (.name 3) (.range1 (.var 1)) (.cons (.for_ (.name 4) (.range2 (.bin .Add (.var 3) (.int 1)) (.var 1)) (.cons (.asg 5 (.ix (.lst (.cons (.tup (.cons (.var 3) (.cons (.var 4) .nil))) (.cons (.tup (.cons (.var 4) (.cons (.var 3) .nil))) .nil))) (.call 5 (.cons (.var 0) (.cons (.int 2) .nil)))))
        (.cons (.expr (.meth .append (.ix (.var 2) (.ix (.var 5) (.int 0))) (.cons (.ix (.var 5) (.int 1)) .nil)))
        .nil)))
      .nil))
    (.cons (.ret (.bcall .tuple (.cons (.lc [6] (.name 6) (.seq (.var 2)) .none (.bcall .tuple (.cons (.bcall .sorted (.cons (.var 6) .nil)) .nil))) .nil)))
    .nil)))
def fn423 : Fn := ⟨2, 7, b423⟩
/-- crowd_of -/
def b436 : MSs := (.cons (.asg 1 (.lst .nil))
    (.cons (.for_ (.tup (.cons (.name 2) (.cons (.name 3) .nil))) (.enum (.var 0)) (.cons (.for_ (.name 4) (.seq (.var 3)) (.cons (.asg 5 (.lc [6] (.name 6) (.range1 (.bcall .len (.cons (.var 0) .nil))) (.some (.cmp .NotIn (.var 6) (.tup (.cons (.var 2) (.cons (.var 4) .nil))))) (.var 6)))
        (.cons (.expr (.meth .append (.var 1) (.cons (.bin .Add (.tup (.cons (.var 2) (.cons (.var 4) .nil))) (.bcall .tuple (.cons (.var 5) .nil))) .nil)))
        (.cons (.expr (.meth .append (.var 1) (.cons (.bin .Add (.bcall .tupRev (.cons (.var 5) .nil)) (.tup (.cons (.var 2) (.cons (.var 4) .nil)))) .nil)))
        .nil))))
      .nil))
    (.cons (.ret (.bcall .tuple (.cons (.var 1) .nil)))
    .nil)))
def fn436 : Fn := ⟨1, 7, b436⟩
/-- _law_due -/
def b437 : MSs := (.cons (.asg 1 (.lst .nil))
    (.cons (.for_ (.name 2) (.range1 (.bcall .len (.cons (.var 0) .nil))) (.cons (.for_ (.name 3) (.range1 (.bcall .len (.cons (.var 0) .nil))) (.cons (.ife (.cmp .In (.var 3) (.ix (.var 0) (.var 2))) (.cons (.asg 4 (.tup (.cons (.var 2) (.cons (.var 3) .nil))))
          (.cons (.asg 5 (.tup .nil))
          (.cons (.for_ (.name 6) (.range1 (.bcall .len (.cons (.var 0) .nil))) (.cons (.ife (.and (.cons (.cmp .NotEq (.var 6) (.var 2)) (.cons (.cmp .NotEq (.var 6) (.var 3)) .nil))) (.cons (.asg 4 (.bin .Add (.var 4) (.tup (.cons (.var 6) .nil))))
              (.cons (.asg 5 (.bin .Add (.tup (.cons (.var 6) .nil)) (.var 5)))
              .nil)) .nil)
            .nil))
          (.cons (.asg 1 (.bin .Add (.var 1) (.lst (.cons (.var 4) (.cons (.bin .Add (.var 5) (.tup (.cons (.var 2) (.cons (.var 3) .nil)))) .nil)))))
          .nil)))) .nil)
        .nil))
      .nil))
    (.cons (.ret (.bcall .tuple (.cons (.var 1) .nil)))
    .nil)))
def fn437 : Fn := ⟨1, 7, b437⟩
/-- law -/
def b438 : MSs := (.cons (.asg 1 (.lst .nil))
    (.cons (.for_ (.name 2) (.range1 (.bcall .max2 (.cons (.int 2) (.cons (.bcall .min2 (.cons (.bcall .len (.cons (.var 0) .nil)) (.cons (.int 4) .nil))) .nil)))) (.cons (.asg 4 (.call 4 (.cons (.var 0) (.cons (.var 2) .nil))))
      (.cons (.expr (.meth .append (.var 1) (.cons (.call 423 (.cons (.var 4) (.cons (.bin .Add (.int 2) (.call 5 (.cons (.var 4) (.cons (.int 4) .nil)))) .nil))) .nil)))
      .nil)))
    (.cons (.for_ (.name 3) (.seq (.bin .Add (.var 1) (.sl (.var 1) .none (.some (.int 1))))) (.cons (.ife (.cmp .NotEq (.bcall .repr (.cons (.call 436 (.cons (.var 3) .nil)) .nil)) (.bcall .repr (.cons (.call 437 (.cons (.var 3) .nil)) .nil))) (.cons (.ret (.bl false))
        .nil) .nil)
      .nil))
    (.cons (.ret (.bl true))
    .nil))))
def fn438 : Fn := ⟨1, 5, b438⟩
def fs : List (Nat × Fn) := [(436, fn436), (4, fn4), (5, fn5), (423, fn423), (437, fn437), (438, fn438)]
end Lw
end
section
set_option Elab.async false
set_option linter.all false
set_option maxRecDepth 100000
set_option maxHeartbeats 1000000
namespace Mn
/-! ### checking by the kernel -/
mutual
def PV.beq : PV → PV → Bool
  | .non, .non => true
  | .bl a, .bl b => a == b
  | .int i, .int j => decide (i = j)
  | .str x, .str y => decide (x = y)
  | .tup xs, .tup ys => PV.beqs xs ys
  | .ref n, .ref m => n == m
  | _, _ => false
def PV.beqs : List PV → List PV → Bool
  | [], [] => true
  | x :: xs, y :: ys => x.beq y && PV.beqs xs ys
  | _, _ => false
end
mutual
theorem PV.beq_eq : ∀ {v w : PV}, v.beq w = true → v = w
  | .non, .non, _ => rfl
  | .bl a, .bl b, h => by simp [PV.beq] at h; rw [h]
  | .int i, .int j, h => by simp [PV.beq] at h; rw [h]
  | .str x, .str y, h => by simp [PV.beq] at h; rw [h]
  | .tup xs, .tup ys, h => by rw [PV.beq] at h; rw [PV.beqs_eq h]
  | .ref n, .ref m, h => by simp [PV.beq] at h; rw [h]
  | .non, .bl _, h | .non, .int _, h | .non, .str _, h | .non, .tup _, h | .non, .ref _, h => by simp [PV.beq] at h
  | .bl _, .non, h | .bl _, .int _, h | .bl _, .str _, h | .bl _, .tup _, h | .bl _, .ref _, h => by simp [PV.beq] at h
  | .int _, .non, h | .int _, .bl _, h | .int _, .str _, h | .int _, .tup _, h | .int _, .ref _, h => by simp [PV.beq] at h
  | .str _, .non, h | .str _, .bl _, h | .str _, .int _, h | .str _, .tup _, h | .str _, .ref _, h => by simp [PV.beq] at h
  | .tup _, .non, h | .tup _, .bl _, h | .tup _, .int _, h | .tup _, .str _, h | .tup _, .ref _, h => by simp [PV.beq] at h
  | .ref _, .non, h | .ref _, .bl _, h | .ref _, .int _, h | .ref _, .str _, h | .ref _, .tup _, h => by simp [PV.beq] at h
theorem PV.beqs_eq : ∀ {v w : List PV}, PV.beqs v w = true → v = w
  | [], [], _ => rfl
  | x :: xs, y :: ys, h => by
    rw [PV.beqs, Bool.and_eq_true] at h
    rw [PV.beq_eq h.1, PV.beqs_eq h.2]
  | [], _ :: _, h => by simp [PV.beqs] at h
  | _ :: _, [], h => by simp [PV.beqs] at h
end
/-- the result is this thing, nothing made -/
def isV (r : Res PV) (v : PV) : Bool := match r with | .ok w ⟨0, [], 0⟩ => w.beq v | _ => false
theorem isV_eq {r : Res PV} {v : PV} (h : isV r v = true) : r = .ok v Mem.emp := by
  unfold isV at h
  split at h
  · rw [PV.beq_eq h]; rfl
  · cases h
/-- the result is a new list of these -/
def isL (r : Res PV) (xs : List PV) : Bool := match r with | .ok (.ref 0) ⟨1, [.lst ys], 0⟩ => PV.beqs ys xs | _ => false
theorem isL_eq {r : Res PV} {v : List PV} (h : isL r v = true) : r = .ok (.ref 0) ⟨1, [.lst v], 0⟩ := by
  unfold isL at h
  split at h
  · rw [PV.beqs_eq h]
  · cases h
theorem callM_list {cf : CF} {f : Nat} {vs xs : List PV} (h : cf f vs Mem.emp = .ok (.ref 0) ⟨1, [.lst xs], 0⟩) (hv : vs.all PV.pure = true) (hx : xs.all PV.pure = true) (M : Mem) : callM cf f vs M = .ok (.ref M.sz) (M.push (.lst xs)) := by
  simp only [callM, hv, h, hx, if_true]; simp
theorem callM_v {cf : CF} {f : Nat} {vs : List PV} {v : PV} (h : cf f vs Mem.emp = .ok v Mem.emp) (hv : vs.all PV.pure = true) (hx : v.pure = true) (M : Mem) : callM cf f vs M = .ok v M := by
  simp only [callM, hv, h, hx, if_true]
theorem box_at {cf : CF} {f n : Nat} {vs : List PV} {o : MObj} {M : Mem} (hp : vs.all PV.pure = false) (hn : oneRef vs = some n) (hg : M.get n = some o) (ha : (vs.all fun v => v.pure || isRef n v) = true) (ho : o.bnd 0 = true) :
    callM cf f vs M = callBox cf f n (vs.map to0) o M := by
  simp only [callM, hp, hn, hg, ha, ho, Bool.and_self, if_true]; simp
/-- a call with one list of plain things, a plain thing told -/
theorem callM_b {cf : CF} {f n : Nat} {vs ws : List PV} {o o' : MObj} {v : PV} {M : Mem} (hw : vs.map to0 = ws) (h : cf f ws ⟨1, [o], 0⟩ = .ok v ⟨1, [o'], 0⟩) (hv : v.pure = true) (ho' : o'.bnd 0 = true)
    (hp : vs.all PV.pure = false) (hn : oneRef vs = some n) (hg : M.get n = some o) (ha : (vs.all fun v => v.pure || isRef n v) = true) (ho : o.bnd 0 = true) : callM cf f vs M = .ok v (putO M n o') := by
  rw [box_at hp hn hg ha ho, hw]
  simp only [callBox, h, ho', hv, if_true]
/-- the same, a new list told -/
theorem callM_bl {cf : CF} {f n : Nat} {vs ws : List PV} {o o' : MObj} {ys : List PV} {M : Mem} (hw : vs.map to0 = ws) (h : cf f ws ⟨1, [o], 0⟩ = .ok (.ref 1) ⟨2, [.lst ys, o'], 0⟩) (hv : ys.all PV.pure = true) (ho' : o'.bnd 0 = true)
    (hp : vs.all PV.pure = false) (hn : oneRef vs = some n) (hg : M.get n = some o) (ha : (vs.all fun v => v.pure || isRef n v) = true) (ho : o.bnd 0 = true) : callM cf f vs M = .ok (.ref M.sz) ((putO M n o').push (.lst ys)) := by
  rw [box_at hp hn hg ha ho, hw]
  simp only [callBox, h, ho', hv, isRef, if_true]
  simp
theorem trimV_blx (M0 M : Mem) (b : Bool) : ∃ M', trimV M0 (.bl b) M = .ok (.bl b) M' := by
  unfold trimV
  simp only [pure_bl, if_true]
  split
  · exact ⟨_, rfl⟩
  · split <;> exact ⟨_, rfl⟩
theorem kT_blx (M0 M : Mem) (b : Bool) : ∃ M', kT M0 (.ok (.bl b) M) = .ok (.bl b) M' := by
  rw [kT_ok]; exact trimV_blx M0 M b
theorem trimV_cut {M0 M : Mem} {v : PV} (hs : ¬ M.sz = M0.sz) (he : M.esc = M0.esc) (hv : v.bnd M0.sz = true) : trimV M0 v M = .ok v (M.cut M0.sz) := by
  unfold trimV
  rw [if_neg hs, if_pos he, if_pos hv]
theorem trimV_new {M0 M : Mem} {n : Nat} {xs : List PV} (hs : ¬ M.sz = M0.sz) (he : M.esc = M0.esc) (hn : M0.sz ≤ n) (hg : M.get n = some (.lst xs)) (hx : xs.all (PV.bnd M0.sz) = true) : trimV M0 (.ref n) M = .ok (.ref M0.sz) ((M.cut M0.sz).push (.lst xs)) := by
  have hv : ¬ (PV.ref n).bnd M0.sz = true := by simp; omega
  unfold trimV
  rw [if_neg hs, if_pos he, if_neg hv]
  simp only [hg, hx, if_true]
theorem push2_cut (M : Mem) (o o' : MObj) : ((M.push o).push o').cut M.sz = M := by
  have : M.sz + 1 + 1 - M.sz = 2 := by omega
  simp [Mem.cut, Mem.push, this]
end Mn

/-! ### a box of a script's cell -/
namespace Mn
def BX (o : MObj) : Prop := ∃ a b : Int, o = .lst [.int a, .int b] ∧ 0 ≤ a ∧ 1 ≤ b
theorem BX.bnd {o : MObj} (h : BX o) : o.bnd 0 = true := by
  obtain ⟨a, b, rfl, _⟩ := h
  rfl
theorem BX.putO {o : MObj} (h : BX o) (M : Mem) (n : Nat) : putO M n o = M.put n o 0 := by
  obtain ⟨a, b, rfl, _⟩ := h
  rfl
@[simp] theorem trimV_mk (s : Nat) (os os' : List MObj) (e e' : Nat) (v : PV) : trimV ⟨s, os, e⟩ v ⟨s, os', e'⟩ = .ok v ⟨s, os', e'⟩ := trimV_sz v rfl
theorem push_put_top (M : Mem) (o o' : MObj) : (M.push o).put M.sz o' 0 = M.push o' := by simp [Mem.push, Mem.put]
/-- a def that draws: whatever the box, a thing of a sort is told, and a box is left -/
def Dr (cf : CF) (f : Nat) (vs : List PV) (P : PV → Prop) : Prop := ∀ o, BX o → ∃ v o', BX o' ∧ P v ∧ v.pure = true ∧ cf f (.ref 0 :: vs) ⟨1, [o], 0⟩ = .ok v ⟨1, [o'], 0⟩
theorem to0_pure : ∀ {vs : List PV}, vs.all PV.pure = true → vs.map to0 = vs
  | [], _ => rfl
  | v :: vs, h => by
    rw [List.all_cons, Bool.and_eq_true] at h
    rw [List.map_cons, to0_pure h.2]
    congr 1
    cases v <;> first | rfl | (simp [PV.pure, PV.bnd] at h)
theorem allr {n : Nat} {vs : List PV} (hv : vs.all PV.pure = true) : ((PV.ref n :: vs).all fun v => v.pure || isRef n v) = true := by
  rw [List.all_cons, Bool.and_eq_true]
  refine ⟨by simp [isRef], ?_⟩
  rw [List.all_eq_true] at hv ⊢
  intro x hx
  rw [hv x hx]; rfl
/-- called where the box lies at any place -/
theorem Dr.at {cf : CF} {f : Nat} {vs : List PV} {P : PV → Prop} (D : Dr cf f vs P) (hv : vs.all PV.pure = true) {M : Mem} {n : Nat} {o : MObj} (hg : M.get n = some o) (ho : BX o) :
    ∃ v o', BX o' ∧ P v ∧ v.pure = true ∧ callM cf f (.ref n :: vs) M = .ok v (M.put n o' 0) := by
  obtain ⟨v, o', b, p, pv, e⟩ := D o ho
  refine ⟨v, o', b, p, pv, ?_⟩
  rw [callM_b (ws := .ref 0 :: vs) (by rw [List.map_cons, to0_pure hv]; rfl) e pv b.bnd (by simp) rfl hg (allr hv) ho.bnd, b.putO]
/-- the box lies last -/
theorem Dr.top {cf : CF} {f : Nat} {vs : List PV} {P : PV → Prop} (D : Dr cf f vs P) (hv : vs.all PV.pure = true) (M : Mem) {o : MObj} (ho : BX o) :
    ∃ v o', BX o' ∧ P v ∧ v.pure = true ∧ callM cf f (.ref M.sz :: vs) (M.push o) = .ok v (M.push o') := by
  obtain ⟨v, o', b, p, pv, e⟩ := D.at hv (push_get M o) ho
  exact ⟨v, o', b, p, pv, by rw [e, push_put_top]⟩
/-- the box lies first, other lists above it -/
def Bm (L : List MObj) (o : MObj) : Mem := ⟨L.length + 1, L ++ [o], 0⟩
theorem Bm_get (L : List MObj) (o : MObj) : (Bm L o).get 0 = some o := by simp [Mem.get, Bm]
theorem Bm_put (L : List MObj) (o o' : MObj) : (Bm L o).put 0 o' 0 = Bm L o' := by simp [Mem.put, Bm]
theorem Dr.low {cf : CF} {f : Nat} {vs : List PV} {P : PV → Prop} (D : Dr cf f vs P) (hv : vs.all PV.pure = true) (L : List MObj) {o : MObj} (ho : BX o) :
    ∃ v o', BX o' ∧ P v ∧ v.pure = true ∧ callM cf f (.ref 0 :: vs) (Bm L o) = .ok v (Bm L o') := by
  obtain ⟨v, o', b, p, pv, e⟩ := D.at hv (Bm_get L o) ho
  exact ⟨v, o', b, p, pv, by rw [e, Bm_put]⟩
end Mn
namespace Lw
open PySem Mn
/-- a draw -/
theorem take_dr {fs : List (Nat × Fn)} (h5 : fs.lookup 5 = some fn5) (k : Nat) {w : Int} (h1 : 0 < w) (h2 : w < 1073741824) : Dr (run fs (k + 1)) 5 [.int w] fun v => ∃ d : Nat, v = .int d ∧ (d : Int) < w := by
  intro o ho
  obtain ⟨a, b, rfl, ha, hb⟩ := ho
  by_cases hp : 0 < a
  · obtain ⟨d, hd⟩ := Int.eq_ofNat_of_zero_le (Int.emod_nonneg a (show w ≠ 0 by omega))
    refine ⟨.int (a % w), .lst [.int (a / w), .int b], ⟨_, _, rfl, Int.ediv_nonneg ha (by omega), hb⟩, ⟨d, by rw [hd], by rw [← hd]; exact Int.emod_lt_of_pos _ h1⟩, rfl, ?_⟩
    rw [run_at h5 k _ _ rfl]
    simp [fn5, b5, startσ, ixM, Mem.lst?, Mem.get, ixOf, cmpM, truth, hp, binM, setM, h1, h2, Mem.put]
  · let q := b * 69623 % 2147483647
    obtain ⟨d, hd⟩ := Int.eq_ofNat_of_zero_le (Int.emod_nonneg ((q * 2147483647 + ((q * 48271 + 30103) % 2147483629 + 1)) / 8191) (show w ≠ 0 by omega))
    refine ⟨.int ((q * 2147483647 + ((q * 48271 + 30103) % 2147483629 + 1)) / 8191 % w), .lst [.int a, .int ((q * 48271 + 30103) % 2147483629 + 1)], ⟨_, _, rfl, ha, by omega⟩, ⟨d, by rw [hd], by rw [← hd]; exact Int.emod_lt_of_pos _ h1⟩, rfl, ?_⟩
    rw [run_at h5 k _ _ rfl]
    simp [fn5, b5, startσ, ixM, Mem.lst?, Mem.get, ixOf, cmpM, truth, hp, binM, setM, h1, h2, Mem.put, q]
/-- a draw below a number of things -/
theorem take_n {fs : List (Nat × Fn)} (h5 : fs.lookup 5 = some fn5) (k : Nat) {w : Nat} (h1 : 0 < w) (h2 : w ≤ 1000000) : Dr (run fs (k + 1)) 5 [.int w] fun v => ∃ d : Nat, v = .int d ∧ d < w := by
  intro o ho
  obtain ⟨v, o', q1, ⟨d, rfl, hd⟩, q3, q4⟩ := take_dr h5 k (w := (w : Int)) (by omega) (by omega) o ho
  exact ⟨_, o', q1, ⟨d, rfl, by omega⟩, q3, q4⟩
theorem pow18 (M : Mem) : binM .Pow (.int 10) (.int 18) M = .ok (.int 1000000000000000000) M := by
  have e : (10 : Int) ^ (18 : Int).toNat = 1000000000000000000 := by decide
  show (if (0 : Int) ≤ 18 ∧ (18 : Int) ≤ 1000000 ∧ (10 : Int).natAbs < 2 ^ 64 then Res.ok (PV.int ((10 : Int) ^ (18 : Int).toNat)) M else .stuck) = _
  rw [if_pos (by decide), e]
theorem add_ii (i j : Int) (M : Mem) : binM .Add (.int i) (.int j) M = .ok (.int (i + j)) M := rfl
theorem sub_ii (i j : Int) (M : Mem) : binM .Sub (.int i) (.int j) M = .ok (.int (i - j)) M := rfl
theorem mul_ii {i j : Int} (h : isMul i j = true) (M : Mem) : binM .Mult (.int i) (.int j) M = .ok (.int (i * j)) M := by simp [binM, h]
theorem mod_ii {i j : Int} (h : 0 < j) (M : Mem) : binM .Mod (.int i) (.int j) M = .ok (.int (i % j)) M := by simp [binM, h]
theorem fdiv_ii {i j : Int} (h : 0 < j) (h' : j < 1073741824) (M : Mem) : binM .FloorDiv (.int i) (.int j) M = .ok (.int (i / j)) M := by simp [binM, h, h']
theorem bx_m (c : Int) : isMul c (if (1000000000000000000 : Int) ≤ c then 1 else 0) = true := by
  split
  · exact isMul_r (by decide) (by decide)
  · exact isMul_r (by decide) (by decide)
theorem bx_0 (c : Int) : 0 ≤ c * (if (1000000000000000000 : Int) ≤ c then 1 else 0) := by
  split
  · rw [Int.mul_one]; omega
  · rw [Int.mul_zero]; exact Int.le_refl 0
theorem bx_e (i : Nat) {n : Nat} (h : 0 < n) : ixOf n ((i : Int) % (n : Int)) = some (i % n) := by
  have : (i : Int) % (n : Int) = ((i % n : Nat) : Int) := rfl
  have := Nat.mod_lt i h
  simp only [ixOf]
  rw [if_pos (by omega), if_pos (by omega)]
  rfl
def b4r : MSs := (.cons (.asg 3 (.bin .Add (.bin .Mod (.bin .Add (.bin .Mult (.bin .Mod (.var 2) (.int 2147483629)) (.int 48271)) (.bin .Mult (.int 40692) (.var 1))) (.int 2147483629)) (.int 1)))
    (.cons (.ret (.lst (.cons (.bin .Mult (.var 2) (.bcall .int (.cons (.cmp .GtE (.var 2) (.bin .Pow (.int 10) (.int 18))) .nil))) (.cons (.var 3) .nil)))) .nil))
theorem b4_eq : b4 = (.cons (.asg 2 (.bin .Add (.bin .Mult (.int 7919) (.var 1)) (.int 11)))
    (.cons (.ife (.cmp .Lt (.var 1) (.bcall .len (.cons (.var 0) .nil))) (.cons (.asg 2 (.ix (.var 0) (.var 1)))
      .nil) (.cons (.ife (.cmp .Gt (.bcall .len (.cons (.var 0) .nil)) (.int 0)) (.cons (.asg 2 (.bin .Add (.var 2) (.bin .Mult (.bin .Mod (.ix (.var 0) (.bin .Mod (.var 1) (.bcall .len (.cons (.var 0) .nil)))) (.int 2147483629)) (.int 69623))))
        .nil) .nil)
      .nil)) b4r)) := rfl
theorem b4r_ok (cf : CF) (n : Nat) (i c : Int) (M : Mem) : endOf M (evSs cf b4r [some (.ref n), some (.int i), some (.int c), none] M) =
    .ok (.ref M.sz) (M.push (.lst [.int (c * (if (1000000000000000000 : Int) ≤ c then 1 else 0)), .int ((c % 2147483629 * 48271 + 40692 * i) % 2147483629 + 1)])) := by
  simp [b4r, cmpM, truth, pow18, add_ii, mul_ii, mod_ii, bcallM, bx_m]
theorem box0 {fs : List (Nat × Fn)} (h4 : fs.lookup 4 = some fn4) (k i : Nat) (ns : List Int) :
    ∃ o, BX o ∧ run fs (k + 1) 4 [.ref 0, .int i] ⟨1, [.rol (ns.map .int)], 0⟩ = .ok (.ref 1) ⟨2, [o, .rol (ns.map .int)], 0⟩ := by
  have p (x : Int) : 1 ≤ x % 2147483629 + 1 := by omega
  have hg : (⟨1, [.rol (ns.map .int)], 0⟩ : Mem).get 0 = some (.rol (ns.map .int)) := rfl
  rw [run_at h4 k _ _ rfl]
  have fin : ∀ c : Int, endOf ⟨1, [.rol (ns.map .int)], 0⟩ (evSs (run fs k) b4r [some (.ref 0), some (.int i), some (.int c), none] ⟨1, [.rol (ns.map .int)], 0⟩) = .ok (.ref 1) ⟨2, [.lst [.int (c * (if (1000000000000000000 : Int) ≤ c then 1 else 0)), .int ((c % 2147483629 * 48271 + 40692 * i) % 2147483629 + 1)], .rol (ns.map .int)], 0⟩ := fun c => b4r_ok _ 0 i c _
  by_cases hi : i < ns.length
  · refine ⟨_, ⟨_, _, rfl, bx_0 ns[i], p _⟩, (fin ns[i]).symm.trans ?_ |>.symm⟩
    simp [fn4, b4_eq, startσ, ixM, Mem.lst?, hg, cmpM, truth, add_ii, mul_ii, mod_ii, bcallM, seq?, ixOf, hi]
  · by_cases hz : 0 < ns.length
    · obtain ⟨x, hx⟩ : ∃ x, ns[i % ns.length]? = some x := ⟨_, List.getElem?_eq_getElem (Nat.mod_lt i hz)⟩
      refine ⟨_, ⟨_, _, rfl, bx_0 (7919 * (i : Int) + 11 + x % 2147483629 * 69623), p _⟩, (fin (7919 * (i : Int) + 11 + x % 2147483629 * 69623)).symm.trans ?_ |>.symm⟩
      simp [fn4, b4_eq, startσ, ixM, Mem.lst?, hg, cmpM, truth, add_ii, mul_ii, mod_ii, bcallM, seq?, hi, hz, bx_e i hz, hx]
    · refine ⟨_, ⟨_, _, rfl, bx_0 (7919 * (i : Int) + 11), p _⟩, (fin (7919 * (i : Int) + 11)).symm.trans ?_ |>.symm⟩
      simp [fn4, b4_eq, startσ, ixM, Mem.lst?, hg, cmpM, truth, add_ii, mul_ii, mod_ii, bcallM, seq?, hi, hz]
/-- the turn's box: a new list behind the others -/
theorem box_c {fs : List (Nat × Fn)} (h4 : fs.lookup 4 = some fn4) (k i : Nat) {ns : List Int} {M : Mem} (hg : M.get 0 = some (.rol (ns.map .int))) : ∃ o, BX o ∧ callM (run fs (k + 1)) 4 [.ref 0, .int i] M = .ok (.ref M.sz) (M.push o) := by
  obtain ⟨o, ho, e⟩ := box0 h4 k i ns
  refine ⟨o, ho, ?_⟩
  obtain ⟨a, b, rfl, _⟩ := ho
  have hb : (MObj.rol (ns.map .int)).bnd 0 = true := by
    show (ns.map PV.int).all (PV.bnd 0) = true
    rw [List.all_eq_true]; intro x hx
    obtain ⟨j, _, rfl⟩ := List.mem_map.mp hx
    rfl
  have := callM_bl (M := M) (vs := [.ref 0, .int i]) (ws := [.ref 0, .int i]) rfl e (by simp) hb (by simp) rfl hg (by simp [isRef]) hb
  exact this
end Lw
end
section
set_option Elab.async false
set_option linter.all false
set_option maxRecDepth 100000
set_option maxHeartbeats 1000000
namespace Mn
theorem dat_tup_ (d : Nat) (xs : List PV) : (PV.tup xs).dat d = (decide (0 < d) && xs.all fun x => x.dat (d - 1)) := by
  rw [PV.dat, dats_eq]
theorem datb (b : Bool) (n : Nat) : (PV.bl b).dat n = true := by simp [PV.dat]
theorem dati (b : Int) (n : Nat) : (PV.int b).dat n = true := by simp [PV.dat]
/-- data of a depth, no tuple too long -/
def Fit : Nat → PV → Prop
  | 0, .tup _ => False
  | d + 1, .tup xs => xs.length ≤ LIM ∧ ∀ x ∈ xs, Fit d x
  | _, .ref _ => False
  | _, .str x => (x.cps.toList.all fun c => decide (c < 1114112)) = true
  | _, _ => True
theorem Fit.pure : ∀ {d : Nat} {v : PV}, Fit d v → v.pure = true
  | d, .non, _ => rfl
  | d, .bl _, _ => rfl
  | d, .int _, _ => rfl
  | d, .str _, _ => rfl
  | d, .ref _, h => by cases d <;> exact h.elim
  | 0, .tup xs, h => h.elim
  | d + 1, .tup xs, h => by
    rw [PV.pure, bnd_tup, List.all_eq_true]
    exact fun x hx => (h.2 x hx).pure
theorem Fit.dat : ∀ {d e : Nat} {v : PV}, Fit d v → d ≤ e → v.dat e = true
  | d, e, .non, _, _ => by simp [PV.dat]
  | d, e, .bl _, _, _ => by simp [PV.dat]
  | d, e, .int _, _, _ => by simp [PV.dat]
  | 0, e, .str _, h, _ => by rw [PV.dat]; exact h
  | d + 1, e, .str _, h, _ => by rw [PV.dat]; exact h
  | d, e, .ref _, h, _ => by cases d <;> exact h.elim
  | 0, e, .tup xs, h, _ => h.elim
  | d + 1, 0, .tup xs, h, hl => by omega
  | d + 1, e + 1, .tup xs, h, hl => by
    rw [dat_tup_]
    simp only [Nat.add_sub_cancel, Bool.and_eq_true, List.all_eq_true]
    exact ⟨by simp, fun x hx => (h.2 x hx).dat (by omega)⟩
theorem eqv_refl : ∀ {d : Nat} {v : PV}, Fit d v → v.eqv v = true
  | d, .non, _ => by simp [PV.eqv]
  | d, .bl _, _ => by simp [PV.eqv]
  | d, .int _, _ => by simp [PV.eqv]
  | d, .str _, _ => by simp [PV.eqv]
  | d, .ref _, h => by cases d <;> exact h.elim
  | 0, .tup xs, h => h.elim
  | d + 1, .tup xs, h => by
    rw [PV.eqv]
    have : ∀ ys : List PV, (∀ y ∈ ys, y.eqv y = true) → PV.eqv.eqvs ys ys = true := by
      intro ys
      induction ys with
      | nil => intro _; simp [PV.eqv.eqvs]
      | cons y ys ih => intro hy; simp [PV.eqv.eqvs, hy y (by simp), ih (fun z hz => hy z (by simp [hz]))]
    exact this xs fun x hx => eqv_refl (h.2 x hx)
/-- a comprehension over items that stay, each turn giving one -/
theorem lcI_map {own : List Nat} {g : MG} {elt : Ev} {σ : St} {M : Mem} : ∀ (xs ys acc : List PV), acc.length + xs.length ≤ LIM → xs.length = ys.length →
    (∀ (i : Nat) x y, xs[i]? = some x → ys[i]? = some y → ∃ s, assignG g x (wipe σ own) = some s ∧ kT M (elt s M) = .ok y M) →
    lcItems own g none elt σ xs acc M = .ok (acc ++ ys) M
  | [], [], acc, _, _, _ => by simp
  | x :: xs, y :: ys, acc, hl, he, h => by
    obtain ⟨s, a1, a2⟩ := h 0 x y rfl rfl
    rw [lcI_cons, lcT_none, a1]
    simp only [List.length_cons] at hl he
    simp only [a2, lE_ok]
    rw [if_pos (by omega), lT_ok, lcI_map xs ys (acc ++ [y]) (by simp; omega) (by omega) (fun i x y hx hy => h (i + 1) x y (by simpa using hx) (by simpa using hy))]
    simp
def lS (own : List Nat) (g : MG) (cnd : Option Ev) (elt : Ev) (σ : St) (s : Src) (f i : Nat) (r : Res (List PV)) : Res (List PV) := r.bind fun acc' M' => lcSrc own g cnd elt σ s f i acc' M'
@[simp] theorem lS_ok (own : List Nat) (g : MG) (cnd : Option Ev) (elt : Ev) (σ : St) (s : Src) (f i : Nat) (acc : List PV) (M : Mem) : lS own g cnd elt σ s f i (.ok acc M) = lcSrc own g cnd elt σ s f i acc M := rfl
theorem lcS_step (own : List Nat) (g : MG) (cnd : Option Ev) (elt : Ev) (σ : St) (s : Src) (f i : Nat) (acc : List PV) (M : Mem) : lcSrc own g cnd elt σ s (f + 1) i acc M =
    match srcAt s i M with | none => .stuck | some none => .ok acc M | some (some x) => lS own g cnd elt σ s f (i + 1) (lcTurn own g cnd elt σ x acc M) := rfl
/-- the same over a list that stays: as over its items -/
theorem lcS_items {own : List Nat} {g : MG} {elt : Ev} {cnd : Option Ev} {σ : St} {M : Mem} {s : Src} {xs : List PV} (hs : ∀ i : Nat, srcAt s i M = some xs[i]?) : ∀ (m i : Nat) (f : Nat) (ys acc : List PV), m = xs.length - i → i ≤ xs.length → m < f → acc.length + m ≤ LIM → ys.length = m →
    (∀ (j : Nat) x y acc, xs[i + j]? = some x → ys[j]? = some y → acc.length < LIM → lcTurn own g cnd elt σ x acc M = .ok (acc ++ [y]) M) →
    lcSrc own g cnd elt σ s f i acc M = .ok (acc ++ ys) M
  | 0, i, f + 1, [], acc, hm, hi, hf, hl, hy, h => by
    have : xs[i]? = none := List.getElem?_eq_none (by omega)
    rw [lcS_step, hs i, this]; simp
  | m + 1, i, f + 1, y :: ys, acc, hm, hi, hf, hl, hy, h => by
    have hx : xs[i]? = some (xs[i]'(by omega)) := List.getElem?_eq_getElem _
    rw [lcS_step, hs i, hx]
    show lS own g cnd elt σ s f (i + 1) (lcTurn own g cnd elt σ _ acc M) = _
    rw [h 0 _ y acc hx rfl (by omega), lS_ok]
    simp only [List.length_cons] at hy
    rw [lcS_items hs m (i + 1) f ys (acc ++ [y]) (by omega) (by omega) (by omega) (by simp; omega) (by omega) (fun j x y acc hx hy hl => h (j + 1) x y acc (by rw [← hx]; congr 1; omega) (by simpa using hy) hl)]
    simp
theorem bls_trues (n : Nat) : bls? (List.replicate n (.bl true)) = some (List.replicate n true) := by
  induction n with
  | zero => rfl
  | succ n ih => simp [List.replicate_succ, bls?, ih]
theorem zipL_len_ : ∀ xs ys : List PV, xs.length = ys.length → (zipL xs ys).length = xs.length
  | [], [], _ => rfl
  | x :: xs, y :: ys, h => by simp [zipL, zipL_len_ xs ys (by simpa using h)]
theorem zipL_get_ : ∀ (xs ys : List PV) (i : Nat) (z : PV), (zipL xs ys)[i]? = some z → ∃ x y, xs[i]? = some x ∧ ys[i]? = some y ∧ z = .tup [x, y]
  | x :: xs, y :: ys, 0, z, h => ⟨x, y, rfl, rfl, by simpa [zipL] using h.symm⟩
  | x :: xs, y :: ys, i + 1, z, h => by simpa using zipL_get_ xs ys i z (by simpa [zipL] using h)
  | [], _, i, z, h => by simp [zipL] at h
  | _ :: _, [], i, z, h => by simp [zipL] at h
end Mn
namespace Lw
open PySem Mn
@[simp] theorem isi_tup (xs : List PV) (ts : List TyK) (M : Mem) : isiM (.tup xs) ts M = .ok (.bl (ts.contains .tuple)) M := by simp [isiM, tyOf]
@[simp] theorem isi_int (i : Int) (ts : List TyK) (M : Mem) : isiM (.int i) ts M = .ok (.bl (ts.contains .int)) M := by simp [isiM, tyOf]
@[simp] theorem isi_non (ts : List TyK) (M : Mem) : isiM .non ts M = .ok (.bl false) M := by simp [isiM, tyOf]
@[simp] theorem isi_str (x : Str) (ts : List TyK) (M : Mem) : isiM (.str x) ts M = .ok (.bl (ts.contains .str)) M := by simp [isiM, tyOf]
@[simp] theorem isi_bl (b : Bool) (ts : List TyK) (M : Mem) : isiM (.bl b) ts M = .ok (.bl (ts.contains .bool || ts.contains .int)) M := by simp [isiM, tyOf]
theorem isi_ref {n : Nat} {M : Mem} {o : MObj} (h : M.get n = some o) (ts : List TyK) : isiM (.ref n) ts M = .ok (.bl (ts.contains .list)) M := by simp [isiM, tyOf, h]
/-- alike: a thing that holds no places, with itself -/
theorem alike_v {fs : List (Nat × Fn)} (h7 : fs.lookup 7 = some fn7) : ∀ {d : Nat} {v : PV} {k : Nat}, Fit d v → d < k → d ≤ 60 → run fs k 7 [v, v] Mem.emp = .ok (.bl true) Mem.emp
  | d, .non, k + 1, _, _, _ => by
    rw [run_at h7 k _ _ rfl]
    simp [fn7, b7, startσ, cmpM, truth, eqM, shallow, PV.dat, PV.eqv, LIM]
  | d, .bl b, k + 1, _, _, _ => by
    rw [run_at h7 k _ _ rfl]
    simp [fn7, b7, startσ, cmpM, truth, eqM, shallow, PV.dat, PV.eqv, LIM]
  | d, .int i, k + 1, _, _, _ => by
    rw [run_at h7 k _ _ rfl]
    simp [fn7, b7, startσ, cmpM, truth, eqM, shallow, PV.dat, PV.eqv, LIM]
  | d, .str x, k + 1, h, _, h60 => by
    have e := h.dat h60
    rw [run_at h7 k _ _ rfl]
    simp [fn7, b7, startσ, cmpM, truth, eqM, shallow, e, datb, PV.eqv, LIM]
  | d, .ref _, k + 1, h, _, _ => by cases d <;> exact h.elim
  | 0, .tup xs, k + 1, h, _, _ => h.elim
  | d + 1, .tup xs, k + 1, h, hk, h60 => by
    have step : lcItems [2, 3] (.tup (.cons (.name 2) (.cons (.name 3) .nil))) none (evE (run fs k) (.call 7 (.cons (.var 2) (.cons (.var 3) .nil)))) [some (.tup xs), some (.tup xs), none, none] (zipL xs xs) [] Mem.emp = .ok ([] ++ List.replicate xs.length (.bl true)) Mem.emp := by
      refine lcI_map _ _ _ (by simpa [zipL_len_] using h.1) (by simp [zipL_len_]) fun i z y hz hy => ?_
      obtain ⟨a, b, ha, hb, rfl⟩ := zipL_get_ _ _ _ _ hz
      rw [ha] at hb; cases hb
      have hy' : y = .bl true := by
        rw [List.getElem?_replicate] at hy; split at hy <;> simp_all
      subst hy'
      have ham := List.mem_of_getElem? ha
      have := alike_v h7 (k := k) (h.2 a ham) (by omega) (by omega)
      refine ⟨[some (.tup xs), some (.tup xs), some a, some a], by simp, ?_⟩
      simp [callM, this, (h.2 a ham).pure]
    rw [run_at h7 k _ _ rfl]
    simp [fn7, b7, startσ, cmpM, truth, eqM, shallow, PV.dat, PV.eqv, LIM, bcallM, seq?, srcZip, optR, step, Mem.lst?, bls_trues]
/-- alike: two lists of the same things -/
theorem alike_l {fs : List (Nat × Fn)} (h7 : fs.lookup 7 = some fn7) {d k n m : Nat} {M : Mem} {xs : List PV} (hn : M.lst? n = some xs) (hm : M.lst? m = some xs) (h : ∀ x ∈ xs, Fit d x) (hl : xs.length ≤ LIM) (hk : d < k) (h60 : d ≤ 60) :
    run fs (k + 1) 7 [.ref n, .ref m] M = .ok (.bl true) M := by
  have gn : ∃ o, M.get n = some o := by revert hn; simp only [Mem.lst?]; cases M.get n <;> simp
  have gm : ∃ o, M.get m = some o := by revert hm; simp only [Mem.lst?]; cases M.get m <;> simp
  obtain ⟨on, gn⟩ := gn
  obtain ⟨om, gm⟩ := gm
  have step : lcSrc [2, 3] (.tup (.cons (.name 2) (.cons (.name 3) .nil))) none (evE (run fs k) (.call 7 (.cons (.var 2) (.cons (.var 3) .nil)))) [some (.ref n), some (.ref m), none, none] (.at2 n m) (xs.length + 1) 0 [] M = .ok ([] ++ List.replicate xs.length (.bl true)) M := by
    refine lcS_items (xs := zipL xs xs) (fun i => ?_) xs.length 0 _ _ _ (by simp [zipL_len_]) (by omega) (by omega) (by simpa using hl) (by simp) fun i z y acc hz hy ha => ?_
    · simp only [srcAt, hn, hm, Option.bind_some, Option.map_some, zipL_get]
    · rw [Nat.zero_add] at hz
      obtain ⟨a, b, ha, hb, rfl⟩ := zipL_get_ _ _ _ _ hz
      rw [ha] at hb; cases hb
      have hy' : y = .bl true := by
        rw [List.getElem?_replicate] at hy; split at hy <;> simp_all
      subst hy'
      have ham := List.mem_of_getElem? ha
      have := alike_v h7 (k := k) (h a ham) (by omega) (by omega)
      rw [lcT_none]
      simp [callM, this, (h a ham).pure, *]
  rw [run_at h7 k _ _ rfl]
  simp [fn7, b7, startσ, cmpM, truth, eqM, shallow, PV.dat, PV.eqv, LIM, bcallM, seq?, hn, hm, isi_ref gn, isi_ref gm, srcZip, optR, srcLen, step, bls_trues]
  simp [Mem.lst?, bls_trues]
end Lw
end
section
set_option Elab.async false
set_option linter.all false
set_option maxRecDepth 100000
set_option maxHeartbeats 1000000
namespace Mn
theorem push_put (M : Mem) (o o' : MObj) {n : Nat} (e : Nat) (h : n < M.sz) : (M.push o).put n o' e = (M.put n o' e).push o := by
  have : M.sz - n = (M.sz - 1 - n) + 1 := by omega
  simp [Mem.push, Mem.put, this]
theorem put_self {M : Mem} {n : Nat} {o : MObj} (h : M.get n = some o) : M.put n o 0 = M := by
  have hn := get_lt h
  simp only [Mem.get, if_pos hn] at h
  cases M with
  | mk sz objs esc =>
    simp only [Mem.put, Nat.add_zero, Mem.mk.injEq, true_and, and_true]
    apply List.ext_getElem?
    intro i
    rw [List.getElem?_set]
    split
    · subst i
      have hl : sz - 1 - n < objs.length := by
        rw [List.getElem?_eq_some_iff] at h; exact h.1
      simp only [hl, if_true]; exact h.symm
    · rfl
@[simp] theorem trimV_sz' {M0 M : Mem} (v : PV) (h : M.sz = M0.sz) : trimV M0 v M = .ok v M := trimV_sz v h
@[simp] theorem trimV_pp (M : Mem) (v : PV) (n m : Nat) (o o' : MObj) (e e' : Nat) : trimV (M.put n o e) v (M.put m o' e') = .ok v (M.put m o' e') := trimV_sz v rfl
theorem trimV_putpush {M : Mem} {v : PV} (n : Nat) (o o' : MObj) (hv : v.bnd M.sz = true) : trimV M v ((M.put n o 0).push o') = .ok v (M.put n o 0) := by
  have hc := push_cut (M.put n o 0) o'
  rw [put_sz] at hc
  rw [trimV_cut (by simp) (by simp) hv, hc]
theorem trimV_mk1 (s : Nat) (os os' : List MObj) (x : MObj) {v : PV} (h : v.bnd s = true) : trimV ⟨s, os, 0⟩ v ⟨s + 1, x :: os', 0⟩ = .ok v ⟨s, os', 0⟩ := by
  have hs : ¬ (⟨s + 1, x :: os', 0⟩ : Mem).sz = (⟨s, os, 0⟩ : Mem).sz := by show ¬ s + 1 = s; omega
  rw [trimV_cut hs rfl h]
  simp [Mem.cut]
theorem trimV_mk1r (s : Nat) (os os' : List MObj) {xs : List PV} (h : xs.all (PV.bnd s) = true) : trimV ⟨s, os, 0⟩ (.ref s) ⟨s + 1, .lst xs :: os', 0⟩ = .ok (.ref s) ⟨s + 1, .lst xs :: os', 0⟩ := by
  have hs : ¬ (⟨s + 1, .lst xs :: os', 0⟩ : Mem).sz = (⟨s, os, 0⟩ : Mem).sz := by show ¬ s + 1 = s; omega
  have hg : (⟨s + 1, .lst xs :: os', 0⟩ : Mem).get s = some (.lst xs) := by simp [Mem.get]
  rw [trimV_new hs rfl (Nat.le_refl _) hg h]
  simp [Mem.cut, Mem.push]
theorem perm_eraseIdx {α : Type} : ∀ (l : List α) (j : Nat) (h : j < l.length), (l[j] :: l.eraseIdx j).Perm l
  | x :: l, 0, _ => by simp
  | x :: l, j + 1, h => by
    have := perm_eraseIdx l j (by simpa using h)
    simp only [List.getElem_cons_succ, List.eraseIdx_cons_succ]
    exact (List.Perm.swap _ _ _).trans (this.cons x)
/-- ints, read back -/
def toI : PV → Int
  | .int i => i
  | _ => 0
theorem ints_of {p : List PV} {q : List Int} (h : p.Perm (q.map PV.int)) : ∃ l : List Int, p = l.map PV.int ∧ l.Perm q := by
  refine ⟨p.map toI, ?_, ?_⟩
  · rw [List.map_map]
    have : ∀ x ∈ p, (PV.int ∘ toI) x = id x := by
      intro x hx
      have := h.mem_iff.mp hx
      rw [List.mem_map] at this
      obtain ⟨i, _, rfl⟩ := this
      rfl
    exact ((List.map_congr_left this).trans (List.map_id _)).symm
  · have := h.map toI
    rw [List.map_map] at this
    have e : (toI ∘ PV.int) = id := rfl
    rwa [e, List.map_id] at this
def iota (n : Nat) : List Int := (List.range n).map fun (k : Nat) => (k : Int)
theorem rangeL_iota (n : Nat) : rangeL 0 n = (iota n).map PV.int := by simp [rangeL, iota]
theorem iota_length (n : Nat) : (iota n).length = n := by simp [iota]
theorem iota_nodup (n : Nat) : (iota n).Nodup := by
  unfold iota
  exact List.Pairwise.map _ (fun a b h e => h (by omega)) List.nodup_range
theorem iota_mem {n : Nat} {i : Int} : i ∈ iota n ↔ 0 ≤ i ∧ i < n := by
  simp only [iota, List.mem_map, List.mem_range]
  constructor
  · rintro ⟨k, hk, rfl⟩; omega
  · rintro ⟨h1, h2⟩; exact ⟨i.toNat, by omega, by omega⟩
theorem shallow_int (i : Int) : shallow (.int i) = true := by simp [shallow, PV.dat]
theorem shallow_ints (l : List Int) : (l.map PV.int).all shallow = true := by
  rw [List.all_eq_true]; intro x hx
  rw [List.mem_map] at hx
  obtain ⟨i, _, rfl⟩ := hx
  exact shallow_int i
theorem eqv_int (i j : Int) : (PV.int i).eqv (.int j) = (i == j) := by simp [PV.eqv]
theorem findIdx_ints (x : Int) : ∀ l : List Int, x ∈ l → (l.map PV.int).findIdx? (fun y => y.eqv (.int x)) = some (l.idxOf x)
  | y :: l, h => by
    rw [List.map_cons, List.findIdx?_cons, eqv_int]
    by_cases e : y = x
    · subst e; simp
    · have : (y == x) = false := by simpa using e
      rw [this, List.idxOf_cons, this]
      simp only [Bool.false_eq_true, if_false, cond_false]
      rw [findIdx_ints x l ((List.mem_cons.mp h).resolve_left fun h => e h.symm)]
      rfl
theorem index_ints {l : List Int} {x : Int} (h : x ∈ l) (M : Mem) : methM .index (.tup (l.map PV.int)) [.int x] M = .ok (.int (l.idxOf x)) M := by
  simp only [methM, seq?, shallow_ints, shallow_int, findIdx_ints x l h, Bool.and_self, if_true]
theorem any_ints (x : Int) (l : List Int) : ((l.map PV.int).any fun y => y.eqv (.int x)) = decide (x ∈ l) := by
  induction l with
  | nil => simp
  | cons y l ih =>
    rw [List.map_cons, List.any_cons, ih, eqv_int]
    by_cases e : y = x
    · subst e; simp
    · have e' : ¬ x = y := fun h => e h.symm
      simp [e, e', List.mem_cons]
theorem in_ints (x : Int) (l : List Int) (M : Mem) : cmpM .In (.int x) (.tup (l.map PV.int)) M = .ok (.bl (decide (x ∈ l))) M := by
  simp only [cmpM, inM, shallow_int, shallow_ints, Bool.and_self, if_true, any_ints]
theorem notin_ints (x : Int) (l : List Int) (M : Mem) : cmpM .NotIn (.int x) (.tup (l.map PV.int)) M = .ok (.bl (!decide (x ∈ l))) M := by
  simp only [cmpM, inM, shallow_int, shallow_ints, Bool.and_self, if_true, any_ints]
theorem fit_ints {l : List Int} (h : l.length ≤ LIM) : Fit 1 (.tup (l.map PV.int)) := by
  refine ⟨by simpa using h, fun x hx => ?_⟩
  rw [List.mem_map] at hx
  obtain ⟨i, _, rfl⟩ := hx
  trivial
theorem pure_ints (b : Nat) (l : List Int) : (PV.tup (l.map PV.int)).bnd b = true := by
  rw [bnd_tup, List.all_eq_true]
  intro x hx
  rw [List.mem_map] at hx
  obtain ⟨i, _, rfl⟩ := hx
  rfl
theorem ints_some (l : List Int) : ints? (l.map PV.int) = some l := by
  induction l with
  | nil => rfl
  | cons i l ih => simp [ints?, ih]
/-- a comprehension with a test over items that stay -/
theorem lcI_filter {own : List Nat} {g : MG} {c elt : Ev} {σ : St} {M : Mem} {α : Type} (inj : α → PV) (b : α → Bool) (f : α → PV) : ∀ (xs : List α) (acc : List PV), acc.length + xs.length ≤ LIM →
    (∀ x ∈ xs, ∃ s, assignG g (inj x) (wipe σ own) = some s ∧ kTr (c s M) = .ok (b x) M ∧ (b x = true → kT M (elt s M) = .ok (f x) M)) →
    lcItems own g (some c) elt σ (xs.map inj) acc M = .ok (acc ++ (xs.filter b).map f) M
  | [], acc, _, _ => by simp
  | x :: xs, acc, hl, h => by
    obtain ⟨s, a1, a2, a3⟩ := h x List.mem_cons_self
    rw [List.map_cons, lcI_cons, lcT_some, a1]
    simp only [List.length_cons] at hl
    simp only [a2, lC_ok]
    have ih := fun acc hl => lcI_filter inj b f xs acc hl (fun y hy => h y (List.mem_cons_of_mem _ hy))
    cases hb : b x with
    | false =>
      simp only [Bool.false_eq_true, if_false, lT_ok]
      rw [ih acc (by omega), List.filter_cons_of_neg (by simp [hb])]
    | true =>
      simp only [if_true, a3 hb, lE_ok]
      rw [if_pos (by omega), lT_ok, ih _ (by simp; omega), List.filter_cons_of_pos hb]
      simp
/-- the same without a test -/
theorem lcI_map' {own : List Nat} {g : MG} {elt : Ev} {σ : St} {M : Mem} {α : Type} (inj : α → PV) (f : α → PV) (xs : List α) (hl : xs.length ≤ LIM)
    (h : ∀ x ∈ xs, ∃ s, assignG g (inj x) (wipe σ own) = some s ∧ kT M (elt s M) = .ok (f x) M) :
    lcItems own g none elt σ (xs.map inj) [] M = .ok (xs.map f) M := by
  have := lcI_map (own := own) (g := g) (elt := elt) (σ := σ) (M := M) (xs.map inj) (xs.map f) [] (by simpa using hl) (by simp) (fun i x y hx hy => by
    rw [List.getElem?_map] at hx hy
    cases e : xs[i]? with
    | none => rw [e] at hx; cases hx
    | some z =>
      rw [e] at hx hy
      cases hx; cases hy
      exact h z (List.mem_of_getElem? e))
  simpa using this
/-- a loop whose turns go on, an invariant kept -/
theorem for_inv {g : MG} {body : Sv} {P : St → Mem → Prop} : ∀ (xs : List PV) (σ : St) (M : Mem), P σ M →
    (∀ x ∈ xs, ∀ σ M, P σ M → ∃ s, assignG g x σ = some s ∧ ∃ σ' M', body s M = .ok (.next σ') M' ∧ P σ' M') →
    ∃ σ' M', forItems g body xs σ M = .ok (.next σ') M' ∧ P σ' M'
  | [], σ, M, hp, _ => ⟨σ, M, by simp, hp⟩
  | x :: xs, σ, M, hp, h => by
    obtain ⟨s, a1, σ1, M1, e1, p1⟩ := h x List.mem_cons_self σ M hp
    obtain ⟨σ', M', e2, p2⟩ := for_inv xs σ1 M1 p1 (fun y hy => h y (List.mem_cons_of_mem _ hy))
    refine ⟨σ', M', ?_, p2⟩
    rw [forI_cons, a1]
    simp only [e1, aT_next, e2]
theorem ints_perm {l : List PV} {p : List PV} (h : p.Perm l) {q : List Int} (e : l = q.map PV.int) : ∃ r : List Int, p = r.map PV.int ∧ r.Perm q := ints_of (e ▸ h)
end Mn
namespace Lw
open PySem Mn
theorem rangeL_mem {i j : Int} {x : PV} (h : x ∈ rangeL i j) : ∃ z, x = .int z := by
  simp only [rangeL, List.mem_map] at h
  obtain ⟨k, _, rfl⟩ := h
  exact ⟨_, rfl⟩
theorem lr1 {t : Nat} (h : t ≤ 100000) (M : Mem) : bcallM .listR1 [.int (t : Int)] M = .ok (.ref M.sz) (M.push (.lst (rangeL 0 t))) := by
  have hr : (inRange (t : Int) && decide ((t : Int) ≤ 100000)) = true := by
    rw [inRange, decide_eq_true (by omega : -(2 ^ 62) ≤ (t : Int)), decide_eq_true (by omega : (t : Int) < 2 ^ 62), decide_eq_true (by omega : (t : Int) ≤ 100000)]; rfl
  show (if (inRange (t : Int) && decide ((t : Int) ≤ 100000)) = true then Res.ok (PV.ref M.sz) (M.push (.lst (rangeL 0 t))) else .stuck) = _
  rw [if_pos hr]
theorem inR {t : Nat} (h : t ≤ 1000000) : inRange (t : Int) = true := by
  rw [inRange, decide_eq_true (by omega : -(2 ^ 62) ≤ (t : Int)), decide_eq_true (by omega : (t : Int) < 2 ^ 62)]; rfl
theorem draw_loop {fs : List (Nat × Fn)} (h5 : fs.lookup 5 = some fn5) (k : Nat) (things : Int) : ∀ (m : Nat) (left found : List PV) (f : Nat) (o : MObj), BX o → left.length = m → m < f → found.length + m ≤ 100000 →
    ∃ p o', BX o' ∧ p.Perm left ∧
      whileRun (evE (run fs (k + 1)) (.cmp .Gt (.bcall .len (.cons (.var 2) .nil)) (.int 0))) (evSs (run fs (k + 1)) (.cons (.asg 3 (.bin .Add (.var 3) (.tup (.cons (.meth .pop (.var 2) (.cons (.call 5 (.cons (.var 0) (.cons (.bcall .len (.cons (.var 2) .nil)) .nil))) .nil)) .nil)))) .nil)) f
        [some (.ref 0), some (.int things), some (.ref 1), some (.tup found)] ⟨2, [.lst left, o], 0⟩ = .ok (.next [some (.ref 0), some (.int things), some (.ref 1), some (.tup (found ++ p))]) ⟨2, [.lst [], o'], 0⟩
  | 0, left, found, f + 1, o, ho, hl, hf, hb => by
    have : left = [] := List.length_eq_zero_iff.mp hl
    subst this
    refine ⟨[], o, ho, .refl _, ?_⟩
    rw [while_step]
    simp [bcallM, seq?, Mem.lst?, Mem.get, cmpM, truth]
  | m + 1, left, found, f + 1, o, ho, hl, hf, hb => by
    obtain ⟨v, o1, ho1, ⟨j, rfl, hj⟩, _, e⟩ := (take_n h5 k (w := left.length) (by omega) (by omega)).low (by simp) [.lst left] ho
    have e : callM (run fs (k + 1)) 5 [.ref 0, .int left.length] ⟨2, [.lst left, o], 0⟩ = .ok (.int j) ⟨2, [.lst left, o1], 0⟩ := e
    have hx : left[j]? = some (left[j]) := List.getElem?_eq_getElem hj
    obtain ⟨p, o2, ho2, hp, e2⟩ := draw_loop h5 k things m (left.eraseIdx j) (found ++ [left[j]]) f o1 ho1 (by rw [List.length_eraseIdx]; simp [hj]; omega) (by omega) (by simp; omega)
    refine ⟨left[j] :: p, o2, ho2, (hp.cons _).trans (perm_eraseIdx _ _ hj), ?_⟩
    rw [while_step]
    have hlim : found.length + 1 ≤ LIM := by simp only [LIM]; omega
    have hix : ixOf left.length (j : Int) = some j := by simp [ixOf, hj]
    have hpos : 0 < left.length := by omega
    simp [bcallM, seq?, Mem.lst?, Mem.get, cmpM, truth, hpos, recvOk, e, methM, hix, hx, Mem.put, binM, hlim, e2]
theorem order_dr {fs : List (Nat × Fn)} (h5 : fs.lookup 5 = some fn5) (h8 : fs.lookup 8 = some fn8) (k : Nat) {t : Nat} (ht : t ≤ 10000) : Dr (run fs (k + 2)) 8 [.int t] fun v => ∃ l : List Int, v = .tup (l.map PV.int) ∧ l.Perm (iota t) := by
  intro o ho
  obtain ⟨F, hF0, hF⟩ : ∃ F, 50000 < F ∧ ∀ (cf : CF) (σ : St) (M : Mem) (c : ME) (b : MSs), evS cf (.while_ c b) σ M = whileRun (evE cf c) (evSs cf b) F σ M := ⟨WF, by decide, fun _ _ _ _ _ => rfl⟩
  obtain ⟨p, o', ho', hp, e⟩ := draw_loop h5 k t t (rangeL 0 t) [] F o ho (by simp [rangeL]) (by omega) (by simp; omega)
  obtain ⟨l, rfl, hl⟩ := ints_perm hp (rangeL_iota t)
  refine ⟨_, o', ho', ⟨l, rfl, hl⟩, pure_ints 0 l, ?_⟩
  rw [run_at h8 _ _ _ rfl]
  have pb := pure_ints 1 l
  simp [fn8, b8, startσ, lr1 (Nat.le_trans ht (by decide)), -ywhile, hF, e, Mem.push, trimV, LIM, pb, Mem.cut, Mem.get]
end Lw
end
section
set_option Elab.async false
set_option linter.all false
set_option maxRecDepth 100000
set_option maxHeartbeats 1000000
namespace Mn
/-- more has been made since, nothing changed -/
structure Ext (M M' : Mem) : Prop where
  esc : M'.esc = M.esc
  le : M.sz ≤ M'.sz
  cut : M'.cut M.sz = M
theorem Ext.refl (M : Mem) : Ext M M := ⟨rfl, Nat.le_refl _, by simp [Mem.cut]⟩
theorem Ext.push (M : Mem) (o : MObj) : Ext M (M.push o) := ⟨rfl, by simp, push_cut M o⟩
theorem Ext.trans {M M1 M2 : Mem} (h1 : Ext M M1) (h2 : Ext M1 M2) : Ext M M2 := by
  refine ⟨h2.esc.trans h1.esc, Nat.le_trans h1.le h2.le, ?_⟩
  have e : M2.cut M.sz = (M2.cut M1.sz).cut M.sz := by
    have l1 := h1.le
    have l2 := h2.le
    simp only [Mem.cut, List.drop_drop, Mem.mk.injEq, true_and, and_true]
    congr 1; omega
  rw [e, h2.cut, h1.cut]
theorem Ext.trim {M M' : Mem} (h : Ext M M') {v : PV} (hv : v.bnd M.sz = true) : trimV M v M' = .ok v M := by
  by_cases e : M'.sz = M.sz
  · have : M' = M := by
      have := h.cut
      rw [← e] at this
      rw [← this]; simp [Mem.cut]
    rw [this, trimV_same]
  · rw [trimV_cut e h.esc hv, h.cut]
theorem Ext.wh {M M' : Mem} (h : Ext M M') (hw : M'.Wh) : M.Wh := by
  have := h.cut
  have l := h.le
  rw [← this]
  simp only [Mem.Wh, Mem.cut, List.length_drop] at *
  omega
theorem Ext.get {M M' : Mem} (h : Ext M M') {n : Nat} (hn : n < M.sz) : M'.get n = M.get n := by
  have l := h.le
  have e : M.objs = M'.objs.drop (M'.sz - M.sz) := congrArg Mem.objs h.cut.symm
  unfold Mem.get
  rw [if_pos (by omega), if_pos hn, e, List.getElem?_drop]
  congr 1; omega
end Mn
namespace Lw
open PySem Mn
theorem rangeL_get (m i : Nat) (h : i < m) : (rangeL 0 m)[i]? = some (.int i) := by
  simp [rangeL, h]
theorem some_loop {fs : List (Nat × Fn)} (h5 : fs.lookup 5 = some fn5) (k : Nat) (x2 x3 : Option PV) (m : PV) : ∀ (xs : List Int) (acc : List Int) (o : MObj), BX o → acc.length + xs.length ≤ 100000 →
    ∃ l o', BX o' ∧ l.Sublist xs ∧
      lcItems [3] (.name 3) (some (evE (run fs (k + 1)) (.cmp .Eq (.call 5 (.cons (.var 0) (.cons (.int 2) .nil))) (.int 1)))) (evE (run fs (k + 1)) (.var 3)) [some (.ref 0), some m, x2, x3] (xs.map PV.int) (acc.map PV.int) ⟨1, [o], 0⟩ =
        .ok ((acc ++ l).map PV.int) ⟨1, [o'], 0⟩
  | [], acc, o, ho, _ => ⟨[], o, ho, .slnil, by simp⟩
  | x :: xs, acc, o, ho, hl => by
    obtain ⟨v, o1, ho1, ⟨d, rfl, hd⟩, _, e⟩ := (take_n h5 k (w := 2) (by decide) (by decide)).low (by simp) [] ho
    have e : callM (run fs (k + 1)) 5 [.ref 0, .int 2] ⟨1, [o], 0⟩ = .ok (.int d) ⟨1, [o1], 0⟩ := e
    have hlim : acc.length < LIM := by simp only [List.length_cons] at hl; simp only [LIM]; omega
    simp only [List.length_cons] at hl
    by_cases hd : d = 1
    · obtain ⟨l, o2, ho2, hs, e2⟩ := some_loop h5 k x2 x3 m xs (acc ++ [x]) o1 ho1 (by simp; omega)
      refine ⟨x :: l, o2, ho2, hs.cons₂ x, ?_⟩
      rw [List.map_cons, lcI_cons, lcT_some]
      subst hd
      simp [e, cmpM, eqM, shallow_int, eqv_int, hlim, truth]
      simpa using e2
    · obtain ⟨l, o2, ho2, hs, e2⟩ := some_loop h5 k x2 x3 m xs acc o1 ho1 (by omega)
      refine ⟨l, o2, ho2, hs.cons x, ?_⟩
      rw [List.map_cons, lcI_cons, lcT_some]
      have hd' : ((d : Int) == 1) = false := by simp; omega
      simp [e, cmpM, eqM, shallow_int, eqv_int, hd', truth]
      simpa using e2
theorem iota_sorted (n : Nat) : (iota n).Pairwise (· < ·) := by
  unfold iota
  exact List.Pairwise.map _ (fun a b h => by omega) List.pairwise_lt_range
/-- some things, one at least, rising -/
theorem some_dr {fs : List (Nat × Fn)} (h5 : fs.lookup 5 = some fn5) {f : Nat} (h14 : fs.lookup f = some fn14) (k : Nat) {m : Nat} (hm : 0 < m) (hm2 : m ≤ 10000) :
    Dr (run fs (k + 2)) f [.int m] fun v => ∃ l : List Int, v = .tup (l.map PV.int) ∧ l ≠ [] ∧ (∀ y ∈ l, y ∈ iota m) ∧ l.Pairwise (· < ·) ∧ l.length ≤ m := by
  intro o ho
  obtain ⟨l, o1, ho1, hs, e⟩ := some_loop h5 k none none (.int m) (iota m) [] o ho (by simp [iota_length]; omega)
  rw [← rangeL_iota] at e
  have inr := inR (show m ≤ 1000000 by omega)
  have hsl := hs.length_le
  rw [iota_length] at hsl
  have e' := e
  simp only [List.map_nil, List.nil_append] at e'
  cases l with
  | cons y l =>
    refine ⟨_, o1, ho1, ⟨y :: l, rfl, by simp, fun z hz => hs.subset hz, (iota_sorted m).sublist hs, hsl⟩, pure_ints 0 _, ?_⟩
    rw [run_at h14 _ _ _ rfl]
    have hz' : ((l.length : Int) + 1 == 0) = false := by simp; omega
    have t2 := trimV_mk1 1 [o] [o1] (.lst ((y :: l).map PV.int)) (pure_ints 1 (y :: l))
    have t3 := trimV_mk1r 1 [o] [o1] (xs := (y :: l).map PV.int) (by have := pure_ints 1 (y :: l); rwa [bnd_tup] at this)
    simp only [List.map_cons] at e' t2 t3
    simp [fn14, b14, startσ, intR, inr, e', Mem.push, t3, bcallM, seq?, Mem.lst?, Mem.get, cmpM, eqM, shallow_int, eqv_int, hz', truth, t2]
  | nil =>
    obtain ⟨v, o2, ho2, ⟨d, rfl, hd⟩, _, e2⟩ := (take_n h5 k (w := m) hm (by omega)).low (by simp) [.lst []] ho1
    have e2 : callM (run fs (k + 1)) 5 [.ref 0, .int m] ⟨2, [.lst [], o1], 0⟩ = .ok (.int d) ⟨2, [.lst [], o2], 0⟩ := e2
    refine ⟨_, o2, ho2, ⟨[(d : Int)], rfl, by simp, by simpa using iota_mem.mpr ⟨by omega, by omega⟩, by simp, by simp; omega⟩, rfl, ?_⟩
    rw [run_at h14 _ _ _ rfl]
    have t2 := trimV_mk1 1 [o] [o2] (.lst [.int d]) (pure_ints 1 [(d : Int)])
    have t3 := trimV_mk1r 1 [o] [o1] (xs := []) (by simp)
    simp [fn14, b14, startσ, intR, inr, e', Mem.push, t3, bcallM, seq?, Mem.lst?, Mem.get, cmpM, eqM, shallow_int, eqv_int, truth, recvOk, e2, methM, Mem.put, LIM]
    exact t2
/-- one of some fixed things, drawn -/
theorem pick_at {fs : List (Nat × Fn)} (h5 : fs.lookup 5 = some fn5) (k : Nat) {M : Mem} (hw : M.Wh) {n : Nat} {o : MObj} (hg : M.get n = some o) (ho : BX o) {σ : St} {i : Nat} (hσ : σ[i]? = some (some (.ref n))) {es : MEs} {cs : List PV}
    (hes : ∀ M, evEs (run fs (k + 1)) es σ M = .ok cs M) (hcs : cs.all PV.pure = true) {w : Int} (hw1 : (cs.length : Int) = w) (hw2 : 0 < cs.length) (hw3 : cs.length ≤ 1000) :
    ∃ c o', BX o' ∧ c ∈ cs ∧ evE (run fs (k + 1)) (.ix (.lst es) (.call 5 (.cons (.var i) (.cons (.int w) .nil)))) σ M = .ok c (M.put n o' 0) := by
  subst hw1
  have hn := get_lt hg
  obtain ⟨v, o', ho', ⟨j, rfl, hj⟩, _, e⟩ := (take_n h5 k (w := cs.length) hw2 (by omega)).at (by simp) (M := M.push (.lst cs)) (n := n) (by rw [push_get' _ _ hn]; exact hg) ho
  rw [push_put _ _ _ _ hn] at e
  have hx : cs[j]? = some cs[j] := List.getElem?_eq_getElem hj
  have hi : ixOf cs.length (j : Int) = some j := by simp [ixOf, hj]
  have g := push_get (M.put n o' 0) (.lst cs)
  rw [put_sz] at g
  have hp : (cs[j]).bnd M.sz = true := pure_bnd (List.all_eq_true.mp hcs _ (List.getElem_mem hj)) _
  have t := trimV_putpush (M := M) n o' (.lst cs) (v := cs[j]) hp
  have hl : cs.length ≤ LIM := Nat.le_trans hw3 (by decide)
  refine ⟨cs[j], o', ho', List.getElem_mem hj, ?_⟩
  simp [hes, hl, hσ, e, ixM, Mem.lst?, g, hi, hx, t]
end Lw
end
section
set_option Elab.async false
set_option linter.all false
set_option maxRecDepth 100000
set_option maxHeartbeats 1000000
namespace Lw
open PySem Mn
/-- between the turns: the script, and what was drawn -/
structure Drw (ns : List Int) (M : Mem) (S : List PV) : Prop where
  wh : M.Wh
  sz : 2 ≤ M.sz
  g0 : M.get 0 = some (.rol (ns.map .int))
  g1 : M.get 1 = some (.lst S)
/-- a turn draws one thing more -/
def TurnOk (cf : CF) (ns : List Int) (body : MSs) (Good : PV → Prop) (m : Nat) : Prop := ∀ (M : Mem) (S : List PV), Drw ns M S → S.length ≤ 100 → ∀ (i : Nat) (rest : St), rest.length = m →
  ∃ M' x rest', rest'.length = m ∧ Drw ns M' (S ++ [x]) ∧ Good x ∧ evSs cf body (some (.ref 0) :: some (.ref 1) :: some (.int i) :: rest) M = .ok (.next (some (.ref 0) :: some (.ref 1) :: some (.int i) :: rest')) M'
theorem loop_gen {cf : CF} {ns : List Int} {body : MSs} {Good : PV → Prop} {k : Nat} (hT : TurnOk cf ns body Good k) : ∀ (m i : Nat) {M : Mem} {S : List PV}, Drw ns M S → S.length + m ≤ 100 → (∀ x ∈ S, Good x) → ∀ (a : Option PV) (rest : St), rest.length = k →
    ∃ M' S' a' rest', Drw ns M' S' ∧ S'.length ≤ 100 ∧ (∀ x ∈ S', Good x) ∧ rest'.length = k ∧
      forItems (.name 2) (evSs cf body) ((List.range' i m).map fun (k : Nat) => .int (k : Int)) (some (.ref 0) :: some (.ref 1) :: a :: rest) M = .ok (.next (some (.ref 0) :: some (.ref 1) :: a' :: rest')) M'
  | 0, i, M, S, hD, hS, hG, a, rest, hr => ⟨M, S, a, rest, hD, by omega, hG, hr, by simp⟩
  | m + 1, i, M, S, hD, hS, hG, a, rest, hr => by
    obtain ⟨M1, x, r1, hr1, hD1, hx, e⟩ := hT M S hD (by omega) i rest hr
    obtain ⟨M', S', a', r2, q1, q2, q3, q4, e2⟩ := loop_gen hT m (i + 1) hD1 (by simp; omega) (fun y hy => by
      rcases List.mem_append.mp hy with hy | hy
      · exact hG y hy
      · rw [List.mem_singleton] at hy; subst hy; exact hx) (some (.int i)) r1 hr1
    refine ⟨M', S', a', r2, q1, q2, q3, q4, ?_⟩
    rw [List.range'_succ, List.map_cons, forI_cons]
    simp only [assign_name_]
    show aT _ _ _ (evSs cf body (some (.ref 0) :: some (.ref 1) :: some (.int i) :: rest) M) = _
    rw [e, aT_next]
    exact e2
theorem rangeL_range (m : Nat) : rangeL 0 m = (List.range' 0 m).map fun (k : Nat) => .int (k : Int) := by
  simp [rangeL, List.range_eq_range']
/-- a law that draws some things and asks of each: all([right(..) for .. in given + given[:1]]) -/
theorem law_gen {cf : CF} {ns : List Int} (hl : ns.length ≤ 63) {C : Int} {body : MSs} {Good : PV → Prop} {m : Nat} (hT : TurnOk cf ns body Good m) (hP : ∀ x, Good x → ∀ b, x.bnd b = true) {own : List Nat} {g : MG} {elt : ME}
    (hR : ∀ x, Good x → ∀ (a : Option PV) (rest : St) (acc : List PV) (M : Mem), rest.length = m → acc.length < LIM → lcTurn own g none (evE cf elt) (some (.ref 0) :: some (.ref 1) :: a :: rest) x acc M = .ok (acc ++ [.bl true]) M) :
    ∃ M', endOf (scr ns) (evSs cf (.cons (.asg 1 (.lst .nil)) (.cons (.for_ (.name 2) (.range1 (.bin .Add (.int 1) (.bcall .len (.cons (.sl (.var 0) .none (.some (.int C))) .nil)))) body)
      (.cons (.ret (.bcall .all (.cons (.lc own g (.seq (.bin .Add (.var 1) (.sl (.var 1) .none (.some (.int 1))))) .none elt) .nil))) .nil))) (startσ (m + 3) [.ref 0]) (scr ns)) = .ok (.bl true) M' := by
  obtain ⟨t, hm, hm1⟩ : ∃ t : Nat, (1 : Int) + ((cut (ns.map PV.int) none (some C)).length : Nat) = (t : Int) ∧ t ≤ 64 := by
    refine ⟨1 + (cut (ns.map PV.int) none (some C)).length, by omega, ?_⟩
    simp only [cut, List.length_take, List.length_drop, List.length_map]; omega
  have es : startσ (m + 3) [.ref 0] = some (.ref 0) :: none :: none :: List.replicate m none := by
    show some (PV.ref 0) :: List.replicate (m + 2) none = _
    rfl
  let M0 : Mem := scr ns
  let M1 : Mem := M0.push (.lst [])
  obtain ⟨M2, S, a, rest, hD, hS, hG, hr, e⟩ := loop_gen hT t 0 (M := M1) (S := []) ⟨rfl, Nat.le_refl 2, rfl, rfl⟩ (by simp; omega) (by simp) none (List.replicate m none) (by simp)
  rw [← rangeL_range] at e
  have inr : inRange (t : Int) = true := by
    rw [inRange, decide_eq_true (by omega : -(2 ^ 62) ≤ (t : Int)), decide_eq_true (by omega : (t : Int) < 2 ^ 62)]; rfl
  have hg := hD.g1
  have h2 := hD.sz
  have l0 : M1.get 0 = some (.rol (ns.map PV.int)) := rfl
  have t0 : trimV M0 (.ref 1) M1 = .ok (.ref 1) M1 := trimV_ref M0 _
  have len : evE cf (.bin .Add (.int 1) (.bcall .len (.cons (.sl (.var 0) .none (.some (.int C))) .nil))) (some (.ref 0) :: some (.ref 1) :: none :: List.replicate m none) M1 = .ok (.int t) M1 := by
    have g := push_get M1 (.lst (cut (ns.map PV.int) none (some C)))
    simp [slM, Mem.lst?, l0, intR, bcallM, seq?, g, binM, hm]
  let Z := S ++ cut S none (some 1)
  have hZ : ∀ x ∈ Z, Good x := fun x hx => by
    rcases List.mem_append.mp hx with hx | hx
    · exact hG x hx
    · exact hG x (List.mem_of_mem_drop (List.mem_of_mem_take hx))
  have hZl : Z.length ≤ 200 := by
    have : (cut S none (some 1)).length ≤ S.length := by simp only [cut, List.length_take, List.length_drop]; omega
    simp only [Z, List.length_append]; omega
  let M3 := M2.push (.lst Z)
  have add : evE cf (.bin .Add (.var 1) (.sl (.var 1) .none (.some (.int 1)))) (some (.ref 0) :: some (.ref 1) :: a :: rest) M2 = .ok (.ref M2.sz) M3 := by
    have g1 := push_get' M2 (.lst (cut S none (some 1))) (n := 1) (by omega)
    rw [hg] at g1
    have g2 := push_get (M2.push (.lst (cut S none (some 1)))) (.lst Z)
    have za : Z.all (PV.bnd M2.sz) = true := by rw [List.all_eq_true]; exact fun x hx => hP x (hZ x hx) _
    have t := trimV_new (M0 := M2) (M := (M2.push (.lst (cut S none (some 1)))).push (.lst Z)) (by simp only [push_sz]; omega) rfl (by simp only [push_sz]; omega) g2 za
    rw [push2_cut] at t
    have zl : S.length + (cut S none (some 1)).length ≤ LIM := by
      have := List.length_append (as := S) (bs := cut S none (some 1))
      rw [← this]; exact Nat.le_trans hZl (by decide)
    simp only [push_sz] at t
    simp [slM, Mem.lst?, hg, intR, binM, g1, zl]
    exact t
  have lc : lcSrc own g none (evE cf elt) (some (.ref 0) :: some (.ref 1) :: a :: rest) (.at1 M2.sz false) (Z.length + 1) 0 [] M3 = .ok ([] ++ List.replicate Z.length (.bl true)) M3 := by
    refine lcS_items (xs := Z) (fun j => ?_) Z.length 0 _ _ _ (by simp) (by omega) (by omega) (by simpa using Nat.le_trans hZl (by decide)) (by simp) fun j x y acc hx hy ha => ?_
    · simp [srcAt, M3, Mem.lst?]
    · rw [Nat.zero_add] at hx
      have hy' : y = .bl true := by
        rw [List.getElem?_replicate] at hy; split at hy <;> simp_all
      subst hy'
      exact hR x (hZ x (List.mem_of_getElem? hx)) a rest acc M3 hr ha
  have z3 : M3.get M2.sz = some (.lst Z) := push_get _ _
  have g4 := push_get M3 (.lst (List.replicate Z.length (.bl true)))
  obtain ⟨Mx, hx⟩ := trimV_blx M2 (M3.push (.lst (List.replicate Z.length (.bl true)))) true
  obtain ⟨My, hy⟩ := trimV_blx M2 Mx true
  obtain ⟨Mz, hz⟩ := trimV_blx M0 My true
  refine ⟨Mz, ?_⟩
  simp only [show scr ns = M0 from rfl, es]
  have c0 : evE cf (.lst .nil) (some (.ref 0) :: none :: none :: List.replicate m none) M0 = .ok (.ref 1) M1 := rfl
  have alls : (List.replicate Z.length true).all id = true := by simp
  simp [-xlst, c0, t0, -xbin, len, intR, inr, e, add, srcSeq, optR, Mem.lst?, z3, srcLen, lc, bcallM, g4, bls_trues, hx, hy, hz]
/-- a thing more is put to the drawn ones -/
theorem Drw.app {ns : List Int} {M : Mem} {S : List PV} (hD : Drw ns M S) (x : PV) : Drw ns (M.put 1 (.lst (S ++ [x])) 0) (S ++ [x]) :=
  have h2 := hD.sz
  ⟨hD.wh.put _ _ _, by simpa using hD.sz, by rw [put_get' _ _ (by omega) (by decide), hD.g0], put_get hD.wh (by omega) _ _⟩
theorem app_c {ns : List Int} {M : Mem} {S : List PV} (hD : Drw ns M S) (hS : S.length ≤ 100) {x : PV} (hx : x.pure = true) : methM .append (.ref 1) [x] M = .ok .non (M.put 1 (.lst (S ++ [x])) 0) := by
  have hl : S.length < LIM := Nat.lt_of_le_of_lt hS (by decide)
  simp only [methM, hD.g1, hl, hx, if_true]
theorem Drw.box {ns : List Int} {M : Mem} {S : List PV} (hD : Drw ns M S) (o : MObj) : Drw ns (M.push o) S :=
  have h2 := hD.sz
  ⟨hD.wh.push _, by simp; omega, by rw [push_get' _ _ (by omega), hD.g0], by rw [push_get' _ _ (by omega), hD.g1]⟩
end Lw
end
section
set_option Elab.async false
set_option linter.all false
set_option maxRecDepth 100000
set_option maxHeartbeats 1000000
namespace Mn
/-! ### loops -/
theorem for_ix {g : MG} {body : Sv} (P : Nat → St → Mem → Prop) : ∀ (xs : List PV) (i : Nat) (σ : St) (M : Mem), P i σ M →
    (∀ j x, xs[j]? = some x → ∀ σ M, P (i + j) σ M → ∃ s, assignG g x σ = some s ∧ ∃ σ' M', body s M = .ok (.next σ') M' ∧ P (i + j + 1) σ' M') →
    ∃ σ' M', forItems g body xs σ M = .ok (.next σ') M' ∧ P (i + xs.length) σ' M'
  | [], i, σ, M, hp, _ => ⟨σ, M, by simp, hp⟩
  | x :: xs, i, σ, M, hp, h => by
    obtain ⟨s, a1, σ1, M1, e1, p1⟩ := h 0 x rfl σ M hp
    obtain ⟨σ', M', e2, p2⟩ := for_ix P xs (i + 1) σ1 M1 p1 (fun j y hy σ M hp => by
      have := h (j + 1) y (by simpa using hy) σ M (by rw [show i + (j + 1) = i + 1 + j by omega]; exact hp)
      rw [show i + (j + 1) + 1 = i + 1 + j + 1 by omega] at this
      exact this)
    refine ⟨σ', M', ?_, by rw [List.length_cons, show i + (xs.length + 1) = i + 1 + xs.length by omega]; exact p2⟩
    rw [forI_cons, a1]
    simp only [e1, aT_next, e2]
/-- a loop over a list that stays, as over its items -/
def fT (g : MG) (body : Sv) (s : Src) (f i : Nat) (r : Res Flow) : Res Flow := r.bind fun fl M' => afterTurn fl M' (forSrc g body s f i)
@[simp] theorem fT_next (g : MG) (body : Sv) (s : Src) (f i : Nat) (σ : St) (M : Mem) : fT g body s f i (.ok (.next σ) M) = forSrc g body s f i σ M := rfl
@[simp] theorem fT_ret (g : MG) (body : Sv) (s : Src) (f i : Nat) (v : PV) (M : Mem) : fT g body s f i (.ok (.ret v) M) = .ok (.ret v) M := rfl
theorem forS_step (g : MG) (body : Sv) (s : Src) (f i : Nat) (σ : St) (M : Mem) : forSrc g body s (f + 1) i σ M = match srcAt s i M with | none => .stuck | some none => .ok (.next σ) M | some (some x) => (match assignG g x σ with | none => .stuck | some σ' => fT g body s f (i + 1) (body σ' M)) := rfl
theorem forS_ix {g : MG} {body : Sv} {s : Src} {xs : List PV} (P : Nat → St → Mem → Prop) (hs : ∀ j σ M, P j σ M → ∀ i, srcAt s i M = some xs[i]?) : ∀ (m i f : Nat) (σ : St) (M : Mem), m = xs.length - i → i ≤ xs.length → m < f → P i σ M →
    (∀ j x, xs[j]? = some x → ∀ σ M, P j σ M → ∃ s, assignG g x σ = some s ∧ ∃ σ' M', body s M = .ok (.next σ') M' ∧ P (j + 1) σ' M') →
    ∃ σ' M', forSrc g body s f i σ M = .ok (.next σ') M' ∧ P xs.length σ' M'
  | 0, i, f + 1, σ, M, hm, hi, hf, hp, h => by
    have : xs[i]? = none := List.getElem?_eq_none (by omega)
    refine ⟨σ, M, ?_, by rw [show xs.length = i by omega]; exact hp⟩
    rw [forS_step, hs i σ M hp, this]
  | m + 1, i, f + 1, σ, M, hm, hi, hf, hp, h => by
    have hx : xs[i]? = some (xs[i]'(by omega)) := List.getElem?_eq_getElem _
    obtain ⟨s', a1, σ1, M1, e1, p1⟩ := h i _ hx σ M hp
    obtain ⟨σ', M', e2, p2⟩ := forS_ix P hs m (i + 1) f σ1 M1 (by omega) (by omega) (by omega) p1 h
    refine ⟨σ', M', ?_, p2⟩
    rw [forS_step, hs i σ M hp, hx]
    simp only [a1, e1, fT_next, e2]
/-- the same over a list of the memory -/
theorem for_at {g : MG} {body : Sv} {n : Nat} {xs : List PV} (P : Nat → St → Mem → Prop) (hs : ∀ j σ M, P j σ M → M.lst? n = some xs) (σ : St) (M : Mem) (hp : P 0 σ M)
    (h : ∀ j x, xs[j]? = some x → ∀ σ M, P j σ M → ∃ s, assignG g x σ = some s ∧ ∃ σ' M', body s M = .ok (.next σ') M' ∧ P (j + 1) σ' M') :
    ∃ σ' M', forRun g body (.at1 n false) σ M = .ok (.next σ') M' ∧ P xs.length σ' M' := by
  have h0 := hs 0 σ M hp
  obtain ⟨σ', M', e, p⟩ := forS_ix (g := g) (body := body) (s := .at1 n false) (xs := xs) P (fun j σ M hp i => by simp [srcAt, hs j σ M hp]) xs.length 0 (xs.length + 1) σ M (by simp) (by omega) (by omega) hp h
  refine ⟨σ', M', ?_, p⟩
  show forSrc g body (.at1 n false) (srcLen (.at1 n false) M + 1) 0 σ M = _
  simp only [srcLen, h0, Option.getD_some, e]
/-- a loop that looks for something -/
theorem for_find {g : MG} {body : Sv} (P : St → Mem → Prop) (fnd : PV → Option PV) : ∀ (xs : List PV) (σ : St) (M : Mem), P σ M →
    (∀ x ∈ xs, ∀ σ M, P σ M → ∃ s, assignG g x σ = some s ∧ (∀ v, fnd x = some v → ∃ M', body s M = .ok (.ret v) M' ∧ ∃ σ', P σ' M') ∧ (fnd x = none → ∃ σ' M', body s M = .ok (.next σ') M' ∧ P σ' M')) →
    (∀ v, xs.findSome? fnd = some v → ∃ M', forItems g body xs σ M = .ok (.ret v) M' ∧ ∃ σ', P σ' M') ∧ (xs.findSome? fnd = none → ∃ σ' M', forItems g body xs σ M = .ok (.next σ') M' ∧ P σ' M')
  | [], σ, M, hp, _ => ⟨fun v e => (by cases e), fun _ => ⟨σ, M, by simp, hp⟩⟩
  | x :: xs, σ, M, hp, h => by
    obtain ⟨s, a1, h1, h2⟩ := h x List.mem_cons_self σ M hp
    rw [List.findSome?_cons]
    cases e : fnd x with
    | some v =>
      obtain ⟨M', e1, q⟩ := h1 v e
      refine ⟨fun w hw => ?_, fun hw => by cases hw⟩
      cases hw
      refine ⟨M', ?_, q⟩
      rw [forI_cons, a1]
      simp only [e1, aT_ret]
    | none =>
      obtain ⟨σ1, M1, e1, p1⟩ := h2 e
      obtain ⟨q1, q2⟩ := for_find P fnd xs σ1 M1 p1 (fun y hy => h y (List.mem_cons_of_mem _ hy))
      have st : forItems g body (x :: xs) σ M = forItems g body xs σ1 M1 := by
        rw [forI_cons, a1]
        simp only [e1, aT_next]
      rw [st]
      exact ⟨q1, q2⟩
end Mn
namespace Lw
open PySem Mn
end Lw
end
section
set_option Elab.async false
set_option linter.all false
set_option maxRecDepth 100000
set_option maxHeartbeats 1000000
namespace Lw
open PySem Mn
/-! ### orders, numbered -/
def pk : Nat → List Int → List (List Int)
  | 0, _ => [[]]
  | m + 1, left => (List.range left.length).flatMap fun j => (pk m (left.eraseIdx j)).map fun p => left.getD j 0 :: p
/-- all orders of t things -/
def OD (t : Nat) : List (List Int) := pk t (iota t)
def mm (t : Nat) : Nat := (OD t).length
def od (t i : Nat) : List Int := (OD t).getD i []
def oV (o : List Int) : PV := .tup (o.map PV.int)
def ofacts (t : Nat) : Bool := isV (run [(1, fn1)] 1 1 [.int t] Mem.emp) (.int (mm t)) && isL (run [(6, fn6)] 1 6 [.int t] Mem.emp) ((OD t).map oV) &&
  (List.range (mm t)).all fun i => isV (run [(2, fn2)] 1 2 [oV (od t i)] Mem.emp) (.int i) && isV (run [(1, fn1), (3, fn3)] 2 3 [.int t, .int i] Mem.emp) (oV (od t i))
theorem ofacts2 : ofacts 2 = true := by decide +kernel
theorem ofacts3 : ofacts 3 = true := by decide +kernel
theorem ofacts4 : ofacts 4 = true := by decide +kernel
theorem ofact {t : Nat} (ht : t ∈ [2, 3, 4]) : ofacts t = true := by
  simp only [List.mem_cons, List.not_mem_nil, or_false] at ht
  rcases ht with rfl | rfl | rfl
  · exact ofacts2
  · exact ofacts3
  · exact ofacts4
theorem mm_le {t : Nat} (ht : t ∈ [2, 3, 4]) : 0 < mm t ∧ mm t ≤ 24 ∧ t ≤ 4 ∧ 2 ≤ t := by
  simp only [List.mem_cons, List.not_mem_nil, or_false] at ht
  rcases ht with rfl | rfl | rfl <;> decide +kernel
theorem ofact' {t : Nat} (ht : t ∈ [2, 3, 4]) : run [(1, fn1)] 1 1 [.int t] Mem.emp = .ok (.int (mm t)) Mem.emp ∧ run [(6, fn6)] 1 6 [.int t] Mem.emp = .ok (.ref 0) ⟨1, [.lst ((OD t).map oV)], 0⟩ ∧
    ∀ i < mm t, run [(2, fn2)] 1 2 [oV (od t i)] Mem.emp = .ok (.int i) Mem.emp ∧ run [(1, fn1), (3, fn3)] 2 3 [.int t, .int i] Mem.emp = .ok (oV (od t i)) Mem.emp := by
  have := ofact ht
  simp only [ofacts, Bool.and_eq_true, List.all_eq_true, List.mem_range] at this
  exact ⟨isV_eq this.1.1, isL_eq this.1.2, fun i hi => ⟨isV_eq (this.2 i hi).1, isV_eq (this.2 i hi).2⟩⟩
section
variable {fs : List (Nat × Fn)} (h1 : fs.lookup 1 = some fn1) (h2 : fs.lookup 2 = some fn2) (h3 : fs.lookup 3 = some fn3) (h6 : fs.lookup 6 = some fn6) {t : Nat} (ht : t ∈ [2, 3, 4]) (k : Nat)
include h1 ht in
theorem orders_of_ok : run fs (k + 1) 1 [.int t] Mem.emp = .ok (.int (mm t)) Mem.emp :=
  run_up (fs := [(1, fn1)]) (.of (by simpa using h1)) (by omega) (ofact' ht).1
include h6 ht in
theorem orders_ok : run fs (k + 1) 6 [.int t] Mem.emp = .ok (.ref 0) ⟨1, [.lst ((OD t).map oV)], 0⟩ :=
  run_up (fs := [(6, fn6)]) (.of (by simpa using h6)) (by omega) (ofact' ht).2.1
include h2 ht in
theorem number_of_ok {i : Nat} (hi : i < mm t) : run fs (k + 1) 2 [oV (od t i)] Mem.emp = .ok (.int i) Mem.emp :=
  run_up (fs := [(2, fn2)]) (.of (by simpa using h2)) (by omega) ((ofact' ht).2.2 i hi).1
include h1 h3 ht in
theorem order_at_ok {i : Nat} (hi : i < mm t) : run fs (k + 2) 3 [.int t, .int i] Mem.emp = .ok (oV (od t i)) Mem.emp :=
  run_up (fs := [(1, fn1), (3, fn3)]) (.of (by simpa using ⟨h1, h3⟩)) (by omega) ((ofact' ht).2.2 i hi).2
end
/-! ### sayings, numbered -/
/-- the saying of a number -/
def sy (t : Nat) : Nat → Nat → List (List Int)
  | 0, _ => []
  | h + 1, k => sy t h (k / mm t) ++ [od t (k % mm t)]
def sV (s : List (List Int)) : PV := .tup (s.map oV)
/-- all sayings -/
def SY (h t : Nat) : List (List (List Int)) := (List.range (mm t ^ h)).map (sy t h)
theorem sy_length (t : Nat) : ∀ h k, (sy t h k).length = h
  | 0, _ => rfl
  | h + 1, k => by simp [sy, sy_length t h]
theorem sy_front (t : Nat) : ∀ h k, sy t (h + 1) k = od t (k / mm t ^ h % mm t) :: sy t h k
  | 0, k => by simp [sy]
  | h + 1, k => by
    rw [sy, sy_front t h (k / mm t)]
    rw [List.cons_append]
    congr 2
    rw [Nat.div_div_eq_div_mul, Nat.pow_succ, Nat.mul_comm]
theorem pure_o (b : Nat) (o : List Int) : (oV o).bnd b = true := pure_ints b o
theorem pure_s (b : Nat) (s : List (List Int)) : (sV s).bnd b = true := by
  rw [sV, bnd_tup, List.all_eq_true]
  intro x hx
  obtain ⟨o, _, rfl⟩ := List.mem_map.mp hx
  exact pure_o b o
theorem len_oV (o : List Int) (M : Mem) : bcallM .len [oV o] M = .ok (.int o.length) M := by simp [bcallM, oV, seq?]
theorem len_sV (s : List (List Int)) (M : Mem) : bcallM .len [sV s] M = .ok (.int s.length) M := by simp [bcallM, sV, seq?]
theorem src_oV (o : List Int) (M : Mem) : srcSeq (oV o) M = some (.items (o.map PV.int)) := rfl
theorem src_sV (o : List (List Int)) (M : Mem) : srcSeq (sV o) M = some (.items (o.map oV)) := rfl
theorem ixOf_nat {n j : Nat} (h : j < n) : ixOf n (j : Int) = some j := by
  unfold ixOf
  rw [if_pos (by omega), if_pos (by omega), Int.toNat_natCast]
theorem ix_tup {xs : List PV} {i : Nat} {x : PV} (h : xs[i]? = some x) (M : Mem) : ixM (.tup xs) (.int (i : Int)) M = .ok x M := by
  have hi := (List.getElem?_eq_some_iff.mp h).1
  simp only [ixM, ixOf_nat hi, Option.bind_some, h]
theorem ix_sV {s : List (List Int)} {i : Nat} {o : List Int} (h : s[i]? = some o) (M : Mem) : ixM (sV s) (.int (i : Int)) M = .ok (oV o) M :=
  ix_tup (by rw [List.getElem?_map, h]; rfl) M
theorem ix_oV {o : List Int} {i : Nat} {x : Int} (h : o[i]? = some x) (M : Mem) : ixM (oV o) (.int (i : Int)) M = .ok (.int x) M :=
  ix_tup (by rw [List.getElem?_map, h]; rfl) M
theorem addT {xs ys : List PV} (h : xs.length + ys.length ≤ 16777216) (M : Mem) : binM .Add (.tup xs) (.tup ys) M = .ok (.tup (xs ++ ys)) M := by
  simp only [binM]; exact if_pos h
theorem addI (i j : Int) (M : Mem) : binM .Add (.int i) (.int j) M = .ok (.int (i + j)) M := rfl
theorem modN {a b : Nat} (h : 0 < b) (M : Mem) : binM .Mod (.int (a : Int)) (.int (b : Int)) M = .ok (.int ((a % b : Nat) : Int)) M := by
  rw [mod_ii (by omega)]; rfl
theorem divN {a b : Nat} (h : 0 < b) (h' : b < 1073741824) (M : Mem) : binM .FloorDiv (.int (a : Int)) (.int (b : Int)) M = .ok (.int ((a / b : Nat) : Int)) M := by
  rw [fdiv_ii (by omega) (by omega)]; rfl
theorem mulN {a b : Nat} (h : b < 1073741824) (M : Mem) : binM .Mult (.int (a : Int)) (.int (b : Int)) M = .ok (.int ((a * b : Nat) : Int)) M := by
  rw [mul_ii (isMul_r (by omega) (by omega))]; rfl
theorem addN (a b : Nat) (M : Mem) : binM .Add (.int (a : Int)) (.int (b : Int)) M = .ok (.int ((a + b : Nat) : Int)) M := rfl
section
variable {fs : List (Nat × Fn)} (h1 : fs.lookup 1 = some fn1) (h2 : fs.lookup 2 = some fn2) (h3 : fs.lookup 3 = some fn3) (h6 : fs.lookup 6 = some fn6) {t : Nat} (ht : t ∈ [2, 3, 4]) (k : Nat)
include h1 h3 ht in
theorem saying_at_ok (h25 : fs.lookup 25 = some fn25) {h : Nat} (hh : h ≤ 1000) (n : Nat) : run fs (k + 3) 25 [.int h, .int t, .int n] Mem.emp = .ok (sV (sy t h n)) Mem.emp := by
  obtain ⟨m0, m1, _, _⟩ := mm_le ht
  obtain ⟨σ', M', e, rfl, a, rfl⟩ := for_ix (g := .name 5) (body := evSs (run fs (k + 2)) (.cons (.asg 4 (.bin .Add (.tup (.cons (.call 3 (.cons (.var 1) (.cons (.bin .Mod (.var 2) (.var 3)) .nil))) .nil)) (.var 4))) (.cons (.asg 2 (.bin .FloorDiv (.var 2) (.var 3))) .nil)))
    (fun j σ M => M = Mem.emp ∧ ∃ a, σ = [some (.int h), some (.int t), some (.int (n / mm t ^ j : Nat)), some (.int (mm t)), some (sV (sy t j n)), a]) (rangeL 0 h) 0
    [some (.int h), some (.int t), some (.int n), some (.int (mm t)), some (.tup []), none] Mem.emp ⟨rfl, none, by simp [sy, sV]⟩ (by
      intro j x hx σ M hP
      obtain ⟨rfl, a, rfl⟩ := hP
      rw [Nat.zero_add]
      have hj : j < h := by
        have := (List.getElem?_eq_some_iff.mp hx).1
        simpa [rangeL] using this
      refine ⟨_, rfl, [some (.int h), some (.int t), some (.int (n / mm t ^ (j + 1) : Nat)), some (.int (mm t)), some (sV (sy t (j + 1) n)), some x], Mem.emp, ?_, rfl, _, rfl⟩
      have c := callM_v (order_at_ok h1 h3 ht k (Nat.mod_lt (n / mm t ^ j) m0)) (by simp) (pure_o 0 _)
      have ad := addT (xs := [oV (od t (n / mm t ^ j % mm t))]) (ys := (sy t j n).map oV) (by simp [sy_length]; omega)
      have one : (1 : Nat) ≤ LIM := by decide
      have md := modN (a := n / mm t ^ j) (b := mm t) m0
      have dv := divN (a := n / mm t ^ j) (b := mm t) m0 (by omega)
      rw [Nat.div_div_eq_div_mul, ← Nat.pow_succ] at dv
      have fr := sy_front t j n
      generalize n / mm t ^ j = q at *
      simp [md, c, one, sV, ad, dv, fr, -Int.natCast_emod, -Int.natCast_ediv, -Int.natCast_pow])
  rw [Nat.zero_add, show (rangeL 0 (h : Int)).length = h by simp [rangeL]] at e
  rw [run_at h25 _ _ _ rfl]
  have c1 := callM_v (orders_of_ok h1 ht (k + 1)) (by simp) rfl
  simp [fn25, b25, startσ, c1, intR, inR (show h ≤ 1000000 by omega), e]
include h1 h2 ht in
theorem place_of_ok (h26 : fs.lookup 26 = some fn26) {is : List Nat} (hi : ∀ i ∈ is, i < mm t) (hne : is ≠ []) (hlen : ∀ i ∈ is, (od t i).length = t) :
    run fs (k + 2) 26 [sV (is.map (od t))] Mem.emp = .ok (.int (is.foldl (fun a i => a * mm t + i) 0 : Nat)) Mem.emp := by
  obtain ⟨m0, m1, t4, _⟩ := mm_le ht
  obtain ⟨σ', M', e, rfl, a, rfl⟩ := for_ix (g := .name 3) (body := evSs (run fs (k + 1)) (.cons (.asg 2 (.bin .Add (.bin .Mult (.var 2) (.var 1)) (.call 2 (.cons (.var 3) .nil)))) .nil))
    (fun j σ M => M = Mem.emp ∧ ∃ a, σ = [some (sV (is.map (od t))), some (.int (mm t)), some (.int ((is.take j).foldl (fun a i => a * mm t + i) 0 : Nat)), a]) ((is.map (od t)).map oV) 0
    [some (sV (is.map (od t))), some (.int (mm t)), some (.int 0), none] Mem.emp ⟨rfl, none, by simp⟩ (by
      intro j x hx σ M hP
      obtain ⟨rfl, a, rfl⟩ := hP
      rw [Nat.zero_add]
      rw [List.getElem?_map, List.getElem?_map] at hx
      obtain ⟨i, e1, rfl⟩ : ∃ i, is[j]? = some i ∧ x = oV (od t i) := by
        cases e : is[j]? with
        | none => rw [e] at hx; cases hx
        | some i => rw [e] at hx; cases hx; exact ⟨i, rfl, rfl⟩
      have hj : j < is.length := (List.getElem?_eq_some_iff.mp e1).1
      have e2 : is.take (j + 1) = is.take j ++ [i] := by rw [List.take_succ, e1]; rfl
      refine ⟨_, rfl, [some (sV (is.map (od t))), some (.int (mm t)), some (.int ((is.take (j + 1)).foldl (fun a i => a * mm t + i) 0 : Nat)), some (oV (od t i))], Mem.emp, ?_, rfl, _, rfl⟩
      have c := callM_v (number_of_ok h2 ht k (hi i (List.mem_of_getElem? e1))) (by simp [pure_o]) rfl
      rw [e2, List.foldl_append, List.foldl_cons, List.foldl_nil]
      generalize (is.take j).foldl (fun a i => a * mm t + i) 0 = q
      have ml := mulN (a := q) (b := mm t) (by omega)
      have ad := addN (q * mm t) i
      simp [ml, c, ad, -Int.natCast_mul, -Int.natCast_add])
  rw [Nat.zero_add] at e
  simp only [List.length_map, List.take_length] at e
  rw [run_at h26 _ _ _ rfl]
  obtain ⟨i0, e0⟩ : ∃ i0, is[0]? = some i0 := by
    cases is with
    | nil => exact (hne rfl).elim
    | cons i0 is => exact ⟨i0, rfl⟩
  have l0 := hlen i0 (List.mem_of_getElem? e0)
  have c1 := callM_v (orders_of_ok h1 ht k) (by simp) rfl
  have x0 := ix_sV (s := is.map (od t)) (i := 0) (o := od t i0) (by rw [List.getElem?_map, e0]; rfl)
  have ln := len_oV (od t i0)
  rw [l0] at ln
  generalize is.map (od t) = S at *
  have x0' : ∀ M, ixM (sV S) (.int 0) M = .ok (oV (od t i0)) M := x0
  simp [fn26, b26, startσ, x0', ln, c1, src_sV, optR, e]
end
end Lw
end
section
set_option Elab.async false
set_option linter.all false
set_option maxRecDepth 100000
set_option maxHeartbeats 1000000
namespace Lw
open PySem Mn
theorem len_push (M : Mem) (xs : List PV) : bcallM .len [.ref M.sz] (M.push (.lst xs)) = .ok (.int xs.length) (M.push (.lst xs)) := by
  have g := push_get M (.lst xs)
  simp [bcallM, seq?, Mem.lst?, g]
/-! ### digits -/
def dg (m : Nat) : Nat → Nat → List Nat
  | 0, _ => []
  | h + 1, k => dg m h (k / m) ++ [k % m]
theorem dg_length (m : Nat) : ∀ h k, (dg m h k).length = h
  | 0, _ => rfl
  | h + 1, k => by simp [dg, dg_length m h]
theorem sy_dg (t : Nat) : ∀ h k, sy t h k = (dg (mm t) h k).map (od t)
  | 0, _ => rfl
  | h + 1, k => by simp [sy, dg, sy_dg t h]
theorem dg_lt {m : Nat} (hm : 0 < m) : ∀ h k, ∀ i ∈ dg m h k, i < m
  | 0, _, i, hi => by cases hi
  | h + 1, k, i, hi => by
    rcases List.mem_append.mp hi with hi | hi
    · exact dg_lt hm h _ i hi
    · rw [List.mem_singleton] at hi; subst hi; exact Nat.mod_lt _ hm
theorem dg_val (m : Nat) : ∀ h k, (dg m h k).foldl (fun a i => a * m + i) 0 = k % m ^ h
  | 0, k => by simp [dg, Nat.mod_one]
  | h + 1, k => by
    rw [dg, List.foldl_append, List.foldl_cons, List.foldl_nil, dg_val m h, Nat.pow_succ, Nat.mul_comm (m ^ h) m, Nat.mod_mul, Nat.mul_comm, Nat.add_comm]
theorem od_length {t : Nat} (ht : t ∈ [2, 3, 4]) {i : Nat} (hi : i < mm t) : (od t i).length = t := by
  have : ∀ t ∈ [2, 3, 4], ∀ i < mm t, (od t i).length = t := by decide +kernel
  exact this t ht i hi
theorem od_perm {t : Nat} (ht : t ∈ [2, 3, 4]) {i : Nat} (hi : i < mm t) : (od t i).Perm (iota t) := by
  have : ∀ t ∈ [2, 3, 4], ∀ i < mm t, (od t i).isPerm (iota t) = true := by decide +kernel
  exact List.isPerm_iff.mp (this t ht i hi)
theorem OD_get {t i : Nat} (hi : i < mm t) : (OD t)[i]? = some (od t i) := by
  unfold od mm at *
  simp [hi]
section
variable {fs : List (Nat × Fn)} (h1 : fs.lookup 1 = some fn1) (h2 : fs.lookup 2 = some fn2) (h3 : fs.lookup 3 = some fn3) (h6 : fs.lookup 6 = some fn6) {t : Nat} (ht : t ∈ [2, 3, 4]) (k : Nat)
include h1 h2 ht in
theorem place_sy (h26 : fs.lookup 26 = some fn26) {h n : Nat} (hh : 0 < h) (hn : n < mm t ^ h) : run fs (k + 2) 26 [sV (sy t h n)] Mem.emp = .ok (.int n) Mem.emp := by
  obtain ⟨m0, _⟩ := mm_le ht
  have := place_of_ok h1 h2 ht k h26 (is := dg (mm t) h n) (dg_lt m0 h n) (by intro e; have := dg_length (mm t) h n; rw [e] at this; simp at this; omega) (fun i hi => od_length ht (dg_lt m0 h n i hi))
  rw [← sy_dg, dg_val, Nat.mod_eq_of_lt hn] at this
  exact this
include h1 ht in
theorem how_many_ok (h24 : fs.lookup 24 = some fn24) {h : Nat} (hh : h ≤ 1000) : run fs (k + 2) 24 [.int h, .int t] Mem.emp = .ok (.int (mm t ^ h : Nat)) Mem.emp := by
  obtain ⟨m0, m1, _, _⟩ := mm_le ht
  obtain ⟨σ', M', e, rfl, a, rfl⟩ := for_ix (g := .name 3) (body := evSs (run fs (k + 1)) (.cons (.asg 2 (.bin .Mult (.var 2) (.call 1 (.cons (.var 1) .nil)))) .nil))
    (fun j σ M => M = Mem.emp ∧ ∃ a, σ = [some (.int h), some (.int t), some (.int (mm t ^ j : Nat)), a]) (rangeL 0 h) 0 [some (.int h), some (.int t), some (.int 1), none] Mem.emp ⟨rfl, none, by simp⟩ (by
      intro j x hx σ M hP
      obtain ⟨rfl, a, rfl⟩ := hP
      rw [Nat.zero_add]
      refine ⟨_, rfl, [some (.int h), some (.int t), some (.int (mm t ^ (j + 1) : Nat)), some x], Mem.emp, ?_, rfl, _, rfl⟩
      have c := callM_v (orders_of_ok h1 ht k) (by simp) rfl
      have ml := mulN (a := mm t ^ j) (b := mm t) (by omega)
      rw [← Nat.pow_succ] at ml
      simp [c, ml, -Int.natCast_pow])
  rw [Nat.zero_add, show (rangeL 0 (h : Int)).length = h by simp [rangeL]] at e
  rw [run_at h24 _ _ _ rfl]
  simp [fn24, b24, startσ, intR, inR (show h ≤ 1000000 by omega), e, -Int.natCast_pow]
include h6 ht in
theorem many_ok (h28 : fs.lookup 28 = some fn28) {h : Nat} (hh : h ≤ 1000) : run fs (k + 2) 28 [.int h, .int t] Mem.emp = .ok (.int (mm t ^ h : Nat)) Mem.emp := by
  obtain ⟨m0, m1, _, _⟩ := mm_le ht
  obtain ⟨σ', M', e, rfl, a, rfl⟩ := for_ix (g := .name 3) (body := evSs (run fs (k + 1)) (.cons (.asg 2 (.bin .Mult (.var 2) (.bcall .len (.cons (.call 6 (.cons (.var 1) .nil)) .nil)))) .nil))
    (fun j σ M => M = Mem.emp ∧ ∃ a, σ = [some (.int h), some (.int t), some (.int (mm t ^ j : Nat)), a]) (rangeL 0 h) 0 [some (.int h), some (.int t), some (.int 1), none] Mem.emp ⟨rfl, none, by simp⟩ (by
      intro j x hx σ M hP
      obtain ⟨rfl, a, rfl⟩ := hP
      rw [Nat.zero_add]
      refine ⟨_, rfl, [some (.int h), some (.int t), some (.int (mm t ^ (j + 1) : Nat)), some x], Mem.emp, ?_, rfl, _, rfl⟩
      have c := callM_list (orders_ok h6 ht k) (by simp) (by rw [List.all_eq_true]; intro x hx; obtain ⟨o, _, rfl⟩ := List.mem_map.mp hx; exact pure_o 0 o)
      have ml := mulN (a := mm t ^ j) (b := mm t) (by omega)
      rw [← Nat.pow_succ] at ml
      have bl' := len_push Mem.emp ((OD t).map oV)
      rw [List.length_map] at bl'
      have bl' : bcallM .len [.ref Mem.emp.sz] (Mem.emp.push (.lst ((OD t).map oV))) = .ok (.int (mm t : Nat)) (Mem.emp.push (.lst ((OD t).map oV))) := bl'
      simp [c, bl', ml, -Int.natCast_pow])
  rw [Nat.zero_add, show (rangeL 0 (h : Int)).length = h by simp [rangeL]] at e
  rw [run_at h28 _ _ _ rfl]
  simp [fn28, b28, startσ, intR, inR (show h ≤ 1000000 by omega), e, -Int.natCast_pow]
end
theorem said_ok {fs : List (Nat × Fn)} (h32 : fs.lookup 32 = some fn32) (k : Nat) {s : List (List Int)} {h : Nat} (hh : h < s.length) (hs : s.length ≤ 1000) (o : List Int) : run fs (k + 1) 32 [sV s, .int h, oV o] Mem.emp = .ok (sV (s.set h o)) Mem.emp := by
  have i1 : cut (s.map oV) none (some (h : Int)) = (s.take h).map oV := by
    simp only [cut, sIx]
    rw [if_pos (by omega), Int.toNat_natCast]
    simp [Nat.min_eq_left (Nat.le_of_lt hh), List.map_take]
  have i2 : cut (s.map oV) (some ((h : Int) + 1)) none = (s.drop (h + 1)).map oV := by
    simp only [cut, sIx]
    rw [if_pos (by omega), show ((h : Int) + 1).toNat = h + 1 by omega]
    have : (h + 1).min (s.map oV).length = h + 1 := by rw [List.length_map]; exact Nat.min_eq_left hh
    rw [this, List.take_of_length_le (by simp), List.map_drop]
  have a1 := addT (xs := (s.take h).map oV) (ys := [oV o]) (by simp only [List.length_map, List.length_take, List.length_cons, List.length_nil]; omega)
  have a2 := addT (xs := (s.take h).map oV ++ [oV o]) (ys := (s.drop (h + 1)).map oV) (by simp only [List.length_append, List.length_map, List.length_take, List.length_drop, List.length_cons, List.length_nil]; omega)
  have one : (1 : Nat) ≤ LIM := by decide
  have fin : (s.take h).map oV ++ [oV o] ++ (s.drop (h + 1)).map oV = (s.set h o).map oV := by
    rw [List.set_eq_take_append_cons_drop, if_pos hh]; simp
  rw [fin] at a2
  rw [run_at h32 _ _ _ rfl]
  have s1 : ∀ M, slM (sV s) none (some (h : Int)) M = .ok (.tup ((s.take h).map oV)) M := fun M => by simp only [slM, sV, i1]
  have s2 : ∀ M, slM (sV s) (some ((h : Int) + 1)) none M = .ok (.tup ((s.drop (h + 1)).map oV)) M := fun M => by simp only [slM, sV, i2]
  have ad := addI (h : Int) 1
  generalize (s.take h).map oV = A at *
  generalize (s.drop (h + 1)).map oV = B at *
  have a2' : ∀ M, binM .Add (.tup (A ++ [oV o])) (.tup B) M = .ok (sV (s.set h o)) M := a2
  simp [fn32, b32, startσ, s1, s2, intR, one, a1, ad, a2']
/-! ### order of sayings -/
theorem od_lt {t : Nat} (ht : t ∈ [2, 3, 4]) {i j : Nat} (hj : j < mm t) (hi : i ≤ j) : (oV (od t j)).lt (oV (od t i)) = false ∧ ((oV (od t j)).eqv (oV (od t i)) = decide (i = j)) ∧ (oV (od t j)).alk (oV (od t i)) = true := by
  have : ∀ t ∈ [2, 3, 4], ∀ j < mm t, ∀ i < j + 1, (oV (od t j)).lt (oV (od t i)) = false ∧ ((oV (od t j)).eqv (oV (od t i)) = decide (i = j)) ∧ (oV (od t j)).alk (oV (od t i)) = true := by decide +kernel
  exact this t ht j hj i (by omega)
end Lw
end
section
set_option Elab.async false
set_option linter.all false
set_option maxRecDepth 100000
set_option maxHeartbeats 1000000
namespace Lw
open PySem Mn
def SZ : List (Nat × Nat) := [(2, 3), (2, 3), (2, 3), (3, 3), (3, 3), (1, 3), (2, 2), (3, 2), (1, 4), (1, 2), (2, 3), (2, 3), (3, 3), (2, 3), (1, 4), (2, 4)]
def zV (z : Nat × Nat) : PV := .tup [.int z.1, .int z.2]
theorem sz_ok {z : Nat × Nat} (h : z ∈ SZ) : z.2 ∈ [2, 3, 4] ∧ 1 ≤ z.1 ∧ z.1 ≤ 3 ∧ mm z.2 ^ z.1 ≤ 576 := by
  have : ∀ z ∈ SZ, z.2 ∈ [2, 3, 4] ∧ 1 ≤ z.1 ∧ z.1 ≤ 3 ∧ mm z.2 ^ z.1 ≤ 576 := by decide +kernel
  exact this z h
theorem sizes_dr {fs : List (Nat × Fn)} (h5 : fs.lookup 5 = some fn5) {f : Nat} (hf : fs.lookup f = some fn27) (k : Nat) : Dr (run fs (k + 2)) f [] fun v => ∃ z ∈ SZ, v = zV z := by
  intro o ho
  let L1 := (SZ.take 8).map zV
  let L := SZ.map zV
  obtain ⟨v, o', ho', ⟨d, rfl, hd⟩, _, e⟩ := (take_n h5 k (w := 16) (by decide) (by decide)).low (by simp) [.lst L, .lst L1] ho
  have e : callM (run fs (k + 1)) 5 [.ref 0, .int 16] ⟨3, [.lst L, .lst L1, o], 0⟩ = .ok (.int d) ⟨3, [.lst L, .lst L1, o'], 0⟩ := e
  have hx : L[d]? = some (zV (SZ[d]'hd)) := by
    simp only [L, List.getElem?_map, List.getElem?_eq_getElem (show d < SZ.length from hd)]; rfl
  have hi : ixOf 16 (d : Int) = some d := ixOf_nat hd
  refine ⟨zV (SZ[d]'hd), o', ho', ⟨_, List.getElem_mem hd, rfl⟩, rfl, ?_⟩
  generalize SZ[d]'hd = z at *
  have ix : ixM (.ref 2) (.int d) ⟨3, [.lst L, .lst L1, o'], 0⟩ = .ok (zV z) ⟨3, [.lst L, .lst L1, o'], 0⟩ := by
    have g : (⟨3, [.lst L, .lst L1, o'], 0⟩ : Mem).lst? 2 = some L := rfl
    have hl : L.length = 16 := rfl
    simp only [ixM, g, hl, hi, Option.bind_some, hx]
  rw [run_at hf _ _ _ rfl]
  simp [L, L1, SZ, zV] at e ix
  simp [fn27, b27, startσ, LIM, Mem.push, trimV, Mem.get, Mem.cut, binM, PV.bnd, PV.bnd.bnds, e, ix, zV]
end Lw
end
section
set_option Elab.async false
set_option linter.all false
set_option maxRecDepth 100000
set_option maxHeartbeats 1000000
namespace Lw
open PySem Mn
theorem rangeL_nat (m : Nat) : rangeL 0 m = (List.range m).map fun (k : Nat) => .int (k : Int) := by simp [rangeL]
theorem eq_ii (i j : Int) (M : Mem) : cmpM .Eq (.int i) (.int j) M = .ok (.bl (i == j)) M := by simp [cmpM, eqM, shallow_int, eqv_int]
theorem ne_ii (i j : Int) (M : Mem) : cmpM .NotEq (.int i) (.int j) M = .ok (.bl (!(i == j))) M := by simp [cmpM, eqM, shallow_int, eqv_int]
theorem mul_ok {a : Int} {b : Nat} (h : b ≤ 1000000) (M : Mem) : binM .Mult (.int a) (.int (b : Int)) M = .ok (.int (a * b)) M := mul_ii (isMul_r (by omega) (by omega)) M
/-! ### every order has a number; sayings by digits -/
theorem mem_pk : ∀ (m : Nat) (left p : List Int), left.length = m → p.Perm left → p ∈ pk m left
  | 0, left, p, hl, hp => by
    have : left = [] := List.length_eq_zero_iff.mp hl
    subst this
    have := hp.eq_nil
    subst this
    simp [pk]
  | m + 1, left, p, hl, hp => by
    cases p with
    | nil => have := hp.length_eq; simp at this; omega
    | cons x p =>
      have hx : x ∈ left := hp.mem_iff.mp List.mem_cons_self
      have hi : left.idxOf x < left.length := List.idxOf_lt_length_of_mem hx
      have e : left[left.idxOf x] = x := List.getElem_idxOf hi
      simp only [pk, List.mem_flatMap, List.mem_range, List.mem_map]
      refine ⟨left.idxOf x, hi, p, ?_, ?_⟩
      · refine mem_pk m _ p (by rw [List.length_eraseIdx]; simp [hi]; omega) ?_
        have h2 := perm_eraseIdx left _ hi
        rw [e] at h2
        exact (hp.trans h2.symm).cons_inv
      · rw [List.getD_eq_getElem?_getD, List.getElem?_eq_getElem hi, e]; rfl
theorem perm_od {t : Nat} {l : List Int} (h : l.Perm (iota t)) : ∃ i, i < mm t ∧ l = od t i := by
  have := mem_pk t (iota t) l (iota_length t) h
  obtain ⟨i, hi, e⟩ := List.mem_iff_getElem.mp this
  refine ⟨i, hi, ?_⟩
  unfold od OD
  rw [List.getD_eq_getElem?_getD, List.getElem?_eq_getElem hi, e]; rfl
def val (m : Nat) (ds : List Nat) : Nat := ds.foldl (fun a i => a * m + i) 0
theorem val_snoc (m : Nat) (ds : List Nat) (d : Nat) : val m (ds ++ [d]) = val m ds * m + d := by simp [val]
theorem foldl_val (m : Nat) : ∀ (ds : List Nat) (a : Nat), ds.foldl (fun a i => a * m + i) a = a * m ^ ds.length + val m ds
  | [], a => by simp [val]
  | d :: ds, a => by
    have h1 := foldl_val m ds (a * m + d)
    have h2 := foldl_val m ds d
    simp only [val, List.foldl_cons, Nat.zero_mul, Nat.zero_add, List.length_cons] at *
    rw [h1, h2, Nat.pow_succ, Nat.add_mul, Nat.add_assoc, Nat.mul_assoc, Nat.mul_comm m]
theorem val_cons (m d : Nat) (ds : List Nat) : val m (d :: ds) = d * m ^ ds.length + val m ds := by
  have := foldl_val m ds d
  simp only [val, List.foldl_cons, Nat.zero_mul, Nat.zero_add] at *
  exact this
theorem val_lt {m : Nat} : ∀ {ds : List Nat}, (∀ d ∈ ds, d < m) → val m ds < m ^ ds.length
  | [], _ => by simp [val]
  | d :: ds, h => by
    have h1 := val_lt (m := m) (ds := ds) fun x hx => h x (List.mem_cons_of_mem _ hx)
    have h2 := h d List.mem_cons_self
    rw [val_cons, List.length_cons, Nat.pow_succ, Nat.mul_comm (m ^ ds.length)]
    have h3 : (d + 1) * m ^ ds.length ≤ m * m ^ ds.length := Nat.mul_le_mul_right _ h2
    rw [Nat.add_mul] at h3
    omega
theorem dg_val' {m : Nat} : ∀ {h : Nat} {ds : List Nat}, ds.length = h → (∀ d ∈ ds, d < m) → dg m h (val m ds) = ds
  | 0, ds, hl, _ => by rw [List.length_eq_zero_iff.mp hl]; rfl
  | h + 1, ds, hl, hd => by
    obtain ⟨ds', d, rfl⟩ : ∃ ds' d, ds = ds' ++ [d] := by
      have hne : ds ≠ [] := by intro e; rw [e] at hl; simp at hl
      exact ⟨ds.dropLast, ds.getLast hne, (List.dropLast_concat_getLast hne).symm⟩
    have hdm := hd d (by simp)
    have m0 : 0 < m := by omega
    rw [val_snoc, dg]
    have e1 : (val m ds' * m + d) / m = val m ds' := by
      rw [Nat.mul_comm, Nat.mul_add_div m0, Nat.div_eq_of_lt hdm, Nat.add_zero]
    have e2 : (val m ds' * m + d) % m = d := by
      rw [Nat.mul_comm, Nat.mul_add_mod, Nat.mod_eq_of_lt hdm]
    rw [e1, e2, dg_val' (by simpa using hl) fun x hx => hd x (by simp [hx])]
theorem val_set {m : Nat} : ∀ {ds : List Nat} {j : Nat} (i : Nat) (hj : j < ds.length), (val m (ds.set j i) : Int) = val m ds + ((i : Int) - (ds[j] : Nat)) * (m ^ (ds.length - 1 - j) : Nat)
  | d :: ds, 0, i, _ => by
    simp only [List.set_cons_zero, val_cons, List.length_cons, List.getElem_cons_zero, Nat.add_sub_cancel, Nat.sub_zero]
    simp only [Int.natCast_add, Int.natCast_mul, Int.sub_mul]
    omega
  | d :: ds, j + 1, i, hj => by
    have ih := val_set (m := m) (ds := ds) (j := j) i (by simpa using hj)
    simp only [List.set_cons_succ, val_cons, List.length_cons, List.length_set, List.getElem_cons_succ, Int.natCast_add]
    rw [ih, show ds.length + 1 - 1 - (j + 1) = ds.length - 1 - j by omega]
    omega
/-- the saying of some numbers of orders -/
def sD (t : Nat) (ds : List Nat) : List (List Int) := ds.map (od t)
theorem sD_sy {t : Nat} {ds : List Nat} (hd : ∀ d ∈ ds, d < mm t) : sD t ds = sy t ds.length (val (mm t) ds) := by
  rw [sy_dg, dg_val' rfl hd]; rfl
theorem sD_set (t : Nat) (ds : List Nat) (j i : Nat) : (sD t ds).set j (od t i) = sD t (ds.set j i) := by
  unfold sD; rw [List.map_set]
theorem fit_o {o : List Int} (h : o.length ≤ LIM) : Fit 1 (oV o) := fit_ints h
theorem fit_s {s : List (List Int)} (h : s.length ≤ LIM) (ho : ∀ o ∈ s, o.length ≤ LIM) : Fit 2 (sV s) := by
  refine ⟨by simpa using h, fun x hx => ?_⟩
  obtain ⟨o, ho', rfl⟩ := List.mem_map.mp hx
  exact fit_o (ho o ho')
theorem fit_sD {t : Nat} (ht : t ∈ [2, 3, 4]) {ds : List Nat} (hl : ds.length ≤ 1000) (hd : ∀ d ∈ ds, d < mm t) : Fit 2 (sV (sD t ds)) := by
  obtain ⟨m0, _, t4, _⟩ := mm_le ht
  have l0 : (1000 : Nat) ≤ LIM := by decide
  refine fit_s (by simp [sD]; omega) fun o ho => ?_
  obtain ⟨i, hi, rfl⟩ := List.mem_map.mp ho
  rw [od_length ht (hd i hi)]
  omega
theorem al_v {fs : List (Nat × Fn)} (h7 : fs.lookup 7 = some fn7) {d : Nat} {v : PV} (k : Nat) (h : Fit d v) (hk : d < k) (hd : d ≤ 60) (M : Mem) : callM (run fs k) 7 [v, v] M = .ok (.bl true) M :=
  callM_v (cf := run fs k) (f := 7) (vs := [v, v]) (v := .bl true) (alike_v (fs := fs) h7 h hk hd) (by simp [h.pure]) rfl M
theorem place_sD {fs : List (Nat × Fn)} (h1 : fs.lookup 1 = some fn1) (h2 : fs.lookup 2 = some fn2) {t : Nat} (ht : t ∈ [2, 3, 4]) (k : Nat) (h26 : fs.lookup 26 = some fn26) {ds : List Nat} (hne : 0 < ds.length) (hd : ∀ d ∈ ds, d < mm t) :
    run fs (k + 2) 26 [sV (sD t ds)] Mem.emp = .ok (.int (val (mm t) ds : Nat)) Mem.emp :=
  place_of_ok h1 h2 ht k h26 hd (by intro e; rw [e] at hne; simp at hne) (fun i hi => od_length ht (hd i hi))
end Lw
end
section
set_option Elab.async false
set_option linter.all false
set_option maxRecDepth 100000
set_option maxHeartbeats 1000000
namespace Mn
@[simp] theorem trimV_pushpush (M : Mem) (o o' : MObj) (v : PV) : trimV (M.push o) v (M.push o') = .ok v (M.push o') := trimV_sz v rfl
theorem trimV_pb (M : Mem) (o o1 o2 : MObj) {v : PV} (h : v.bnd (M.sz + 1) = true) : trimV (M.push o) v ((M.push o1).push o2) = .ok v (M.push o1) := by
  have hs : ¬ ((M.push o1).push o2).sz = (M.push o).sz := by show ¬ M.sz + 1 + 1 = M.sz + 1; omega
  rw [trimV_cut hs rfl h]
  have := push_cut (M.push o1) o2
  exact congrArg _ this
theorem trimV_pbr (M : Mem) (o o1 : MObj) {xs : List PV} (h : xs.all (PV.bnd (M.sz + 1)) = true) : trimV (M.push o) (.ref (M.sz + 1)) ((M.push o1).push (.lst xs)) = .ok (.ref (M.sz + 1)) ((M.push o1).push (.lst xs)) := by
  have hs : ¬ ((M.push o1).push (.lst xs)).sz = (M.push o).sz := by show ¬ M.sz + 1 + 1 = M.sz + 1; omega
  have hg : ((M.push o1).push (.lst xs)).get (M.sz + 1) = some (.lst xs) := push_get (M.push o1) _
  have t := trimV_new (M0 := M.push o) (n := M.sz + 1) hs rfl (Nat.le_refl _) hg h
  have c := push_cut (M.push o1) (.lst xs)
  exact t.trans (congrArg (fun N => Res.ok (PV.ref (M.sz + 1)) (Mem.push N (.lst xs))) c)
/-- a comprehension that draws at each turn; mk: the memory, by its box -/
theorem lcI_dr {own : List Nat} {g : MG} {elt : Ev} {σ : St} (mk : MObj → Mem) (P : PV → Prop) : ∀ (xs acc : List PV) (o : MObj), BX o → acc.length + xs.length ≤ LIM →
    (∀ x ∈ xs, ∀ o, BX o → ∃ s v o', assignG g x (wipe σ own) = some s ∧ BX o' ∧ P v ∧ kT (mk o) (elt s (mk o)) = .ok v (mk o')) →
    ∃ vs o', BX o' ∧ (∀ v ∈ vs, P v) ∧ vs.length = xs.length ∧ lcItems own g none elt σ xs acc (mk o) = .ok (acc ++ vs) (mk o')
  | [], acc, o, ho, _, _ => ⟨[], o, ho, by simp, rfl, by simp⟩
  | x :: xs, acc, o, ho, hl, h => by
    obtain ⟨s, v, o1, a1, b1, p1, e1⟩ := h x List.mem_cons_self o ho
    simp only [List.length_cons] at hl
    obtain ⟨vs, o2, b2, p2, l2, e2⟩ := lcI_dr mk P xs (acc ++ [v]) o1 b1 (by simp; omega) (fun y hy => h y (List.mem_cons_of_mem _ hy))
    refine ⟨v :: vs, o2, b2, by simpa using ⟨p1, p2⟩, by simp [l2], ?_⟩
    rw [lcI_cons, lcT_none, a1]
    simp only [e1, lE_ok]
    rw [if_pos (by omega), lT_ok, e2]
    simp
end Mn
namespace Lw
open PySem Mn
/-- a drawn order, by its number -/
theorem ord_dr {fs : List (Nat × Fn)} (h5 : fs.lookup 5 = some fn5) (h8 : fs.lookup 8 = some fn8) (k : Nat) {t : Nat} (ht : t ≤ 10000) : Dr (run fs (k + 2)) 8 [.int t] fun v => ∃ i, i < mm t ∧ v = oV (od t i) := by
  intro o ho
  obtain ⟨v, o', q1, ⟨l, rfl, hl⟩, q3, q4⟩ := order_dr h5 h8 k ht o ho
  obtain ⟨i, hi, rfl⟩ := perm_od hl
  exact ⟨_, o', q1, ⟨i, hi, rfl⟩, q3, q4⟩
theorem of_ods {t : Nat} : ∀ {vs : List PV}, (∀ v ∈ vs, ∃ i, i < mm t ∧ v = oV (od t i)) → ∃ ds : List Nat, (∀ d ∈ ds, d < mm t) ∧ vs = (sD t ds).map oV ∧ ds.length = vs.length
  | [], _ => ⟨[], by simp, rfl, rfl⟩
  | v :: vs, h => by
    obtain ⟨i, hi, rfl⟩ := h v List.mem_cons_self
    obtain ⟨ds, h1, rfl, h3⟩ := of_ods fun w hw => h w (List.mem_cons_of_mem _ hw)
    exact ⟨i :: ds, by simpa using ⟨hi, h1⟩, rfl, by simp [sD]⟩
end Lw
end
section
set_option Elab.async false
set_option linter.all false
set_option maxRecDepth 100000
set_option maxHeartbeats 1000000
namespace Lw
open PySem Mn
/-! ### all sayings -/
theorem range_mul (m : Nat) {α : Type} (f : Nat → α) : ∀ a, (List.range (a * m)).map f = (List.range a).flatMap fun q => (List.range m).map fun r => f (q * m + r)
  | 0 => by simp
  | a + 1 => by
    rw [Nat.succ_mul, List.range_add, List.map_append, range_mul m f a, List.range_succ, List.flatMap_append]
    congr 1
    simp [List.map_map, Function.comp_def]
theorem OD_range (t : Nat) : OD t = (List.range (mm t)).map (od t) := by
  apply List.ext_getElem
  · simp [mm]
  · intro i h1 h2
    simp [od, List.getD_eq_getElem?_getD, List.getElem?_eq_getElem h1]
theorem SY_succ {t : Nat} (m0 : 0 < mm t) (h : Nat) : SY (h + 1) t = (SY h t).flatMap fun s => (OD t).map fun o => s ++ [o] := by
  unfold SY
  rw [Nat.pow_succ, range_mul, List.flatMap_map]
  congr 1
  funext q
  rw [OD_range, List.map_map]
  refine List.map_congr_left fun r hr => ?_
  have hr := List.mem_range.mp hr
  simp only [Function.comp, sy]
  have e1 : (q * mm t + r) / mm t = q := by rw [Nat.mul_comm, Nat.mul_add_div m0, Nat.div_eq_of_lt hr, Nat.add_zero]
  have e2 : (q * mm t + r) % mm t = r := by rw [Nat.mul_comm, Nat.mul_add_mod, Nat.mod_eq_of_lt hr]
  rw [e1, e2]
theorem SY_length (h t : Nat) : (SY h t).length = mm t ^ h := by simp [SY]
theorem SY_get {h t k : Nat} (hk : k < mm t ^ h) : (SY h t)[k]? = some (sy t h k) := by simp [SY, hk]
theorem all_oV (l : List (List Int)) (b : Nat) : (l.map oV).all (PV.bnd b) = true := by
  rw [List.all_eq_true]; intro x hx; obtain ⟨o, _, rfl⟩ := List.mem_map.mp hx; exact pure_o b o
theorem all_sV (l : List (List (List Int))) (b : Nat) : (l.map sV).all (PV.bnd b) = true := by
  rw [List.all_eq_true]; intro x hx; obtain ⟨o, _, rfl⟩ := List.mem_map.mp hx; exact pure_s b o
def ZS : List (Nat × Nat) := [(2, 3), (3, 3), (1, 3), (2, 2), (3, 2), (1, 4), (1, 2), (2, 4)]
theorem zs_of {z : Nat × Nat} (h : z ∈ SZ) : z ∈ ZS := by
  have : ∀ z ∈ SZ, z ∈ ZS := by decide +kernel
  exact this z h
def sfact (z : Nat × Nat) : Bool := isL (run [(6, fn6), (149, fn149)] 2 149 [.int z.1, .int z.2] Mem.emp) ((SY z.1 z.2).map sV)
theorem sfacts : ∀ z ∈ ZS, sfact z = true := by decide +kernel
theorem sayings_ok {fs : List (Nat × Fn)} (h6 : fs.lookup 6 = some fn6) (h149 : fs.lookup 149 = some fn149) (k : Nat) {z : Nat × Nat} (hz : z ∈ SZ) : run fs (k + 2) 149 [.int z.1, .int z.2] Mem.emp = .ok (.ref 0) ⟨1, [.lst ((SY z.1 z.2).map sV)], 0⟩ :=
  run_up (fs := [(6, fn6), (149, fn149)]) (.of (by simpa using ⟨h6, h149⟩)) (by omega) (isL_eq (sfacts z (zs_of hz)))
end Lw
end
section
set_option Elab.async false
set_option linter.all false
set_option maxRecDepth 100000
set_option maxHeartbeats 1000000
namespace Mn
/-- a def that draws and tells a new list -/
def DrL (cf : CF) (f : Nat) (vs : List PV) (P : List PV → Prop) : Prop := ∀ o, BX o → ∃ ys o', BX o' ∧ P ys ∧ ys.all PV.pure = true ∧ cf f (.ref 0 :: vs) ⟨1, [o], 0⟩ = .ok (.ref 1) ⟨2, [.lst ys, o'], 0⟩
theorem DrL.at {cf : CF} {f : Nat} {vs : List PV} {P : List PV → Prop} (D : DrL cf f vs P) (hv : vs.all PV.pure = true) {M : Mem} {n : Nat} {o : MObj} (hg : M.get n = some o) (ho : BX o) :
    ∃ ys o', BX o' ∧ P ys ∧ ys.all PV.pure = true ∧ callM cf f (.ref n :: vs) M = .ok (.ref M.sz) ((M.put n o' 0).push (.lst ys)) := by
  obtain ⟨ys, o', b, p, pv, e⟩ := D o ho
  refine ⟨ys, o', b, p, pv, ?_⟩
  rw [callM_bl (ws := .ref 0 :: vs) (by rw [List.map_cons, to0_pure hv]; rfl) e pv b.bnd (by simp) rfl hg (allr hv) ho.bnd, b.putO]
theorem Bm_push (L : List MObj) (o x : MObj) : (Bm L o).push x = Bm (x :: L) o := by simp [Bm, Mem.push]
theorem DrL.low {cf : CF} {f : Nat} {vs : List PV} {P : List PV → Prop} (D : DrL cf f vs P) (hv : vs.all PV.pure = true) (L : List MObj) {o : MObj} (ho : BX o) :
    ∃ ys o', BX o' ∧ P ys ∧ ys.all PV.pure = true ∧ callM cf f (.ref 0 :: vs) (Bm L o) = .ok (.ref (L.length + 1)) (Bm (.lst ys :: L) o') := by
  obtain ⟨v, o', b, p, pv, e⟩ := D.at hv (Bm_get L o) ho
  exact ⟨v, o', b, p, pv, by rw [e, Bm_put, Bm_push]; rfl⟩
/-- a comprehension over a list that stays, drawing at each turn -/
theorem lcS_dr {own : List Nat} {g : MG} {elt : Ev} {σ : St} (mk : MObj → Mem) (P : PV → Prop) {s : Src} {xs : List PV} (hs : ∀ o (i : Nat), srcAt s i (mk o) = some xs[i]?) : ∀ (m i f : Nat) (acc : List PV) (o : MObj), m = xs.length - i → i ≤ xs.length → m < f → BX o → acc.length + m ≤ LIM →
    (∀ x ∈ xs, ∀ o, BX o → ∃ s v o', assignG g x (wipe σ own) = some s ∧ BX o' ∧ P v ∧ kT (mk o) (elt s (mk o)) = .ok v (mk o')) →
    ∃ vs o', BX o' ∧ (∀ v ∈ vs, P v) ∧ vs.length = m ∧ lcSrc own g none elt σ s f i acc (mk o) = .ok (acc ++ vs) (mk o')
  | 0, i, f + 1, acc, o, hm, hi, hf, ho, hl, h => by
    have : xs[i]? = none := List.getElem?_eq_none (by omega)
    refine ⟨[], o, ho, by simp, rfl, ?_⟩
    rw [lcS_step, hs o i, this]; simp
  | m + 1, i, f + 1, acc, o, hm, hi, hf, ho, hl, h => by
    have hx : xs[i]? = some (xs[i]'(by omega)) := List.getElem?_eq_getElem _
    obtain ⟨s', v, o1, a1, b1, p1, e1⟩ := h _ (List.mem_of_getElem? hx) o ho
    obtain ⟨vs, o2, b2, p2, l2, e2⟩ := lcS_dr mk P hs m (i + 1) f (acc ++ [v]) o1 (by omega) (by omega) (by omega) b1 (by simp; omega) h
    refine ⟨v :: vs, o2, b2, by simpa using ⟨p1, p2⟩, by simp [l2], ?_⟩
    rw [lcS_step, hs o i, hx]
    show lS _ _ _ _ _ _ _ _ (lcTurn _ _ _ _ _ _ _ _) = _
    rw [lcT_none, a1]
    simp only [e1, lE_ok]
    rw [if_pos (by omega), lS_ok, e2]
    simp
theorem Bm_high (L : List MObj) (o : MObj) {n : Nat} {x : MObj} (h : L.reverse[n]? = some x) : (Bm L o).get (n + 1) = some x := by
  have hn : n < L.length := by
    have := (List.getElem?_eq_some_iff.mp h).1
    simpa using this
  rw [List.getElem?_reverse hn] at h
  have e : (Bm L o).get (n + 1) = if n + 1 < L.length + 1 then (L ++ [o])[L.length + 1 - 1 - (n + 1)]? else none := rfl
  rw [e, if_pos (by omega), show L.length + 1 - 1 - (n + 1) = L.length - 1 - n by omega, List.getElem?_append_left (by omega), h]
/-- at the end of a def that draws: a list of plain things is told -/
theorem trimV_lowr {L : List MObj} {o o' : MObj} {n : Nat} {ys : List PV} (hg : L.reverse[n]? = some (.lst ys)) (hy : ys.all (PV.bnd 1) = true) : trimV ⟨1, [o], 0⟩ (.ref (n + 1)) (Bm L o') = .ok (.ref 1) ⟨2, [.lst ys, o'], 0⟩ := by
  have hn : n < L.length := by
    have := (List.getElem?_eq_some_iff.mp hg).1
    simpa using this
  have t := trimV_new (M0 := ⟨1, [o], 0⟩) (M := Bm L o') (n := n + 1) (by show ¬ L.length + 1 = 1; omega) rfl (by show 1 ≤ n + 1; omega) (Bm_high L o' hg) hy
  rw [t]
  have : (Bm L o').cut 1 = ⟨1, [o'], 0⟩ := by simp [Mem.cut, Bm]
  show Res.ok (PV.ref 1) (((Bm L o').cut 1).push (.lst ys)) = _
  rw [this]; rfl
theorem trimV_low {L : List MObj} {o o' : MObj} {v : PV} (hv : v.bnd 1 = true) : trimV ⟨1, [o], 0⟩ v (Bm L o') = .ok v ⟨1, [o'], 0⟩ := by
  cases L with
  | nil => exact trimV_sz v rfl
  | cons x L =>
    rw [trimV_cut (M0 := ⟨1, [o], 0⟩) (M := Bm (x :: L) o') (by show ¬ (x :: L).length + 1 = 1; simp) rfl hv]
    have : (Bm (x :: L) o').cut 1 = ⟨1, [o'], 0⟩ := by simp [Mem.cut, Bm]
    exact congrArg _ this
@[simp] theorem trimV_Bm (L : List MObj) (o o' : MObj) (v : PV) : trimV (Bm L o) v (Bm L o') = .ok v (Bm L o') := trimV_sz v rfl
theorem trimV_Bm1 (L : List MObj) (o o' x : MObj) {v : PV} (h : v.bnd (L.length + 1) = true) : trimV (Bm L o) v (Bm (x :: L) o') = .ok v (Bm L o') := by
  rw [trimV_cut (M0 := Bm L o) (M := Bm (x :: L) o') (by show ¬ (x :: L).length + 1 = L.length + 1; simp) rfl h]
  have : (Bm (x :: L) o').cut (Bm L o).sz = Bm L o' := by simp [Mem.cut, Bm]
  exact congrArg _ this
theorem trimV_Bm1r (L : List MObj) (o o' : MObj) {ys : List PV} (h : ys.all (PV.bnd (L.length + 1)) = true) : trimV (Bm L o) (.ref (L.length + 1)) (Bm (.lst ys :: L) o') = .ok (.ref (L.length + 1)) (Bm (.lst ys :: L) o') := by
  have hg : (Bm (.lst ys :: L) o').get (L.length + 1) = some (.lst ys) := Bm_high _ _ (by simp)
  have t := trimV_new (M0 := Bm L o) (M := Bm (.lst ys :: L) o') (n := L.length + 1) (by show ¬ (MObj.lst ys :: L).length + 1 = L.length + 1; simp) rfl (by show L.length + 1 ≤ L.length + 1; omega) hg h
  have c : (Bm (.lst ys :: L) o').cut (Bm L o).sz = Bm L o' := by simp [Mem.cut, Bm]
  rw [t, c, Bm_push]; rfl
end Mn
namespace Lw
open PySem Mn
/-- of an order the first of some -/
def fstO (o l : List Int) : Int := (o.filter fun x => decide (x ∈ l)).headD 0
theorem first_ok {fs : List (Nat × Fn)} {f : Nat} (h163 : fs.lookup f = some fn163) (k : Nat) {o l : List Int} (ho : o.length ≤ 1000) (hx : ∃ x ∈ o, x ∈ l) : run fs (k + 1) f [oV o, .tup (l.map PV.int)] Mem.emp = .ok (.int (fstO o l)) Mem.emp := by
  have lc := lcI_filter (own := [2]) (g := .name 2) (c := evE (run fs k) (.cmp .In (.var 2) (.var 1))) (elt := evE (run fs k) (.var 2)) (σ := [some (oV o), some (.tup (l.map PV.int)), none]) (M := Mem.emp) PV.int (fun x => decide (x ∈ l)) PV.int o [] (by simp only [List.length_nil, LIM]; omega) (fun x hx => ⟨[some (oV o), some (.tup (l.map PV.int)), some (.int x)], by simp, by simp [in_ints, truth], fun _ => by simp⟩)
  rw [List.nil_append] at lc
  obtain ⟨y, ys, e⟩ : ∃ y ys, o.filter (fun x => decide (x ∈ l)) = y :: ys := by
    obtain ⟨x, h1, h2⟩ := hx
    cases e : o.filter (fun x => decide (x ∈ l)) with
    | cons y ys => exact ⟨y, ys, rfl⟩
    | nil =>
      have : x ∈ o.filter (fun x => decide (x ∈ l)) := List.mem_filter.mpr ⟨h1, by simpa using h2⟩
      rw [e] at this; cases this
  have fe : fstO o l = y := by simp [fstO, e]
  rw [fe]
  rw [e] at lc
  rw [run_at h163 _ _ _ rfl]
  have i0 : ixM (.ref 0) (.int 0) ⟨1, [.lst ((y :: ys).map PV.int)], 0⟩ = .ok (.int y) ⟨1, [.lst ((y :: ys).map PV.int)], 0⟩ := by
    have hl : ixOf ((y :: ys).map PV.int).length 0 = some 0 := ixOf_nat (j := 0) (by simp)
    have g : (⟨1, [.lst ((y :: ys).map PV.int)], 0⟩ : Mem).lst? 0 = some ((y :: ys).map PV.int) := rfl
    simp only [ixM, g, hl]; rfl
  have emp : Mem.emp = ⟨0, [], 0⟩ := rfl
  rw [emp] at lc ⊢
  generalize (y :: ys).map PV.int = L at *
  simp [fn163, b163, startσ, src_oV, optR, lc, Mem.push, i0, trimV, Mem.cut]
theorem fstO_mem {o l : List Int} (hx : ∃ x ∈ o, x ∈ l) : fstO o l ∈ l ∧ fstO o l ∈ o := by
  have : fstO o l ∈ o.filter (fun x => decide (x ∈ l)) := by
    unfold fstO
    cases e : o.filter (fun x => decide (x ∈ l)) with
    | cons y ys => simp
    | nil =>
      obtain ⟨x, h1, h2⟩ := hx
      have : x ∈ o.filter (fun x => decide (x ∈ l)) := List.mem_filter.mpr ⟨h1, by simpa using h2⟩
      rw [e] at this; cases this
  have := List.mem_filter.mp this
  exact ⟨by simpa using this.2, this.1⟩
/-- whether an order has one thing ahead -/
def ahd (o : List Int) (x y : Int) : Bool := decide ((o.idxOf x : Int) < (o.idxOf y : Int))
theorem ahead_ok {fs : List (Nat × Fn)} {f : Nat} (h162 : fs.lookup f = some fn162) (k : Nat) {o : List Int} {x y : Int} (hx : x ∈ o) (hy : y ∈ o) : run fs (k + 1) f [oV o, .int x, .int y] Mem.emp = .ok (.bl (ahd o x y)) Mem.emp := by
  rw [run_at h162 _ _ _ rfl]
  have i1 := fun M => index_ints hx M
  have i2 := fun M => index_ints hy M
  have r : ∀ M, recvOk .index (.tup (o.map PV.int)) M = true := fun M => rfl
  simp [fn162, b162, startσ, oV, r, i1, i2, cmpM, ahd]
theorem SY_mem {h t : Nat} {s : List (List Int)} (hs : s ∈ SY h t) : ∃ k, k < mm t ^ h ∧ s = sy t h k := by
  obtain ⟨k, hk, rfl⟩ := List.mem_map.mp hs
  exact ⟨k, List.mem_range.mp hk, rfl⟩
/-- a hand's order in a saying -/
theorem sy_hand {t : Nat} (ht : t ∈ [2, 3, 4]) {h k j : Nat} (hj : j < h) : ∃ i, i < mm t ∧ (sy t h k)[j]? = some (od t i) := by
  obtain ⟨m0, _⟩ := mm_le ht
  rw [sy_dg, List.getElem?_map]
  have hl : j < (dg (mm t) h k).length := by rw [dg_length]; exact hj
  refine ⟨(dg (mm t) h k)[j], dg_lt m0 _ _ _ (List.getElem_mem hl), ?_⟩
  rw [List.getElem?_eq_getElem hl]; rfl
end Lw
end
section
set_option Elab.async false
set_option linter.all false
set_option maxRecDepth 100000
set_option maxHeartbeats 1000000
namespace Lw
open PySem Mn
/-- the answers of a table -/
def TA (h t : Nat) (A : List Int) : Prop := A.length = mm t ^ h ∧ ∀ x ∈ A, x ∈ iota t
theorem ints_all {vs : List PV} {Q : Int → Prop} (h : ∀ v ∈ vs, ∃ x, v = .int x ∧ Q x) : ∃ A : List Int, vs = A.map PV.int ∧ ∀ x ∈ A, Q x := by
  induction vs with
  | nil => exact ⟨[], rfl, by simp⟩
  | cons v vs ih =>
    obtain ⟨x, rfl, hx⟩ := h v List.mem_cons_self
    obtain ⟨A, rfl, hA⟩ := ih fun w hw => h w (List.mem_cons_of_mem _ hw)
    exact ⟨x :: A, rfl, by simpa using ⟨hx, hA⟩⟩
theorem all_ints (l : List Int) (b : Nat) : (l.map PV.int).all (PV.bnd b) = true := by
  have := pure_ints b l; rwa [bnd_tup] at this
theorem lt_ii (i j : Int) (M : Mem) : cmpM .Lt (.int i) (.int j) M = .ok (.bl (decide (i < j))) M := rfl
theorem neg_one (cf : CF) (σ : St) (M : Mem) : evE cf (.neg (.int 1)) σ M = .ok (.int (-1)) M := rfl
theorem ix_last {l : List Int} (h : l ≠ []) (M : Mem) : ∃ y ∈ l, ixM (.tup (l.map PV.int)) (.int (-1)) M = .ok (.int y) M := by
  have hl : 0 < l.length := List.length_pos_iff.mpr h
  refine ⟨l[l.length - 1], List.getElem_mem _, ?_⟩
  have hi : ixOf (l.map PV.int).length (-1) = some (l.length - 1) := by
    unfold ixOf
    rw [if_neg (by omega), List.length_map, if_pos (by omega)]
    congr 1; omega
  have hg : (l.map PV.int)[l.length - 1]? = some (.int l[l.length - 1]) := by
    rw [List.getElem?_map, List.getElem?_eq_getElem (by omega)]; rfl
  simp only [ixM, hi, Option.bind_some, hg]
theorem ix_first {l : List Int} (h : l ≠ []) (M : Mem) : ∃ y ∈ l, ixM (.tup (l.map PV.int)) (.int 0) M = .ok (.int y) M := by
  cases l with
  | nil => exact (h rfl).elim
  | cons y l => exact ⟨y, List.mem_cons_self, ix_tup (i := 0) rfl M⟩
def foundBody : MSs := (.cons (.asg 13 (.lc [15] (.name 15) (.seq (.var 6)) .none (.bcall .all (.cons (.lc [16] (.name 16) (.seq (.var 15)) .none (.call 162 (.cons (.ix (.var 8) (.var 16)) (.cons (.var 11) (.cons (.var 12) .nil))))) .nil))))
      (.cons (.expr (.meth .append (.var 7) (.cons (.ix (.lst (.cons (.var 12) (.cons (.var 11) .nil))) (.bcall .int (.cons (.cmp .In (.bl true) (.var 13)) .nil))) .nil)))
      .nil))
theorem bls_map (bs : List Bool) : bls? (bs.map PV.bl) = some bs := by
  induction bs with
  | nil => rfl
  | cons b bs ih => simp [bls?, ih]
theorem in_bls (bs : List Bool) (M : Mem) {n : Nat} (h : M.lst? n = some (bs.map PV.bl)) : cmpM .In (.bl true) (.ref n) M = .ok (.bl (bs.any id)) M := by
  have s1 : shallow (.bl true) = true := by simp [shallow, PV.dat]
  have s2 : (bs.map PV.bl).all shallow = true := by
    rw [List.all_eq_true]; intro x hx; obtain ⟨b, _, rfl⟩ := List.mem_map.mp hx; simp [shallow, PV.dat]
  have s3 : ((bs.map PV.bl).any fun y => y.eqv (.bl true)) = bs.any id := by
    rw [List.any_map]; congr 1; funext b; cases b <;> simp [PV.eqv]
  simp only [cmpM, inM, h, s1, s2, s3, Bool.and_self, if_true]
/-- a turn: whether some of the sets all put x ahead -/
theorem found_turn {fs : List (Nat × Fn)} (h162 : fs.lookup 162 = some fn162) (k : Nat) {t : Nat} (ht : t ∈ [2, 3, 4]) {h n : Nat} (hh : h ≤ 3) {x y : Int} (hx : x ∈ iota t) (hy : y ∈ iota t) {sets : List (List Int)} (hs : ∀ l ∈ sets, (∀ z ∈ l, z ∈ iota h) ∧ l.length ≤ h) (hsl : sets.length ≤ 100) {F : List PV} (hF : F.length ≤ 100000)
    (T : List MObj) (o s1 : MObj) (a b c d e f13 f14 f15 f16 : Option PV) :
    ∃ w told, (w = x ∨ w = y) ∧ evSs (run fs (k + 1)) foundBody [some (.ref 0), a, b, some (.ref 1), c, d, some (.ref 2), some (.ref 3), some (sV (sy t h n)), some (.int h), e, some (.int x), some (.int y), f13, f14, f15, f16] (Bm (T ++ [.lst F, .lst (sets.map fun l => .tup (l.map PV.int)), s1]) o) =
      .ok (.next [some (.ref 0), a, b, some (.ref 1), c, d, some (.ref 2), some (.ref 3), some (sV (sy t h n)), some (.int h), e, some (.int x), some (.int y), some (.ref (T.length + 4)), f14, f15, f16]) (Bm (told :: T ++ [.lst (F ++ [.int w]), .lst (sets.map fun l => .tup (l.map PV.int)), s1]) o) := by
  let S : List PV := sets.map fun l => .tup (l.map PV.int)
  let LL := T ++ [.lst F, .lst S, s1]
  let B := Bm LL o
  let ordZ : Int → List Int := fun z => (sy t h n).getD z.toNat []
  let sb : List Int → Bool := fun l => (l.map fun z => ahd (ordZ z) x y).all id
  have g2 : B.get 2 = some (.lst S) := Bm_high LL o (n := 1) (by simp [LL])
  have g3 : B.get 3 = some (.lst F) := Bm_high LL o (n := 2) (by simp [LL])
  have ez : ∀ z ∈ iota h, ∃ i, i < mm t ∧ (sy t h n)[z.toNat]? = some (od t i) ∧ ordZ z = od t i := by
    intro z hz
    obtain ⟨z1, z2⟩ := iota_mem.mp hz
    obtain ⟨i, hi, e⟩ := sy_hand ht (h := h) (k := n) (j := z.toNat) (by omega)
    exact ⟨i, hi, e, by simp only [ordZ, List.getD_eq_getElem?_getD, e, Option.getD_some]⟩
  have inner : ∀ l ∈ sets, ∀ (q15 q16 : Option PV) (f13 : Option PV), lcItems [16] (.name 16) none (evE (run fs (k + 1)) (.call 162 (.cons (.ix (.var 8) (.var 16)) (.cons (.var 11) (.cons (.var 12) .nil)))))
      [some (.ref 0), a, b, some (.ref 1), c, d, some (.ref 2), some (.ref 3), some (sV (sy t h n)), some (.int h), e, some (.int x), some (.int y), f13, f14, q15, q16] (l.map PV.int) [] B = .ok ((l.map fun z => ahd (ordZ z) x y).map PV.bl) B := by
    intro l hl q15 q16 f13
    have := lcI_map' (own := [16]) (g := .name 16) (elt := evE (run fs (k + 1)) (.call 162 (.cons (.ix (.var 8) (.var 16)) (.cons (.var 11) (.cons (.var 12) .nil)))))
      (σ := [some (.ref 0), a, b, some (.ref 1), c, d, some (.ref 2), some (.ref 3), some (sV (sy t h n)), some (.int h), e, some (.int x), some (.int y), f13, f14, q15, q16]) (M := B) PV.int (fun z => .bl (ahd (ordZ z) x y)) l (by have := (hs l hl).2; simp only [LIM]; omega) (fun z hz => by
        have hzi := (hs l hl).1 z hz
        obtain ⟨z1, z2⟩ := iota_mem.mp hzi
        obtain ⟨i, hi, e1, e2⟩ := ez z hzi
        refine ⟨_, rfl, ?_⟩
        have xz : ∀ M, ixM (sV (sy t h n)) (.int z) M = .ok (oV (od t i)) M := by
          have := ix_sV (s := sy t h n) (i := z.toNat) e1
          rwa [Int.toNat_of_nonneg z1] at this
        have pm := od_perm ht hi
        have c162 := callM_v (ahead_ok h162 k (pm.mem_iff.mpr hx) (pm.mem_iff.mpr hy)) (by simp [pure_o]) rfl
        rw [e2]
        simp [xz, c162])
    rw [this, List.map_map]; rfl
  have outer : lcSrc [15] (.name 15) none (evE (run fs (k + 1)) (.bcall .all (.cons (.lc [16] (.name 16) (.seq (.var 15)) .none (.call 162 (.cons (.ix (.var 8) (.var 16)) (.cons (.var 11) (.cons (.var 12) .nil))))) .nil)))
      [some (.ref 0), a, b, some (.ref 1), c, d, some (.ref 2), some (.ref 3), some (sV (sy t h n)), some (.int h), e, some (.int x), some (.int y), f13, f14, f15, f16] (.at1 2 false) (S.length + 1) 0 [] B = .ok ([] ++ (sets.map sb).map PV.bl) B := by
    refine lcS_items (xs := S) (fun i => ?_) S.length 0 _ _ _ (by simp) (by omega) (by omega) (by simp [S, LIM]; omega) (by simp [S]) fun j u v acc hu hv ha => ?_
    · simp [srcAt, Mem.lst?, g2]
    · rw [Nat.zero_add, List.getElem?_map] at hu
      rw [List.getElem?_map, List.getElem?_map] at hv
      cases e1 : sets[j]? with
      | none => rw [e1] at hu; cases hu
      | some l =>
        rw [e1] at hu hv
        cases hu; cases hv
        have hl := List.mem_of_getElem? e1
        have inn := inner l hl (some (.tup (l.map PV.int))) f16 f13
        rw [lcT_none]
        have al : bcallM .all [.ref (LL.length + 1)] (Bm (.lst ((l.map fun z => ahd (ordZ z) x y).map PV.bl) :: LL) o) = .ok (.bl (sb l)) (Bm (.lst ((l.map fun z => ahd (ordZ z) x y).map PV.bl) :: LL) o) := by
          have g : (Bm (.lst ((l.map fun z => ahd (ordZ z) x y).map PV.bl) :: LL) o).get (LL.length + 1) = some (.lst ((l.map fun z => ahd (ordZ z) x y).map PV.bl)) := Bm_high _ _ (by simp)
          simp only [bcallM, Mem.lst?, g, Option.bind_some, bls_map]; rfl
        have ps : B.push (.lst ((l.map fun z => ahd (ordZ z) x y).map PV.bl)) = Bm (.lst ((l.map fun z => ahd (ordZ z) x y).map PV.bl) :: LL) o := Bm_push _ _ _
        have bs : B.sz = LL.length + 1 := rfl
        have tr := trimV_Bm1 LL o o (.lst ((l.map fun z => ahd (ordZ z) x y).map PV.bl)) (v := .bl (sb l)) rfl
        have tr' : trimV B (.bl (sb l)) (Bm (.lst ((l.map fun z => ahd (ordZ z) x y).map PV.bl) :: LL) o) = .ok (.bl (sb l)) B := tr
        have ss : srcSeq (.tup (l.map PV.int)) B = some (.items (l.map PV.int)) := rfl
        generalize (l.map fun z => ahd (ordZ z) x y).map PV.bl = BL at *
        simp [ss, optR, inn, ps, bs, al, tr', ha]
  rw [List.nil_append] at outer
  let told : MObj := .lst ((sets.map sb).map PV.bl)
  let w : Int := if (sets.map sb).any id then x else y
  refine ⟨w, told, by simp only [w]; split <;> simp, ?_⟩
  have pt : ((sets.map sb).map PV.bl).all (PV.bnd (LL.length + 1)) = true := by
    rw [List.all_eq_true]; intro u hu; obtain ⟨b, _, rfl⟩ := List.mem_map.mp hu; rfl
  let B2 := Bm (told :: LL) o
  have ps : B.push told = B2 := Bm_push _ _ _
  have t1 : trimV B (.ref (LL.length + 1)) B2 = .ok (.ref (LL.length + 1)) B2 := trimV_Bm1r LL o o pt
  have bs : B.sz = LL.length + 1 := rfl
  have bs2 : B2.sz = LL.length + 2 := rfl
  have ll : LL.length = T.length + 3 := by simp [LL]
  have ss : srcSeq (.ref 2) B = some (.at1 2 false) := by simp [srcSeq, Mem.lst?, g2]
  have sl : srcLen (.at1 2 false) B = S.length := by simp [srcLen, Mem.lst?, g2]
  let L5 : MObj := .lst [.int y, .int x]
  let B3 := Bm (L5 :: told :: LL) o
  have ps2 : B2.push L5 = B3 := Bm_push _ _ _
  have gt : B3.lst? (LL.length + 1) = some ((sets.map sb).map PV.bl) := by
    have g : B3.get (LL.length + 1) = some told := Bm_high (L5 :: told :: LL) o (n := LL.length) (by simp)
    simp only [Mem.lst?, g]; rfl
  have inb := in_bls (sets.map sb) B3 gt
  have ix : ixM (.ref (LL.length + 2)) (.int (if (sets.map sb).any id then 1 else 0)) B3 = .ok (.int w) B3 := by
    have g : B3.lst? (LL.length + 2) = some [.int y, .int x] := by
      have g : B3.get (LL.length + 2) = some L5 := Bm_high (L5 :: told :: LL) o (n := LL.length + 1) (by simp)
      simp only [Mem.lst?, g]; rfl
    simp only [ixM, g, w]
    generalize (sets.map sb).any id = q
    cases q <;> rfl
  have tr3 : trimV B2 (.int w) B3 = .ok (.int w) B2 := trimV_Bm1 (told :: LL) o o L5 rfl
  have g3' : B2.get 3 = some (.lst F) := Bm_high (told :: LL) o (n := 2) (by simp [LL])
  have rc : recvOk .append (.ref 3) B2 = true := by simp [recvOk, g3']
  have hlim : F.length < LIM := by simp only [LIM]; omega
  have ap : methM .append (.ref 3) [.int w] B2 = .ok .non (B2.put 3 (.lst (F ++ [.int w])) 0) := by
    simp only [methM, g3', hlim, if_true]; rfl
  have pu : B2.put 3 (.lst (F ++ [.int w])) 0 = Bm (told :: T ++ [.lst (F ++ [.int w]), .lst S, s1]) o := by
    simp only [B2, LL, Bm, Mem.put]
    have : (told :: (T ++ [MObj.lst F, MObj.lst S, s1])).length + 1 - 1 - 3 = T.length + 1 := by simp
    rw [this]
    simp [List.set_append]
  have tp : trimV B2 .non (B2.put 3 (.lst (F ++ [.int w])) 0) = .ok .non (B2.put 3 (.lst (F ++ [.int w])) 0) := trimV_put _ _ _ _ _
  have two : (2 : Nat) ≤ LIM := by decide
  show evSs _ foundBody _ B = .ok _ (Bm (told :: T ++ [.lst (F ++ [.int w]), .lst S, s1]) o)
  rw [← pu]
  have tl : T.length + 4 = LL.length + 1 := by omega
  rw [tl]
  have bi : ∀ b M, bcallM .int [.bl b] M = .ok (.int (if b then 1 else 0)) M := fun b M => rfl
  have ps' : B.push (.lst ((sets.map sb).map PV.bl)) = B2 := ps
  have ps2' : B2.push (.lst [.int y, .int x]) = B3 := ps2
  generalize (sets.map sb).map PV.bl = TL at outer ps'
  generalize (sets.map sb).any id = q at inb ix
  clear ps ps2
  clear_value B B2 B3 told L5 w sb ordZ
  simp [foundBody, ss, optR, sl, outer, ps', bs, t1, rc, two, ps2', bs2, inb, bi, ix, tr3, ap, tp]
end Lw
end
section
set_option Elab.async false
set_option linter.all false
set_option maxRecDepth 100000
set_option maxHeartbeats 1000000
namespace Lw
open PySem Mn
def tV (l : List Int) : PV := .tup (l.map PV.int)
theorem pure_t (b : Nat) (l : List Int) : (tV l).bnd b = true := pure_ints b l
theorem of_tups {Q : List Int → Prop} : ∀ {vs : List PV}, (∀ v ∈ vs, ∃ l : List Int, v = tV l ∧ Q l) → ∃ ls : List (List Int), vs = ls.map tV ∧ ∀ l ∈ ls, Q l
  | [], _ => ⟨[], rfl, by simp⟩
  | v :: vs, h => by
    obtain ⟨l, rfl, hl⟩ := h v List.mem_cons_self
    obtain ⟨ls, rfl, h2⟩ := of_tups fun w hw => h w (List.mem_cons_of_mem _ hw)
    exact ⟨l :: ls, rfl, by simpa using ⟨hl, h2⟩⟩
theorem answers_dr {fs : List (Nat × Fn)} (h5 : fs.lookup 5 = some fn5) (h6 : fs.lookup 6 = some fn6) (h14 : fs.lookup 14 = some fn14) (h149 : fs.lookup 149 = some fn149) (h162 : fs.lookup 162 = some fn162) (h163 : fs.lookup 163 = some fn163) (h175 : fs.lookup 175 = some fn175) (k : Nat) {z : Nat × Nat} (hz : z ∈ SZ) :
    DrL (run fs (k + 3)) 175 [zV z] fun ys => ∃ A : List Int, ys = A.map PV.int ∧ TA z.1 z.2 A := by
  obtain ⟨h, t⟩ := z
  obtain ⟨ht, hh1, hh3, hN⟩ := sz_ok hz
  simp only at ht hh1 hh3 hN
  obtain ⟨m0, m1, t4, t2⟩ := mm_le ht
  intro o ho
  let N := mm t ^ h
  let SS : MObj := .lst ((SY h t).map sV)
  obtain ⟨_, o1, ho1, ⟨form, rfl, hform⟩, _, e1⟩ := (take_n h5 (k + 1) (w := 6) (by decide) (by decide)).low (by simp) [] ho
  have cS := callM_list (sayings_ok h6 h149 k hz) (by simp) (all_sV _ 0)
  obtain ⟨_, o2, ho2, ⟨l, rfl, l1, l2, l3, l4⟩, _, e2⟩ := (some_dr h5 h14 k (m := t) (by omega) (by omega)).low (by simp) [SS] ho1
  obtain ⟨_, o3, ho3, ⟨hand, rfl, hhand⟩, _, e3⟩ := (take_n h5 (k + 1) (w := h) (by omega) (by omega)).low (by simp) [SS] ho2
  have SYl : ((SY h t).map sV).length = N := by simp [SY_length, N]
  have gS : ∀ o, (Bm [SS] o).lst? 1 = some ((SY h t).map sV) := fun o => rfl
  have srcS : ∀ o, srcSeq (.ref 1) (Bm [SS] o) = some (.at1 1 false) := fun o => rfl
  have lenS : ∀ o, srcLen (.at1 1 false) (Bm [SS] o) = N := fun o => by simp only [srcLen, gS, Option.getD_some, SYl]
  have zz : ∀ σ, assignG (.tup (.cons (.name 9) (.cons (.name 10) .nil))) (zV (h, t)) σ = some ((σ.set 9 (some (.int h))).set 10 (some (.int t))) := fun σ => rfl
  have E0 : (⟨1, [o], 0⟩ : Mem) = Bm [] o := rfl
  have pB : ∀ o, (Bm [] o).push SS = Bm [SS] o := fun o => rfl
  have bz : ∀ o, (Bm [] o).sz = 1 := fun o => rfl
  have tS : ∀ o, trimV (Bm [] o) (.ref 1) (Bm [SS] o) = .ok (.ref 1) (Bm [SS] o) := fun o => trimV_Bm1r [] o o (all_sV _ _)
  have cS' : ∀ M, callM (run fs (k + 2)) 149 [.int h, .int t] M = .ok (.ref M.sz) (M.push SS) := cS
  have st : startσ 17 [.ref 0, zV (h, t)] = [some (.ref 0), some (zV (h, t)), none, none, none, none, none, none, none, none, none, none, none, none, none, none, none] := rfl
  have lp : 0 < l.length := List.length_pos_iff.mpr l1
  have lenL : ∀ M, bcallM .len [.tup (l.map PV.int)] M = .ok (.int (l.length : Nat)) M := fun M => by simp [bcallM, seq?]
  have fin : ∀ (A : List Int) (L : List MObj) (n : Nat) (o' : MObj), L.reverse[n]? = some (.lst (A.map PV.int)) → trimV (Bm [] o) (.ref (n + 1)) (Bm L o') = .ok (.ref 1) ⟨2, [.lst (A.map PV.int), o'], 0⟩ := fun A L n o' hg => trimV_lowr hg (all_ints A 1)
  -- what the head does
  have head : ∀ rest, endOf (Bm [] o) (evSs (run fs (k + 2)) (.cons (.asgT (.tup (.cons (.name 9) (.cons (.name 10) .nil))) (.var 1))
    (.cons (.asg 2 (.call 5 (.cons (.var 0) (.cons (.int 6) .nil))))
    (.cons (.asg 3 (.call 149 (.cons (.var 9) (.cons (.var 10) .nil))))
    (.cons (.asg 4 (.call 14 (.cons (.var 0) (.cons (.var 10) .nil))))
    (.cons (.asg 5 (.call 5 (.cons (.var 0) (.cons (.var 9) .nil)))) rest))))) [some (.ref 0), some (zV (h, t)), none, none, none, none, none, none, none, none, none, none, none, none, none, none, none] (Bm [] o)) =
      endOf (Bm [] o) (evSs (run fs (k + 2)) rest [some (.ref 0), some (zV (h, t)), some (.int form), some (.ref 1), some (.tup (l.map PV.int)), some (.int hand), none, none, none, some (.int h), some (.int t), none, none, none, none, none, none] (Bm [SS] o3)) := by
    intro rest
    have e1' : callM (run fs (k + 2)) 5 [.ref 0, .int 6] (Bm [] o) = .ok (.int form) (Bm [] o1) := e1
    simp [zz, optR, e1', cS', pB, bz, tS, e2, e3]
  by_cases f2 : form < 2
  · -- any answers
    obtain ⟨vs, o4, ho4, pv, pl, e4⟩ := lcS_dr (own := [8]) (g := .name 8) (elt := evE (run fs (k + 2)) (.ix (.var 4) (.call 5 (.cons (.var 0) (.cons (.bcall .len (.cons (.var 4) .nil)) .nil)))))
      (σ := [some (.ref 0), some (zV (h, t)), some (.int form), some (.ref 1), some (.tup (l.map PV.int)), some (.int hand), none, none, none, some (.int h), some (.int t), none, none, none, none, none, none])
      (fun o => Bm [SS] o) (fun v => ∃ x, v = .int x ∧ x ∈ iota t) (s := .at1 1 false) (xs := (SY h t).map sV) (fun o i => by simp [srcAt, gS]) N 0 (N + 1) [] o3 (by rw [SYl]; rfl) (by omega) (by omega) ho3 (by simp [N, LIM]; omega) (by
        intro x hx o ho
        obtain ⟨_, o', ho', ⟨d, rfl, hd⟩, _, e⟩ := (take_n h5 (k + 1) (w := l.length) lp (by omega)).low (by simp) [SS] ho
        have ix : ∀ M, ixM (.tup (l.map PV.int)) (.int d) M = .ok (.int l[d]) M := ix_tup (by rw [List.getElem?_map, List.getElem?_eq_getElem hd]; rfl)
        exact ⟨_, _, o', rfl, ho', ⟨l[d], rfl, l2 _ (List.getElem_mem hd)⟩, by simp [lenL, e, ix]⟩)
    rw [List.nil_append] at e4
    obtain ⟨A, rfl, hA⟩ := ints_all pv
    refine ⟨A.map PV.int, o4, ho4, ⟨A, rfl, by simpa using pl, hA⟩, all_ints A 0, ?_⟩
    rw [run_at h175 _ _ _ rfl, E0]
    show endOf _ (evSs _ b175 (startσ 17 _) _) = _
    rw [st]
    refine (head _).trans ?_
    have ps : (Bm [SS] o4).push (.lst (A.map PV.int)) = Bm [.lst (A.map PV.int), SS] o4 := Bm_push _ _ _
    have b1 : (Bm [SS] o4).sz = 2 := rfl
    have t1 : trimV (Bm [SS] o3) (.ref 2) (Bm [.lst (A.map PV.int), SS] o4) = .ok (.ref 2) (Bm [.lst (A.map PV.int), SS] o4) := trimV_Bm1r [SS] o3 o4 (all_ints A _)
    have t2' := fin A [.lst (A.map PV.int), SS] 1 o4 rfl
    have hf : decide ((form : Int) < 2) = true := by simp; omega
    clear_value SS
    simp [lt_ii, hf, truth, srcS, optR, lenS, e4, ps, b1, t1, t2']
  · by_cases f4 : form < 4
    · -- a hand's first
      have e4 : lcSrc [8] (.name 8) none (evE (run fs (k + 2)) (.call 163 (.cons (.ix (.var 8) (.var 5)) (.cons (.var 4) .nil))))
          [some (.ref 0), some (zV (h, t)), some (.int form), some (.ref 1), some (.tup (l.map PV.int)), some (.int hand), none, none, none, some (.int h), some (.int t), none, none, none, none, none, none] (.at1 1 false) (N + 1) 0 [] (Bm [SS] o3) = .ok ([] ++ ((SY h t).map fun s => fstO (s.getD hand []) l).map PV.int) (Bm [SS] o3) := by
        refine lcS_items (xs := (SY h t).map sV) (fun i => by simp [srcAt, gS]) N 0 (N + 1) _ _ (by rw [SYl]; rfl) (by omega) (by omega) (by simp [N, LIM]; omega) (by simp [SY_length, N]) fun j u v acc hu hv ha => ?_
        rw [Nat.zero_add, List.getElem?_map] at hu
        rw [List.getElem?_map, List.getElem?_map] at hv
        cases es : (SY h t)[j]? with
        | none => rw [es] at hu; cases hu
        | some s =>
          rw [es] at hu hv
          cases hu; cases hv
          obtain ⟨n, hn, rfl⟩ := SY_mem (List.mem_of_getElem? es)
          obtain ⟨i, hi, eo⟩ := sy_hand ht (h := h) (k := n) hhand
          have gd : (sy t h n).getD hand [] = od t i := by rw [List.getD_eq_getElem?_getD, eo]; rfl
          have xh := ix_sV eo
          have pm := od_perm ht hi
          have c := callM_v (first_ok h163 (k + 1) (o := od t i) (l := l) (by rw [od_length ht hi]; omega) (by
            obtain ⟨y, ys, rfl⟩ := List.exists_cons_of_ne_nil l1
            exact ⟨y, pm.mem_iff.mpr (l2 y List.mem_cons_self), List.mem_cons_self⟩)) (by simp [pure_o, pure_ints]) rfl
          rw [lcT_none]
          simp only [gd]
          simp [xh, c, ha]
      rw [List.nil_append] at e4
      let A := (SY h t).map fun s => fstO (s.getD hand []) l
      have hA : TA h t A := by
        refine ⟨by simp [A, SY_length], fun x hx => ?_⟩
        obtain ⟨s, hs, rfl⟩ := List.mem_map.mp hx
        obtain ⟨n, hn, rfl⟩ := SY_mem hs
        obtain ⟨i, hi, eo⟩ := sy_hand ht (h := h) (k := n) hhand
        have gd : (sy t h n).getD hand [] = od t i := by rw [List.getD_eq_getElem?_getD, eo]; rfl
        have pm := od_perm ht hi
        obtain ⟨y, ys, rfl⟩ := List.exists_cons_of_ne_nil l1
        have := fstO_mem (o := od t i) (l := y :: ys) ⟨y, pm.mem_iff.mpr (l2 y List.mem_cons_self), List.mem_cons_self⟩
        rw [gd]
        exact l2 _ this.1
      refine ⟨A.map PV.int, o3, ho3, ⟨A, rfl, hA⟩, all_ints A 0, ?_⟩
      rw [run_at h175 _ _ _ rfl, E0]
      show endOf _ (evSs _ b175 (startσ 17 _) _) = _
      rw [st]
      refine (head _).trans ?_
      have e4' : lcSrc [8] (.name 8) none (evE (run fs (k + 2)) (.call 163 (.cons (.ix (.var 8) (.var 5)) (.cons (.var 4) .nil))))
          [some (.ref 0), some (zV (h, t)), some (.int form), some (.ref 1), some (.tup (l.map PV.int)), some (.int hand), none, none, none, some (.int h), some (.int t), none, none, none, none, none, none] (.at1 1 false) (N + 1) 0 [] (Bm [SS] o3) = .ok (A.map PV.int) (Bm [SS] o3) := e4
      have ps : (Bm [SS] o3).push (.lst (A.map PV.int)) = Bm [.lst (A.map PV.int), SS] o3 := Bm_push _ _ _
      have b1 : (Bm [SS] o3).sz = 2 := rfl
      have t1 : trimV (Bm [SS] o3) (.ref 2) (Bm [.lst (A.map PV.int), SS] o3) = .ok (.ref 2) (Bm [.lst (A.map PV.int), SS] o3) := trimV_Bm1r [SS] o3 o3 (all_ints A _)
      have t2' := fin A [.lst (A.map PV.int), SS] 1 o3 rfl
      have hf : decide ((form : Int) < 2) = false := by simp; omega
      have hf4 : decide ((form : Int) < 4) = true := by simp; omega
      clear_value SS A
      simp [lt_ii, hf, hf4, truth, srcS, optR, lenS, e4', ps, b1, t1, t2']
    · -- winning sets
      obtain ⟨x, hx, ex⟩ := ix_first l1 (Bm [SS] o3)
      obtain ⟨y, hy, ey⟩ := ix_last l1 (Bm [SS] o3)
      obtain ⟨_, o4, ho4, ⟨d, rfl, hd⟩, _, e4⟩ := (take_n h5 (k + 1) (w := 2) (by decide) (by decide)).low (by simp) [SS] ho3
      let σ1 : St := [some (.ref 0), some (zV (h, t)), some (.int form), some (.ref 1), some (.tup (l.map PV.int)), some (.int hand), none, none, none, some (.int h), some (.int t), some (.int x), some (.int y), none, none, none, none]
      obtain ⟨vs, o5, ho5, pv, pl, e5⟩ := lcI_dr (own := [14]) (g := .name 14) (elt := evE (run fs (k + 2)) (.call 14 (.cons (.var 0) (.cons (.var 9) .nil)))) (σ := σ1)
        (fun o => Bm [SS] o) (fun v => ∃ l : List Int, v = tV l ∧ (∀ y ∈ l, y ∈ iota h) ∧ l.length ≤ h) (rangeL 0 ((1 + d : Nat) : Int)) [] o4 ho4 (by simp [rangeL, LIM]; omega) (by
          intro u hu o ho
          obtain ⟨_, o', ho', ⟨l, rfl, q1, q2, q3, q4⟩, _, e⟩ := (some_dr h5 h14 k (m := h) (by omega) (by omega)).low (by simp) [SS] ho
          exact ⟨_, _, o', rfl, ho', ⟨l, rfl, q2, q4⟩, by simp [σ1, e]; rfl⟩)
      rw [List.nil_append] at e5
      obtain ⟨sets, rfl, hsets⟩ := of_tups pv
      have sl : sets.length ≤ 100 := by
        have : sets.length = (1 + d : Int).toNat := by simpa [rangeL] using pl
        omega
      let Sets : MObj := .lst (sets.map tV)
      have allT : ∀ b, (sets.map tV).all (PV.bnd b) = true := fun b => by
        rw [List.all_eq_true]; intro u hu; obtain ⟨w, _, rfl⟩ := List.mem_map.mp hu; exact pure_t b w
      obtain ⟨σ', M', e6, T, A, f13, rfl, hAl, hA, u8, rfl⟩ := for_at (g := .name 8) (body := evSs (run fs (k + 2)) foundBody) (n := 1) (xs := (SY h t).map sV)
        (fun j σ M => ∃ (T : List MObj) (F : List Int) (f13 : Option PV), M = Bm (T ++ [.lst (F.map PV.int), Sets, SS]) o5 ∧ F.length = j ∧ (∀ w ∈ F, w ∈ iota t) ∧ ∃ u8, σ = [some (.ref 0), some (zV (h, t)), some (.int form), some (.ref 1), some (.tup (l.map PV.int)), some (.int hand), some (.ref 2), some (.ref 3), u8, some (.int h), some (.int t), some (.int x), some (.int y), f13, none, none, none])
        (by
          rintro j σ M ⟨T, F, f13, rfl, _⟩
          have g : (Bm (T ++ [.lst (F.map PV.int), Sets, SS]) o5).get 1 = some SS := Bm_high _ _ (n := 0) (by simp)
          simp only [Mem.lst?, g]; rfl)
        [some (.ref 0), some (zV (h, t)), some (.int form), some (.ref 1), some (.tup (l.map PV.int)), some (.int hand), some (.ref 2), some (.ref 3), none, some (.int h), some (.int t), some (.int x), some (.int y), none, none, none, none] (Bm [.lst [], Sets, SS] o5) ⟨[], [], none, rfl, rfl, by simp, none, rfl⟩ (by
          rintro j u hu σ M ⟨T, F, f13, rfl, hF, hFm, u8, rfl⟩
          rw [List.getElem?_map] at hu
          cases es : (SY h t)[j]? with
          | none => rw [es] at hu; cases hu
          | some s =>
            rw [es] at hu
            cases hu
            obtain ⟨n, hn, rfl⟩ := SY_mem (List.mem_of_getElem? es)
            have hj : j < N := by
              have := (List.getElem?_eq_some_iff.mp es).1
              rwa [SY_length] at this
            obtain ⟨w, told, hw, e⟩ := found_turn h162 (k + 1) ht (h := h) (n := n) hh3 (l2 x hx) (l2 y hy) (sets := sets) (fun q hq => hsets q hq) sl (F := F.map PV.int) (by simp; omega) T o5 SS (some (zV (h, t))) (some (.int form)) (some (.tup (l.map PV.int))) (some (.int hand)) (some (.int t)) f13 none none none
            refine ⟨_, rfl, _, _, e, told :: T, F ++ [w], _, ?_, by simp [hF], ?_, _, rfl⟩
            · simp; rfl
            · intro q hq
              rcases List.mem_append.mp hq with hq | hq
              · exact hFm q hq
              · rw [List.mem_singleton] at hq; subst hq
                rcases hw with rfl | rfl
                · exact l2 _ hx
                · exact l2 _ hy)
      rw [SYl] at hAl
      refine ⟨A.map PV.int, o5, ho5, ⟨A, rfl, hAl, hA⟩, all_ints A 0, ?_⟩
      rw [run_at h175 _ _ _ rfl, E0]
      show endOf _ (evSs _ b175 (startσ 17 _) _) = _
      rw [st]
      refine (head _).trans ?_
      have e5' : lcItems [14] (.name 14) none (evE (run fs (k + 2)) (.call 14 (.cons (.var 0) (.cons (.var 9) .nil)))) [some (.ref 0), some (zV (h, t)), some (.int form), some (.ref 1), some (.tup (l.map PV.int)), some (.int hand), none, none, none, some (.int h), some (.int t), some (.int x), some (.int y), none, none, none, none] (rangeL 0 (1 + (d : Int))) [] (Bm [SS] o4) = .ok (sets.map tV) (Bm [SS] o5) := e5
      have inr : inRange (1 + (d : Int)) = true := inR (t := 1 + d) (by omega)
      have ps : (Bm [SS] o5).push (.lst (sets.map tV)) = Bm [Sets, SS] o5 := Bm_push _ _ _
      have b1 : ∀ o, (Bm [SS] o).sz = 2 := fun o => rfl
      have t1 : trimV (Bm [SS] o3) (.ref 2) (Bm [Sets, SS] o5) = .ok (.ref 2) (Bm [Sets, SS] o5) := trimV_Bm1r [SS] o3 o5 (allT _)
      have ps2 : (Bm [Sets, SS] o5).push (.lst []) = Bm [.lst [], Sets, SS] o5 := Bm_push _ _ _
      have b2 : (Bm [Sets, SS] o5).sz = 3 := rfl
      have t2' : trimV (Bm [Sets, SS] o5) (.ref 3) (Bm [.lst [], Sets, SS] o5) = .ok (.ref 3) (Bm [.lst [], Sets, SS] o5) := trimV_Bm1r [Sets, SS] o5 o5 (by simp)
      have t3 := fin A (T ++ [.lst (A.map PV.int), Sets, SS]) 2 o5 (by simp)
      have t3' : trimV (Bm [] o) (.ref 3) (Bm (T ++ [.lst (A.map PV.int), Sets, SS]) o5) = .ok (.ref 1) ⟨2, [.lst (A.map PV.int), o5], 0⟩ := t3
      have hf : decide ((form : Int) < 2) = false := by simp; omega
      have hf4 : decide ((form : Int) < 4) = false := by simp; omega
      have srcS3 : srcSeq (.ref 1) (Bm [.lst [], Sets, SS] o5) = some (.at1 1 false) := rfl
      have zero : (0 : Nat) ≤ LIM := by decide
      have addd : ∀ M, binM .Add (.int 1) (.int d) M = .ok (.int (1 + (d : Int))) M := fun M => rfl
      simp only [foundBody] at e6
      have e4' : callM (run fs (k + 2)) 5 [.ref 0, .int 2] (Bm [SS] o3) = .ok (.int d) (Bm [SS] o4) := e4
      generalize hTL : sets.map tV = TL at *
      clear_value SS Sets
      have L2 : (2 : Nat) ≤ LIM := by decide
      simp [L2, lt_ii, hf, hf4, truth, neg_one, ex, ey, e4', addd, intR, inr, e5', ps, b1, t1, ps2, b2, t2', zero, srcS3, optR, e6, t3']
end Lw
end
section
set_option Elab.async false
set_option linter.all false
set_option maxRecDepth 100000
set_option maxHeartbeats 1000000
namespace Lw
open PySem Mn
/-- a table -/
def tbV (z : Nat × Nat) (A : List Int) : PV := .tup [.int z.1, .int z.2, tV A]
theorem pure_tb (b : Nat) (z : Nat × Nat) (A : List Int) : (tbV z A).bnd b = true := by
  rw [tbV, bnd_tup]; simp [pure_t]
theorem table_dr {fs : List (Nat × Fn)} (h5 : fs.lookup 5 = some fn5) (h6 : fs.lookup 6 = some fn6) (h14 : fs.lookup 14 = some fn14) (h149 : fs.lookup 149 = some fn149) (h162 : fs.lookup 162 = some fn162) (h163 : fs.lookup 163 = some fn163) (h175 : fs.lookup 175 = some fn175) (h176 : fs.lookup 176 = some fn176) (k : Nat) {z : Nat × Nat} (hz : z ∈ SZ) :
    Dr (run fs (k + 4)) 176 [zV z] fun v => ∃ A : List Int, v = tbV z A ∧ TA z.1 z.2 A := by
  have AD := answers_dr h5 h6 h14 h149 h162 h163 h175 k hz
  obtain ⟨h, t⟩ := z
  obtain ⟨ht, hh1, hh3, hN⟩ := sz_ok hz
  simp only at ht hh1 hh3 hN AD
  obtain ⟨m0, m1, t4, t2⟩ := mm_le ht
  have N0 : 0 < mm t ^ h := Nat.pow_pos m0
  intro o ho
  obtain ⟨_, o1, ho1, ⟨A, rfl, hA⟩, _, e1⟩ := AD.low (by simp; rfl) [] ho
  obtain ⟨_, o2, ho2, ⟨d, rfl, hd⟩, _, e2⟩ := (take_n h5 (k + 2) (w := 4) (by decide) (by decide)).low (by simp) [.lst (A.map PV.int)] ho1
  have x1 : ∀ M, ixM (zV (h, t)) (.int 1) M = .ok (.int t) M := fun M => rfl
  let q : Int := if ((d : Int) - 1) > 0 then (d : Int) - 1 else 0
  obtain ⟨σ', M', e3, A', o3, rfl, ho3, hA', u3, rfl⟩ := for_ix (g := .name 3) (body := evSs (run fs (k + 3)) (.cons (.setix (.var 2) (.call 5 (.cons (.var 0) (.cons (.bcall .len (.cons (.var 2) .nil)) .nil))) (.call 5 (.cons (.var 0) (.cons (.ix (.var 1) (.int 1)) .nil)))) .nil))
    (fun j σ M => ∃ (A : List Int) (o : MObj), M = Bm [.lst (A.map PV.int)] o ∧ BX o ∧ TA h t A ∧ ∃ u3, σ = [some (.ref 0), some (zV (h, t)), some (.ref 1), u3]) (rangeL 0 q) 0 [some (.ref 0), some (zV (h, t)), some (.ref 1), none] (Bm [.lst (A.map PV.int)] o2) ⟨A, o2, rfl, ho2, hA, none, rfl⟩ (by
      rintro j x hx σ M ⟨A, o, rfl, ho, hA, u3, rfl⟩
      obtain ⟨_, o1, ho1, ⟨v, rfl, hv⟩, _, e1⟩ := (take_n h5 (k + 2) (w := t) (by omega) (by omega)).low (by simp) [.lst (A.map PV.int)] ho
      obtain ⟨_, o2, ho2, ⟨i, rfl, hi⟩, _, e2⟩ := (take_n h5 (k + 2) (w := A.length) (by rw [hA.1]; exact N0) (by rw [hA.1]; omega)).low (by simp) [.lst (A.map PV.int)] ho1
      have ln : ∀ o, bcallM .len [.ref 1] (Bm [.lst (A.map PV.int)] o) = .ok (.int (A.length : Nat)) (Bm [.lst (A.map PV.int)] o) := fun o => by
        have g : (Bm [.lst (A.map PV.int)] o).lst? 1 = some (A.map PV.int) := rfl
        simp [bcallM, seq?, g]
      have st : setM (.ref 1) (.int i) (.int v) (Bm [.lst (A.map PV.int)] o2) = .ok () (Bm [.lst ((A.set i v).map PV.int)] o2) := by
        have g : (Bm [.lst (A.map PV.int)] o2).get 1 = some (.lst (A.map PV.int)) := rfl
        have hix : ixOf (A.map PV.int).length (i : Int) = some i := ixOf_nat (by simpa using hi)
        simp only [setM, g, hix, PV.pure, pure_int, if_true]
        rw [List.map_set]
        rfl
      refine ⟨_, rfl, [some (.ref 0), some (zV (h, t)), some (.ref 1), some x], Bm [.lst ((A.set i v).map PV.int)] o2, ?_, A.set i v, o2, rfl, ho2, ⟨by simpa using hA.1, fun y hy => ?_⟩, _, rfl⟩
      · simp [x1, e1, ln, e2, st]
      · rcases List.mem_or_eq_of_mem_set hy with hy | hy
        · exact hA.2 y hy
        · rw [hy]; exact iota_mem.mpr ⟨by omega, by omega⟩)
  refine ⟨tbV (h, t) A', o3, ho3, ⟨A', rfl, hA'⟩, pure_tb 0 _ _, ?_⟩
  rw [run_at h176 _ _ _ rfl]
  have E0 : (⟨1, [o], 0⟩ : Mem) = Bm [] o := rfl
  have e1' : callM (run fs (k + 3)) 175 [.ref 0, zV (h, t)] (Bm [] o) = .ok (.ref 1) (Bm [.lst (A.map PV.int)] o1) := e1
  have t1 : trimV (Bm [] o) (.ref 1) (Bm [.lst (A.map PV.int)] o1) = .ok (.ref 1) (Bm [.lst (A.map PV.int)] o1) := trimV_Bm1r [] o o1 (all_ints A _)
  have e2' : callM (run fs (k + 3)) 5 [.ref 0, .int 4] (Bm [.lst (A.map PV.int)] o1) = .ok (.int d) (Bm [.lst (A.map PV.int)] o2) := e2
  have sb := sub_ii (d : Int) 1
  have mx : ∀ M, bcallM .max2 [.int 0, .int ((d : Int) - 1)] M = .ok (.int q) M := fun M => rfl
  have inr : inRange q = true := by
    have h1 : 0 ≤ q := by simp only [q]; split <;> omega
    have h2 : q ≤ 10 := by simp only [q]; split <;> omega
    have e : q = (q.toNat : Int) := by omega
    rw [e]
    exact inR (by omega)
  have tu : bcallM .tuple [.ref 1] (Bm [.lst (A'.map PV.int)] o3) = .ok (tV A') (Bm [.lst (A'.map PV.int)] o3) := rfl
  have ad : ∀ M, binM .Add (zV (h, t)) (.tup [tV A']) M = .ok (tbV (h, t) A') M := fun M => addT (by simp) M
  have tf : trimV (Bm [] o) (tbV (h, t) A') (Bm [.lst (A'.map PV.int)] o3) = .ok (tbV (h, t) A') ⟨1, [o3], 0⟩ := trimV_low (pure_tb 1 _ _)
  have one : (1 : Nat) ≤ LIM := by decide
  rw [E0]
  show endOf _ (evSs _ b176 [some (.ref 0), some (zV (h, t)), none, none] _) = _
  clear_value q
  simp [b176, e1', t1, e2', sb, mx, intR, inr, e3, tu, one, ad, tf]
end Lw
end
section
set_option Elab.async false
set_option linter.all false
set_option maxRecDepth 100000
set_option maxHeartbeats 1000000
namespace Mn
open PySem
/-! ### what repr tells is not too long -/
/-- signs of a text -/
def okS (x : Str) : Prop := ∀ c ∈ x.cps.toList, c < 1114112
theorem okS_app {x y : Str} (hx : okS x) (hy : okS y) : okS (x ++ y) := by
  intro c hc
  have e : (x ++ y).cps = x.cps ++ y.cps := rfl
  rw [e, Array.toList_append] at hc
  rcases List.mem_append.mp hc with h | h
  · exact hx c h
  · exact hy c h
theorem okS_of (s : String) : okS (Str.ofString s) := by
  intro c hc
  rw [Str.ofString_eq_toList] at hc
  have hc : c ∈ s.toList.map Char.toNat := by simpa using hc
  obtain ⟨ch, _, rfl⟩ := List.mem_map.mp hc
  have := ch.valid
  rcases this with h | ⟨_, h⟩
  · exact Nat.lt_trans h (by decide)
  · exact h
theorem okS_join {sep : String} : ∀ {ts : List Str}, (∀ t ∈ ts, okS t) → okS (Str.join (Str.ofString sep) ts)
  | [], _ => by intro c hc; cases hc
  | [t], h => h t List.mem_cons_self
  | t :: u :: ts, h => okS_app (okS_app (h t List.mem_cons_self) (okS_of sep)) (okS_join fun v hv => h v (List.mem_cons_of_mem _ hv))
theorem okS_tupleText {ts : List Str} (h : ∀ t ∈ ts, okS t) : okS (tupleText ts) := okS_app (okS_app (okS_of "(") (okS_join h)) (okS_of _)
def Rp (d n : Nat) (v : PV) : Prop := v.dat d = true ∧ v.toD.showable = true ∧ v.toD.shown.length ≤ n ∧ okS v.toD.shown
theorem dat_mono : ∀ {v : PV} {d e : Nat}, v.dat d = true → d ≤ e → v.dat e = true
  | .non, d, e, _, _ => by simp [PV.dat]
  | .bl _, d, e, _, _ => by simp [PV.dat]
  | .int _, d, e, _, _ => by simp [PV.dat]
  | .str _, d, e, h, _ => by rw [PV.dat] at h ⊢; exact h
  | .ref _, d, e, h, _ => by rw [PV.dat] at h; cases h
  | .tup xs, d, e, h, hl => by
    rw [dat_tup_, Bool.and_eq_true, decide_eq_true_eq, List.all_eq_true] at h ⊢
    exact ⟨by omega, fun x hx => dat_mono (h.2 x hx) (by omega)⟩
theorem Rp.mono {d e n m : Nat} {v : PV} (h : Rp d n v) (hd : d ≤ e) (hn : n ≤ m) : Rp e m v := ⟨dat_mono h.1 hd, h.2.1, Nat.le_trans h.2.2.1 hn, h.2.2.2⟩
theorem Rp.non : Rp 0 4 .non := ⟨by simp [PV.dat], rfl, by simp only [PV.toD, PyData.shown]; decide, okS_of _⟩
theorem Rp.bl (b : Bool) : Rp 0 5 (.bl b) := ⟨by simp [PV.dat], rfl, by simp only [PV.toD, PyData.shown]; cases b <;> decide, by simp only [PV.toD, PyData.shown]; cases b <;> exact okS_of _⟩
theorem Rp.int {i : Int} (h : i.natAbs < 10 ^ 10) : Rp 0 11 (.int i) := by
  refine ⟨by simp [PV.dat], ?_, ?_, by simp only [PV.toD, PyData.shown]; exact okS_of _⟩
  · simp only [PV.toD, PyData.showable, decide_eq_true_eq]
    have h2 : i.natAbs < 2 ^ 64 := Nat.lt_trans h (by decide)
    by_cases h0 : i.natAbs = 0
    · rw [h0]; decide
    · have := (Nat.log2_lt h0).mpr h2
      omega
  · simp only [PV.toD, PyData.shown]
    have := int_text_length_le10 (a := i) (k := 10) (by decide) h
    rw [ofString_length]
    omega
theorem piled_le {n : Nat} : ∀ {ts : List Str}, (∀ t ∈ ts, t.length ≤ n) → piled ts ≤ ts.length * (n + 2)
  | [], _ => by simp [piled]
  | t :: ts, h => by
    rw [piled_cons, List.length_cons, Nat.succ_mul]
    have h1 := h t List.mem_cons_self
    have h2 := piled_le (n := n) (ts := ts) fun u hu => h u (List.mem_cons_of_mem _ hu)
    omega
theorem tupleText_le {n : Nat} {ts : List Str} (h : ∀ t ∈ ts, t.length ≤ n) : (tupleText ts).length ≤ ts.length * (n + 2) + 3 := by
  unfold tupleText
  rw [strLen_append, strLen_append]
  have e1 : ((("(" : String) : Str)).length = 1 := rfl
  have e3 : (((if ts.length == 1 then ",)" else ")" : String) : Str)).length ≤ 2 := by split <;> decide
  have e2 : (Str.join ", " ts).length ≤ ts.length * (n + 2) := by
    cases ts with
    | nil => exact Nat.zero_le _
    | cons t ts =>
      have := join_length_add (t :: ts) (by simp)
      have := piled_le h
      omega
  omega
theorem shownAll_mem : ∀ {xs : List PV} {t : Str}, t ∈ PyData.shownAll (PV.toD.toDs xs) → ∃ x ∈ xs, t = x.toD.shown
  | [], t, h => by rw [PV.toD.toDs, PyData.shownAll] at h; cases h
  | x :: xs, t, h => by
    rw [PV.toD.toDs, PyData.shownAll, List.mem_cons] at h
    rcases h with rfl | h
    · exact ⟨x, List.mem_cons_self, rfl⟩
    · obtain ⟨y, hy, e⟩ := shownAll_mem h
      exact ⟨y, List.mem_cons_of_mem _ hy, e⟩
theorem shownAll_len : ∀ xs : List PV, (PyData.shownAll (PV.toD.toDs xs)).length = xs.length
  | [] => by rw [PV.toD.toDs, PyData.shownAll]; rfl
  | x :: xs => by rw [PV.toD.toDs, PyData.shownAll, List.length_cons, shownAll_len xs, List.length_cons]
theorem showableAll_of : ∀ {xs : List PV}, (∀ x ∈ xs, x.toD.showable = true) → PyData.showableAll (PV.toD.toDs xs) = true
  | [], _ => by rw [PV.toD.toDs, PyData.showableAll]
  | x :: xs, h => by
    rw [PV.toD.toDs, PyData.showableAll, h x List.mem_cons_self, showableAll_of fun y hy => h y (List.mem_cons_of_mem _ hy)]; rfl
theorem Rp.tup {d n m : Nat} {xs : List PV} (h : ∀ x ∈ xs, Rp d n x) (hm : xs.length ≤ m) : Rp (d + 1) (m * (n + 2) + 3) (.tup xs) := by
  refine ⟨?_, ?_, ?_, ?_⟩
  · rw [dat_tup_, Bool.and_eq_true, decide_eq_true_eq, List.all_eq_true]
    exact ⟨by omega, fun x hx => (h x hx).1⟩
  · rw [toD_tup, PyData.showable]
    exact showableAll_of fun x hx => (h x hx).2.1
  · rw [toD_tup, PyData.shown]
    have := tupleText_le (n := n) (ts := PyData.shownAll (PV.toD.toDs xs)) fun t ht => by
      obtain ⟨x, hx, rfl⟩ := shownAll_mem ht
      exact (h x hx).2.2.1
    rw [shownAll_len] at this
    have h2 : xs.length * (n + 2) ≤ m * (n + 2) := Nat.mul_le_mul_right _ hm
    omega
  · rw [toD_tup, PyData.shown]
    refine okS_tupleText fun t ht => ?_
    obtain ⟨x, hx, rfl⟩ := shownAll_mem ht
    exact (h x hx).2.2.2
/-- repr of a plain thing -/
theorem repr_ok {d n : Nat} {v : PV} (h : Rp d n v) (hd : d ≤ 60) (hn : n ≤ 16777216) (M : Mem) : bcallM .repr [v] M = .ok (.str v.toD.shown) M := by
  have hs : shallow v = true := dat_mono h.1 hd
  have hr : repOk v.toD = true := by
    unfold repOk
    have hl : v.toD.shown.length ≤ LIM := Nat.le_trans h.2.2.1 hn
    rw [h.2.1, decide_eq_true hl]; rfl
  cases v with
  | ref n => rw [Rp, PV.dat] at h; cases h.1
  | _ => simp only [bcallM, hs, hr, Bool.and_self, if_true]
end Mn
namespace Lw
open PySem Mn
/-- two texts that are the same -/
theorem eq_str {x : Str} (hx : okS x) (M : Mem) : cmpM .Eq (.str x) (.str x) M = .ok (.bl true) M := by
  have hs : shallow (.str x) = true := by rw [shallow, PV.dat, List.all_eq_true]; intro c hc; simpa using hx c hc
  simp only [cmpM, eqM, hs, Bool.and_self, if_true, PV.eqv]
  simp
end Lw
end
section
set_option Elab.async false
set_option linter.all false
set_option maxRecDepth 100000
set_option maxHeartbeats 1000000
namespace Mn
/-- a loop that looks for something, over items that stand for others -/
theorem for_findT {α : Type} (inj : α → PV) {g : MG} {body : Sv} {M : Mem} (P : St → Prop) (fnd : α → Option PV) : ∀ (xs : List α) (σ : St), P σ →
    (∀ x ∈ xs, ∀ σ, P σ → ∃ s, assignG g (inj x) σ = some s ∧ (∀ v, fnd x = some v → body s M = .ok (.ret v) M) ∧ (fnd x = none → ∃ σ', body s M = .ok (.next σ') M ∧ P σ')) →
    (∀ v, xs.findSome? fnd = some v → forItems g body (xs.map inj) σ M = .ok (.ret v) M) ∧ (xs.findSome? fnd = none → ∃ σ', forItems g body (xs.map inj) σ M = .ok (.next σ') M ∧ P σ')
  | [], σ, hp, _ => ⟨fun v e => (by cases e), fun _ => ⟨σ, by simp, hp⟩⟩
  | x :: xs, σ, hp, h => by
    obtain ⟨s, a1, h1, h2⟩ := h x List.mem_cons_self σ hp
    rw [List.findSome?_cons, List.map_cons]
    cases e : fnd x with
    | some v =>
      refine ⟨fun w hw => ?_, fun hw => by cases hw⟩
      cases hw
      rw [forI_cons, a1]
      simp only [h1 v e, aT_ret]
    | none =>
      obtain ⟨σ1, e1, p1⟩ := h2 e
      obtain ⟨q1, q2⟩ := for_findT inj P fnd xs σ1 p1 (fun y hy => h y (List.mem_cons_of_mem _ hy))
      have st : forItems g body (inj x :: xs.map inj) σ M = forItems g body (xs.map inj) σ1 M := by
        rw [forI_cons, a1]
        simp only [e1, aT_next]
      rw [st]
      exact ⟨q1, q2⟩
end Mn
namespace Lw
open PySem Mn
def exch (l : List Int) (k : Nat) : List Int := (l.set k (l.getD (k + 1) 0)).set (k + 1) (l.getD k 0)
theorem exch_length (l : List Int) (k : Nat) : (exch l k).length = l.length := by simp [exch]
theorem exch_eq : ∀ {k : Nat} {l : List Int} (hk : k + 1 < l.length), exch l k = l.take k ++ [l[k + 1], l[k]'(by omega)] ++ l.drop (k + 2)
  | 0, x :: y :: l, _ => by simp [exch]
  | k + 1, x :: l, hk => by
    have ih := exch_eq (k := k) (l := l) (by simpa using hk)
    have e : exch (x :: l) (k + 1) = x :: exch l k := by simp [exch]
    rw [e, ih]; simp
theorem cut_to (xs : List PV) (k : Nat) (h : k ≤ xs.length) : cut xs none (some (k : Int)) = xs.take k := by
  simp [cut, sIx, Nat.min_eq_left h]
theorem cut_from (xs : List PV) (k : Nat) (h : k ≤ xs.length) : cut xs (some (k : Int)) none = xs.drop k := by
  simp only [cut, sIx]
  rw [if_pos (by omega)]
  have : (k : Int).toNat.min xs.length = k := by rw [Int.toNat_natCast]; exact Nat.min_eq_left h
  rw [this]
  apply List.take_of_length_le
  simp
theorem exchanged_ok {fs : List (Nat × Fn)} (h17 : fs.lookup 17 = some fn17) (j : Nat) {l : List Int} {k : Nat} (hk : k + 1 < l.length) (hl : l.length ≤ 1000) : run fs (j + 1) 17 [oV l, .int k] Mem.emp = .ok (oV (exch l k)) Mem.emp := by
  have g1 : l[k]? = some (l[k]'(by omega)) := List.getElem?_eq_getElem _
  have g2 : l[k + 1]? = some l[k + 1] := List.getElem?_eq_getElem _
  have x1 := ix_oV g1
  have x2 := ix_oV g2
  have x2' : ∀ M, ixM (oV l) (.int ((k : Int) + 1)) M = .ok (.int l[k + 1]) M := x2
  have c1 : ∀ M, slM (oV l) none (some (k : Int)) M = .ok (.tup ((l.take k).map PV.int)) M := fun M => by
    simp only [slM, oV, cut_to (l.map PV.int) k (by simp; omega), List.map_take]
  have c2 : ∀ M, slM (oV l) (some ((k : Int) + 2)) none M = .ok (.tup ((l.drop (k + 2)).map PV.int)) M := fun M => by
    have := cut_from (l.map PV.int) (k + 2) (by simp; omega)
    simp only [slM, oV]
    rw [show ((k : Int) + 2) = ((k + 2 : Nat) : Int) by omega, this, List.map_drop]
  have two : (2 : Nat) ≤ LIM := by decide
  have b1 := addT (xs := (l.take k).map PV.int) (ys := [.int l[k + 1], .int (l[k]'(by omega))]) (by simp only [List.length_take, List.length_map, List.length_cons, List.length_nil]; omega)
  have b2 := addT (xs := (l.take k).map PV.int ++ [.int l[k + 1], .int (l[k]'(by omega))]) (ys := (l.drop (k + 2)).map PV.int) (by simp only [List.length_append, List.length_take, List.length_drop, List.length_map, List.length_cons, List.length_nil]; omega)
  have b2' : ∀ M, binM .Add (.tup ((l.take k).map PV.int ++ [.int l[k + 1], .int (l[k]'(by omega))])) (.tup ((l.drop (k + 2)).map PV.int)) M = .ok (oV (exch l k)) M := fun M => by
    rw [b2, exch_eq hk]; simp [oV]
  rw [run_at h17 _ _ _ rfl]
  generalize (l.take k).map PV.int = A at *
  generalize (l.drop (k + 2)).map PV.int = B at *
  simp [fn17, b17, startσ, c1, c2, intR, b1, b2', addI, x1, x2', two]
theorem puts_ok {fs : List (Nat × Fn)} (h11 : fs.lookup 11 = some fn11) (k : Nat) {o : List Int} {x y : Int} (hx : x ∈ o) (hy : y ∈ o) : run fs (k + 1) 11 [oV o, .int x, .int y] Mem.emp = .ok (.bl (ahd o x y)) Mem.emp := ahead_ok (f := 11) h11 k hx hy
/-! ### neighbours exchanged, by numbers -/
def nr (t i a : Nat) : Nat := (OD t).idxOf (exch (od t i) a)
theorem nr_ok {t : Nat} (ht : t ∈ [2, 3, 4]) {i a : Nat} (hi : i < mm t) (ha : a < t - 1) : nr t i a < mm t ∧ od t (nr t i a) = exch (od t i) a := by
  have : ∀ t ∈ [2, 3, 4], ∀ i < mm t, ∀ a < t - 1, nr t i a < mm t ∧ od t (nr t i a) = exch (od t i) a := by decide +kernel
  exact this t ht i hi a ha
/-- what a table tells at a place -/
def an (A : List Int) (k : Nat) : Int := A.getD k 0
/-- a hand's order's number in a saying, and the place with another one -/
def own (h t k j : Nat) : Nat := (dg (mm t) h k).getD j 0
def oth (h t k j i : Nat) : Nat := val (mm t) ((dg (mm t) h k).set j i)
def gn (A : List Int) (h t k j i : Nat) : Bool := ahd (od t (own h t k j)) (an A (oth h t k j i)) (an A k)
theorem own_lt {t : Nat} (ht : t ∈ [2, 3, 4]) {h j : Nat} (hj : j < h) (k : Nat) : own h t k j < mm t := by
  obtain ⟨m0, _⟩ := mm_le ht
  unfold own
  have hl : j < (dg (mm t) h k).length := by rw [dg_length]; exact hj
  rw [List.getD_eq_getElem?_getD, List.getElem?_eq_getElem hl]
  exact dg_lt m0 _ _ _ (List.getElem_mem hl)
theorem dgset_lt {t : Nat} (ht : t ∈ [2, 3, 4]) (h k j : Nat) {i : Nat} (hi : i < mm t) : ∀ d ∈ (dg (mm t) h k).set j i, d < mm t := by
  obtain ⟨m0, _⟩ := mm_le ht
  intro d hd
  rcases List.mem_or_eq_of_mem_set hd with hd | hd
  · exact dg_lt m0 _ _ d hd
  · rw [hd]; exact hi
theorem oth_lt {t : Nat} (ht : t ∈ [2, 3, 4]) (h k j : Nat) {i : Nat} (hi : i < mm t) : oth h t k j i < mm t ^ h := by
  have := val_lt (dgset_lt ht h k j hi)
  rwa [List.length_set, dg_length] at this
theorem ta_get {h t : Nat} {A : List Int} (hA : TA h t A) {k : Nat} (hk : k < mm t ^ h) : A[k]? = some (an A k) ∧ an A k ∈ iota t := by
  have hl : k < A.length := by rw [hA.1]; exact hk
  unfold an
  rw [List.getD_eq_getElem?_getD, List.getElem?_eq_getElem hl]
  exact ⟨rfl, hA.2 _ (List.getElem_mem hl)⟩
theorem sy_get_own {t h k j : Nat} (hj : j < h) : (sy t h k)[j]? = some (od t (own h t k j)) := by
  have hl : j < (dg (mm t) h k).length := by rw [dg_length]; exact hj
  rw [sy_dg, List.getElem?_map, List.getElem?_eq_getElem hl]
  simp only [own, List.getD_eq_getElem?_getD, List.getElem?_eq_getElem hl, Option.getD_some, Option.map_some]
/-- what a table tells at a saying -/
theorem answer_ok {fs : List (Nat × Fn)} (h1 : fs.lookup 1 = some fn1) (h2 : fs.lookup 2 = some fn2) (h26 : fs.lookup 26 = some fn26) (h173 : fs.lookup 173 = some fn173) {t : Nat} (ht : t ∈ [2, 3, 4]) (k : Nat) {z : Nat × Nat} {A : List Int} {ds : List Nat} (hne : 0 < ds.length) (hd : ∀ d ∈ ds, d < mm t) {x : Int} (hx : A[val (mm t) ds]? = some x) :
    run fs (k + 3) 173 [tbV z A, sV (sD t ds)] Mem.emp = .ok (.int x) Mem.emp := by
  have c := callM_v (place_sD h1 h2 ht k h26 hne hd) (by simp [pure_s]) rfl
  have x2 : ∀ M, ixM (tbV z A) (.int 2) M = .ok (tV A) M := fun M => rfl
  have xA : ∀ M, ixM (tV A) (.int (val (mm t) ds : Nat)) M = .ok (.int x) M := ix_tup (by rw [List.getElem?_map, hx]; rfl)
  rw [run_at h173 _ _ _ rfl]
  simp [fn173, b173, startσ, x2, c, xA]
end Lw
end
section
set_option Elab.async false
set_option linter.all false
set_option maxRecDepth 100000
set_option maxHeartbeats 1000000
namespace Lw
open PySem Mn
def nearT (h t k j a : Nat) : PV := .tup [.int j, sV (sy t h k), oV (od t (nr t (own h t k j) a))]
def nearF (A : List Int) (h t : Nat) : Option PV := (List.range (mm t ^ h)).findSome? fun k => (List.range h).findSome? fun j => (List.range (t - 1)).findSome? fun a => if gn A h t k j (nr t (own h t k j) a) then some (nearT h t k j a) else none
theorem enumL_map (A : List Int) : enumL 0 (A.map PV.int) = (List.range A.length).map fun k => .tup [.int (k : Int), .int (an A k)] := by
  apply List.ext_getElem?
  intro i
  rw [enumL_get, List.getElem?_map, List.getElem?_map]
  by_cases hi : i < A.length
  · simp [hi, an]
  · have h1 : A[i]? = none := List.getElem?_eq_none (by omega)
    have h2 : (List.range A.length)[i]? = none := List.getElem?_eq_none (by simp; omega)
    rw [h1, h2]; rfl
theorem near_gain_ok {fs : List (Nat × Fn)} (h1 : fs.lookup 1 = some fn1) (h2 : fs.lookup 2 = some fn2) (h3 : fs.lookup 3 = some fn3) (h11 : fs.lookup 11 = some fn11) (h17 : fs.lookup 17 = some fn17) (h25 : fs.lookup 25 = some fn25) (h26 : fs.lookup 26 = some fn26) (h32 : fs.lookup 32 = some fn32) (h173 : fs.lookup 173 = some fn173) (h216 : fs.lookup 216 = some fn216)
    (kk : Nat) {z : Nat × Nat} (hz : z ∈ SZ) {A : List Int} (hA : TA z.1 z.2 A) : run fs (kk + 4) 216 [tbV z A] Mem.emp = .ok ((nearF A z.1 z.2).getD .non) Mem.emp := by
  obtain ⟨h, t⟩ := z
  obtain ⟨ht, hh1, hh3, hN⟩ := sz_ok hz
  simp only at ht hh1 hh3 hN hA ⊢
  obtain ⟨m0, m1, t4, t2⟩ := mm_le ht
  let σ0 : PV → PV → PV → PV → Option PV → Option PV → Option PV → St := fun k told s j a8 a9 a10 => [some (tbV (h, t) A), some (.int h), some (.int t), some (tV A), some k, some told, some s, some j, a8, a9, a10]
  let bodyA : MSs := (.cons (.asg 9 (.call 17 (.cons (.ix (.var 6) (.var 7)) (.cons (.var 8) .nil))))
          (.cons (.asg 10 (.call 173 (.cons (.var 0) (.cons (.call 32 (.cons (.var 6) (.cons (.var 7) (.cons (.var 9) .nil)))) .nil))))
          (.cons (.ife (.call 11 (.cons (.ix (.var 6) (.var 7)) (.cons (.var 10) (.cons (.var 5) .nil)))) (.cons (.ret (.tup (.cons (.var 7) (.cons (.var 6) (.cons (.var 9) .nil)))))
            .nil) .nil)
          .nil)))
  have inner : ∀ k, k < mm t ^ h → ∀ j, j < h → ∀ (a8 a9 a10 : Option PV),
      (∀ v, ((List.range (t - 1)).findSome? fun a => if gn A h t k j (nr t (own h t k j) a) then some (nearT h t k j a) else none) = some v → forItems (.name 8) (evSs (run fs (kk + 3)) bodyA) ((List.range (t - 1)).map fun (a : Nat) => PV.int (a : Int)) (σ0 (.int k) (.int (an A k)) (sV (sy t h k)) (.int j) a8 a9 a10) Mem.emp = .ok (.ret v) Mem.emp) ∧
      (((List.range (t - 1)).findSome? fun a => if gn A h t k j (nr t (own h t k j) a) then some (nearT h t k j a) else none) = none → ∃ σ', forItems (.name 8) (evSs (run fs (kk + 3)) bodyA) ((List.range (t - 1)).map fun (a : Nat) => PV.int (a : Int)) (σ0 (.int k) (.int (an A k)) (sV (sy t h k)) (.int j) a8 a9 a10) Mem.emp = .ok (.next σ') Mem.emp ∧ ∃ a8 a9 a10, σ' = σ0 (.int k) (.int (an A k)) (sV (sy t h k)) (.int j) a8 a9 a10) := by
    intro k hk j hj a8 a9 a10
    refine for_findT (fun (a : Nat) => PV.int (a : Int)) (g := .name 8) (body := evSs (run fs (kk + 3)) bodyA) (M := Mem.emp) (fun σ => ∃ a8 a9 a10, σ = σ0 (.int k) (.int (an A k)) (sV (sy t h k)) (.int j) a8 a9 a10) (fun a => if gn A h t k j (nr t (own h t k j) a) then some (nearT h t k j a) else none) (List.range (t - 1)) _ ⟨_, _, _, rfl⟩ ?_
    rintro a ha σ ⟨a8, a9, a10, rfl⟩
    have ha := List.mem_range.mp ha
    have ow := own_lt ht hj k
    obtain ⟨n1, n2⟩ := nr_ok ht ow ha
    have xs := ix_sV (sy_get_own (t := t) (k := k) hj)
    have ol := od_length ht ow
    have c17 := callM_v (exchanged_ok h17 (kk + 2) (l := od t (own h t k j)) (k := a) (by omega) (by omega)) (by simp [pure_o]) (pure_o 0 _)
    rw [← n2] at c17
    have c32 := callM_v (said_ok h32 (kk + 2) (s := sy t h k) (h := j) (by rw [sy_length]; exact hj) (by rw [sy_length]; omega) (od t (nr t (own h t k j) a))) (by simp [pure_s, pure_o]) (pure_s 0 _)
    have es : (sy t h k).set j (od t (nr t (own h t k j) a)) = sD t ((dg (mm t) h k).set j (nr t (own h t k j) a)) := by rw [sy_dg, ← sD_set]; rfl
    rw [es] at c32
    obtain ⟨g1, g2⟩ := ta_get hA (oth_lt ht h k j n1)
    have c173 := callM_v (answer_ok h1 h2 h26 h173 ht kk (z := (h, t)) (A := A) (ds := (dg (mm t) h k).set j (nr t (own h t k j) a)) (by rw [List.length_set, dg_length]; omega) (dgset_lt ht h k j n1) g1) (by simp [pure_tb, pure_s]) rfl
    obtain ⟨g3, g4⟩ := ta_get hA hk
    have pm := od_perm ht ow
    have c11 := callM_v (puts_ok h11 (kk + 2) (o := od t (own h t k j)) (pm.mem_iff.mpr g2) (pm.mem_iff.mpr g4)) (by simp [pure_o]) rfl
    have gd : ahd (od t (own h t k j)) (an A (oth h t k j (nr t (own h t k j) a))) (an A k) = gn A h t k j (nr t (own h t k j) a) := rfl
    have gd' : ahd (od t (own h t k j)) (an A (val (mm t) ((dg (mm t) h k).set j (nr t (own h t k j) a)))) (an A k) = gn A h t k j (nr t (own h t k j) a) := rfl
    have three : (3 : Nat) ≤ LIM := by decide
    rw [gd] at c11
    refine ⟨σ0 (.int k) (.int (an A k)) (sV (sy t h k)) (.int j) (some (.int a)) a9 a10, rfl, fun v hv => ?_, fun hn => ⟨σ0 (.int k) (.int (an A k)) (sV (sy t h k)) (.int j) (some (.int a)) (some (oV (od t (nr t (own h t k j) a)))) (some (.int (an A (oth h t k j (nr t (own h t k j) a))))), ?_, _, _, _, rfl⟩⟩
    · by_cases hg : gn A h t k j (nr t (own h t k j) a) = true
      · rw [if_pos hg] at hv
        cases hv
        rw [hg] at c11
        simp [bodyA, σ0, xs, c17, c32, c173, c11, truth, three, nearT]
      · rw [if_neg hg] at hv; cases hv
    · by_cases hg : gn A h t k j (nr t (own h t k j) a) = true
      · rw [if_pos hg] at hn; cases hn
      · have hg' : gn A h t k j (nr t (own h t k j) a) = false := by simpa using hg
        rw [hg'] at c11
        simp [bodyA, σ0, xs, c17, c32, c173, c11, truth]
  let fJ : Nat → Nat → Option PV := fun k j => (List.range (t - 1)).findSome? fun a => if gn A h t k j (nr t (own h t k j) a) then some (nearT h t k j a) else none
  let fK : Nat → Option PV := fun k => (List.range h).findSome? (fJ k)
  let bodyH : MSs := .cons (.for_ (.name 8) (.range1 (.bin .Sub (.var 2) (.int 1))) bodyA) .nil
  have sb : ∀ M, binM .Sub (.int (t : Int)) (.int 1) M = .ok (.int ((t - 1 : Nat) : Int)) M := fun M => by rw [sub_ii]; congr 2; omega
  have rt : rangeL 0 ((t - 1 : Nat) : Int) = (List.range (t - 1)).map fun (a : Nat) => PV.int (a : Int) := rangeL_nat _
  have rh : rangeL 0 (h : Int) = (List.range h).map fun (a : Nat) => PV.int (a : Int) := rangeL_nat _
  have inrt := inR (show t - 1 ≤ 1000000 by omega)
  have inrh := inR (show h ≤ 1000000 by omega)
  let σ1 : PV → PV → PV → Option PV → Option PV → Option PV → Option PV → St := fun k told s j a8 a9 a10 => [some (tbV (h, t) A), some (.int h), some (.int t), some (tV A), some k, some told, some s, j, a8, a9, a10]
  have middle : ∀ k, k < mm t ^ h → ∀ (j0 a8 a9 a10 : Option PV),
      (∀ v, fK k = some v → forItems (.name 7) (evSs (run fs (kk + 3)) bodyH) ((List.range h).map fun (a : Nat) => PV.int (a : Int)) (σ1 (.int k) (.int (an A k)) (sV (sy t h k)) j0 a8 a9 a10) Mem.emp = .ok (.ret v) Mem.emp) ∧
      (fK k = none → ∃ σ', forItems (.name 7) (evSs (run fs (kk + 3)) bodyH) ((List.range h).map fun (a : Nat) => PV.int (a : Int)) (σ1 (.int k) (.int (an A k)) (sV (sy t h k)) j0 a8 a9 a10) Mem.emp = .ok (.next σ') Mem.emp ∧ ∃ j0 a8 a9 a10, σ' = σ1 (.int k) (.int (an A k)) (sV (sy t h k)) j0 a8 a9 a10) := by
    intro k hk j0 a8 a9 a10
    refine for_findT (fun (a : Nat) => PV.int (a : Int)) (g := .name 7) (body := evSs (run fs (kk + 3)) bodyH) (M := Mem.emp) (fun σ => ∃ j0 a8 a9 a10, σ = σ1 (.int k) (.int (an A k)) (sV (sy t h k)) j0 a8 a9 a10) (fJ k) (List.range h) _ ⟨_, _, _, _, rfl⟩ ?_
    rintro j hj σ ⟨j0, a8, a9, a10, rfl⟩
    have hj := List.mem_range.mp hj
    obtain ⟨q1, q2⟩ := inner k hk j hj a8 a9 a10
    refine ⟨σ0 (.int k) (.int (an A k)) (sV (sy t h k)) (.int j) a8 a9 a10, rfl, fun v hv => ?_, fun hn => ?_⟩
    · have := q1 v hv
      simp only [σ0] at this
      simp [bodyH, σ0, sb, intR, inrt, rt, this]
    · obtain ⟨σ', e, b8, b9, b10, rfl⟩ := q2 hn
      simp only [σ0] at e
      refine ⟨σ0 (.int k) (.int (an A k)) (sV (sy t h k)) (.int j) b8 b9 b10, ?_, _, _, _, _, rfl⟩
      simp [bodyH, σ0, sb, intR, inrt, rt, e]
  let bodyK : MSs := .cons (.asg 6 (.call 25 (.cons (.var 1) (.cons (.var 2) (.cons (.var 4) .nil))))) (.cons (.for_ (.name 7) (.range1 (.var 1)) bodyH) .nil)
  let σ2 : Option PV → Option PV → Option PV → Option PV → Option PV → Option PV → Option PV → St := fun k told s j a8 a9 a10 => [some (tbV (h, t) A), some (.int h), some (.int t), some (tV A), k, told, s, j, a8, a9, a10]
  have outer := for_findT (fun (k : Nat) => PV.tup [.int (k : Int), .int (an A k)]) (g := .tup (.cons (.name 4) (.cons (.name 5) .nil))) (body := evSs (run fs (kk + 3)) bodyK) (M := Mem.emp) (fun σ => ∃ k0 t0 s0 j0 a8 a9 a10, σ = σ2 k0 t0 s0 j0 a8 a9 a10) fK (List.range (mm t ^ h)) (σ2 none none none none none none none) ⟨_, _, _, _, _, _, _, rfl⟩ (by
    rintro k hk σ ⟨k0, t0, s0, j0, a8, a9, a10, rfl⟩
    have hk := List.mem_range.mp hk
    have c25 := callM_v (saying_at_ok h1 h3 ht kk h25 (show h ≤ 1000 by omega) k) (by simp) (pure_s 0 _)
    obtain ⟨q1, q2⟩ := middle k hk j0 a8 a9 a10
    refine ⟨σ2 (some (.int k)) (some (.int (an A k))) s0 j0 a8 a9 a10, rfl, fun v hv => ?_, fun hn => ?_⟩
    · have := q1 v hv
      simp only [σ1] at this
      simp [bodyK, σ2, c25, intR, inrh, rh, this]
    · obtain ⟨σ', e, j1, b8, b9, b10, rfl⟩ := q2 hn
      simp only [σ1] at e
      refine ⟨σ1 (.int k) (.int (an A k)) (sV (sy t h k)) j1 b8 b9 b10, ?_, _, _, _, _, _, _, _, rfl⟩
      simp [bodyK, σ2, σ1, c25, intR, inrh, rh, e])
  have nf : nearF A h t = (List.range (mm t ^ h)).findSome? fK := rfl
  have src : ∀ M, srcEnum (tV A) M = some (.items ((List.range (mm t ^ h)).map fun (k : Nat) => PV.tup [.int (k : Int), .int (an A k)])) := fun M => by
    show some (Src.items (enumL 0 (A.map PV.int))) = _
    rw [enumL_map, hA.1]
  have asg : ∀ σ, assignG (.tup (.cons (.name 1) (.cons (.name 2) (.cons (.name 3) .nil)))) (tbV (h, t) A) σ = some (((σ.set 1 (some (.int h))).set 2 (some (.int t))).set 3 (some (tV A))) := fun σ => rfl
  rw [run_at h216 _ _ _ rfl, nf]
  show endOf Mem.emp (evSs (run fs (kk + 3)) b216 [some (tbV (h, t) A), none, none, none, none, none, none, none, none, none, none] Mem.emp) = _
  cases e : (List.range (mm t ^ h)).findSome? fK with
  | some v =>
    have := outer.1 v e
    simp only [σ2, bodyK, bodyH, bodyA] at this
    simp [b216, asg, optR, src, this]
  | none =>
    obtain ⟨σ', e', k0, t0, s0, j0, a8, a9, a10, rfl⟩ := outer.2 e
    simp only [σ2, bodyK, bodyH, bodyA] at e'
    simp [b216, asg, optR, src, e']
end Lw
end
section
set_option Elab.async false
set_option linter.all false
set_option maxRecDepth 100000
set_option maxHeartbeats 1000000
namespace Mn
/-! ### lists of lists -/
def LL (M : Mem) (r : Nat) (xss : List (List Int)) : Prop := ∃ rs : List Nat, M.lst? r = some (rs.map PV.ref) ∧ rs.length = xss.length ∧ ∀ i, i < xss.length → M.lst? (rs.getD i 0) = some ((xss.getD i []).map PV.int)
def refs? : List PV → Option (List Nat)
  | [] => some []
  | .ref n :: vs => (refs? vs).map (n :: ·)
  | _ => none
theorem refs_eq : ∀ {vs : List PV} {rs : List Nat}, refs? vs = some rs → vs = rs.map PV.ref
  | [], rs, h => by cases h; rfl
  | .ref n :: vs, rs, h => by
    rw [refs?] at h
    cases e : refs? vs with
    | none => rw [e] at h; cases h
    | some l => rw [e] at h; cases h; rw [refs_eq e]; rfl
  | .non :: _, _, h | .bl _ :: _, _, h | .int _ :: _, _, h | .str _ :: _, _, h | .tup _ :: _, _, h => by cases h
def llB (res : Res PV) (xss : List (List Int)) : Bool :=
  match res with
  | .ok (.ref r) M => (M.objs.length == M.sz) && (match M.lst? r with
    | some vs => (match refs? vs with
      | some rs => (rs.length == xss.length) && (List.range xss.length).all fun i => (match M.lst? (rs.getD i 0) with | some ws => PV.beqs ws ((xss.getD i []).map PV.int) | none => false)
      | none => false)
    | none => false)
  | _ => false
theorem llB_eq {res : Res PV} {xss : List (List Int)} (h : llB res xss = true) : ∃ r M, res = .ok (.ref r) M ∧ M.Wh ∧ LL M r xss := by
  unfold llB at h
  split at h
  · rename_i r M
    rw [Bool.and_eq_true] at h
    refine ⟨r, M, rfl, by simpa [Mem.Wh] using h.1, ?_⟩
    have h2 := h.2
    split at h2
    · rename_i vs e
      split at h2
      · rename_i rs er
        rw [Bool.and_eq_true, List.all_eq_true] at h2
        refine ⟨rs, by rw [e, refs_eq er], by simpa using h2.1, fun i hi => ?_⟩
        have h3 := h2.2 i (List.mem_range.mpr hi)
        split at h3
        · rename_i ws ew
          rw [ew, PV.beqs_eq h3]
        · cases h3
      · cases h2
    · cases h2
  · cases h
theorem lst_lt {M : Mem} {n : Nat} {xs : List PV} (h : M.lst? n = some xs) : n < M.sz := by
  unfold Mem.lst? at h
  cases e : M.get n with
  | none => rw [e] at h; cases h
  | some o => exact get_lt e
theorem push_lst {M : Mem} {n : Nat} {xs : List PV} (h : M.lst? n = some xs) (o : MObj) : (M.push o).lst? n = some xs := by
  have := lst_lt h
  unfold Mem.lst? at *
  rw [push_get' _ _ this]; exact h
theorem LL.push {M : Mem} {r : Nat} {xss : List (List Int)} (h : LL M r xss) (o : MObj) : LL (M.push o) r xss := by
  obtain ⟨rs, h1, h2, h3⟩ := h
  exact ⟨rs, push_lst h1 o, h2, fun i hi => push_lst (h3 i hi) o⟩
theorem join_new {M M' : Mem} (h1 : M.Wh) (h2 : M'.Wh) (m : Nat) : (M.join M').get (M.sz + m) = (M'.get m).map (MObj.sh M.sz) := by
  have e : (M.join M').get (M.sz + m) = if M.sz + m < M.sz + M'.sz then (M'.objs.map (MObj.sh M.sz) ++ M.objs)[M.sz + M'.sz - 1 - (M.sz + m)]? else none := rfl
  rw [e]
  unfold Mem.get
  have h2' : M'.objs.length = M'.sz := h2
  by_cases c : m < M'.sz
  · rw [if_pos (by omega), if_pos c, List.getElem?_append_left (by rw [List.length_map]; omega), List.getElem?_map]
    congr 2; omega
  · rw [if_neg (by omega), if_neg c]; rfl
theorem join_lst {M M' : Mem} (h1 : M.Wh) (h2 : M'.Wh) {m : Nat} {xs : List PV} (h : M'.lst? m = some xs) : (M.join M').lst? (M.sz + m) = some (xs.map (PV.sh M.sz)) := by
  unfold Mem.lst? at *
  rw [join_new h1 h2]
  cases e : M'.get m with
  | none => rw [e] at h; cases h
  | some o =>
    rw [e] at h
    cases o <;> (simp at h; subst h; rfl)
theorem sh_ints (d : Nat) (l : List Int) : (l.map PV.int).map (PV.sh d) = l.map PV.int := by
  rw [List.map_map]; exact List.map_congr_left fun x _ => rfl
theorem sh_refs (d : Nat) (l : List Nat) : (l.map PV.ref).map (PV.sh d) = (l.map (· + d)).map PV.ref := by
  rw [List.map_map, List.map_map]; exact List.map_congr_left fun x _ => rfl
theorem LL.join {M M' : Mem} (h1 : M.Wh) (h2 : M'.Wh) {r : Nat} {xss : List (List Int)} (h : LL M' r xss) : LL (M.join M') (M.sz + r) xss := by
  obtain ⟨rs, q1, q2, q3⟩ := h
  refine ⟨rs.map (· + M.sz), by rw [join_lst h1 h2 q1, sh_refs], by simpa using q2, fun i hi => ?_⟩
  have e : (rs.map (· + M.sz)).getD i 0 = M.sz + rs.getD i 0 := by
    have : i < rs.length := by omega
    simp [List.getD_eq_getElem?_getD, this, Nat.add_comm]
  rw [e, join_lst h1 h2 (q3 i hi), sh_ints]
theorem join_keep {M M' : Mem} (h1 : M.Wh) (h2 : M'.Wh) {n : Nat} {xs : List PV} (h : M.lst? n = some xs) : (M.join M').lst? n = some xs := by
  unfold Mem.lst? at *
  have hn : n < M.sz := by
    cases e : M.get n with
    | none => rw [e] at h; cases h
    | some o => exact get_lt e
  rw [join_old h1 h2 hn]; exact h
theorem LL.keep {M M' : Mem} (h1 : M.Wh) (h2 : M'.Wh) {r : Nat} {xss : List (List Int)} (h : LL M r xss) : LL (M.join M') r xss := by
  obtain ⟨rs, q1, q2, q3⟩ := h
  exact ⟨rs, join_keep h1 h2 q1, q2, fun i hi => join_keep h1 h2 (q3 i hi)⟩
theorem join_Wh {M M' : Mem} (h1 : M.Wh) (h2 : M'.Wh) : (M.join M').Wh := by
  unfold Mem.Wh Mem.join at *
  simp only [List.length_append, List.length_map]; omega
theorem join_cut {M M' : Mem} (h1 : M.Wh) (h2 : M'.Wh) : (M.join M').cut M.sz = M := by
  unfold Mem.Wh at *
  have : M.sz + M'.sz - M.sz = M'.sz := by omega
  cases M with
  | mk s os e =>
    simp only [Mem.join, Mem.cut] at *
    congr 1
    rw [this, List.drop_append, List.drop_of_length_le (by simp; omega), List.length_map, h2, Nat.sub_self]
    rfl
theorem Ext.join {M M' : Mem} (h1 : M.Wh) (h2 : M'.Wh) : Ext M (M.join M') := ⟨rfl, Nat.le_add_right _ _, join_cut h1 h2⟩
/-- a call that tells a list of lists -/
theorem callM_LL {cf : CF} {f : Nat} {vs : List PV} {xss : List (List Int)} (hv : vs.all PV.pure = true) {r : Nat} {M' : Mem} (h : cf f vs Mem.emp = .ok (.ref r) M') (hL : LL M' r xss) (hx : xss ≠ []) (M : Mem) : callM cf f vs M = .ok (.ref (M.sz + r)) (M.join M') := by
  have hp : (PV.ref r).pure = false := by simp
  have e : (PV.ref r).sh M.sz = .ref (M.sz + r) := by simp only [PV.sh]; congr 1; omega
  simp only [callM, hv, h, hp, if_true]
  simp only [Bool.false_eq_true, if_false]
  split
  · rename_i xs he
    cases he
    split
    · rename_i hxs
      exfalso
      obtain ⟨rs, q1, q2, q3⟩ := hL
      have q1' : some xs = some (rs.map PV.ref) := q1
      cases q1'
      cases rs with
      | nil => simp at q2; exact hx (List.length_eq_zero_iff.mp q2.symm)
      | cons a rs => simp at hxs
    · rw [e]
  · rw [e]
/-- a list of lists of its own is not moved -/
theorem trimV_LL {M0 M : Mem} {r : Nat} {xss : List (List Int)} (hL : LL M r xss) (hx : xss ≠ []) (hr : M0.sz ≤ r) (hh : ∀ rs : List Nat, M.lst? r = some (rs.map PV.ref) → ∀ q ∈ rs, M0.sz ≤ q) : trimV M0 (.ref r) M = .ok (.ref r) M := by
  obtain ⟨rs, q1, q2, q3⟩ := hL
  have h2 := hh rs q1
  have hv : ¬ (PV.ref r).bnd M0.sz = true := by simp; omega
  unfold trimV
  split
  · rfl
  · split
    · simp only
      unfold Mem.lst? at q1
      split
      · rename_i xs e
        rw [e] at q1
        simp only [Option.some.injEq] at q1
        rw [if_neg]
        intro ha
        cases rs with
        | nil => simp at q2; exact hx (List.length_eq_zero_iff.mp q2.symm)
        | cons a rs =>
          rw [q1] at ha
          have := h2 a List.mem_cons_self
          simp at ha; omega
      · rfl
    · rfl
end Mn
end
section
set_option Elab.async false
set_option linter.all false
set_option maxRecDepth 100000
set_option maxHeartbeats 1000000
namespace Lw
open PySem Mn
/-- near numbers, places, strides -/
def nrs (t i : Nat) : List Nat := (List.range (t - 1)).map (nr t i)
def nearL (t : Nat) : List (List Int) := (List.range (mm t)).map fun i => (nrs t i).map fun (n : Nat) => (n : Int)
def placeL (t : Nat) : List (List Int) := (List.range (mm t)).map fun i => (List.range t).map fun (x : Nat) => ((od t i).idxOf (x : Int) : Int)
def strL (h t : Nat) : List Int := (List.range h).map fun j => (mm t ^ (h - 1 - j) : Nat)
def nfact (t : Nat) : Bool := llB (run [(6, fn6), (219, fn219)] 2 219 [.int t] Mem.emp) (nearL t) && llB (run [(6, fn6), (217, fn217)] 2 217 [.int t] Mem.emp) (placeL t)
theorem nfacts : ∀ t ∈ [2, 3, 4], nfact t = true := by decide +kernel
theorem stfacts : ∀ z ∈ ZS, isL (run [(218, fn218)] 1 218 [zV z, .int (mm z.2)] Mem.emp) ((strL z.1 z.2).map PV.int) = true := by decide +kernel
/-- all refs of what a def without arguments made are new -/
theorem near_nums {fs : List (Nat × Fn)} (h6 : fs.lookup 6 = some fn6) (h219 : fs.lookup 219 = some fn219) (k : Nat) {t : Nat} (ht : t ∈ [2, 3, 4]) : ∃ r M, run fs (k + 2) 219 [.int t] Mem.emp = .ok (.ref r) M ∧ M.Wh ∧ LL M r (nearL t) := by
  have := nfacts t ht
  unfold nfact at this
  rw [Bool.and_eq_true] at this
  obtain ⟨r, M, e, w, l⟩ := llB_eq this.1
  exact ⟨r, M, run_up (fs := [(6, fn6), (219, fn219)]) (.of (by simpa using ⟨h6, h219⟩)) (by omega) e, w, l⟩
theorem place_nums {fs : List (Nat × Fn)} (h6 : fs.lookup 6 = some fn6) (h217 : fs.lookup 217 = some fn217) (k : Nat) {t : Nat} (ht : t ∈ [2, 3, 4]) : ∃ r M, run fs (k + 2) 217 [.int t] Mem.emp = .ok (.ref r) M ∧ M.Wh ∧ LL M r (placeL t) := by
  have := nfacts t ht
  unfold nfact at this
  rw [Bool.and_eq_true] at this
  obtain ⟨r, M, e, w, l⟩ := llB_eq this.2
  exact ⟨r, M, run_up (fs := [(6, fn6), (217, fn217)]) (.of (by simpa using ⟨h6, h217⟩)) (by omega) e, w, l⟩
theorem strides_ok {fs : List (Nat × Fn)} (h218 : fs.lookup 218 = some fn218) (k : Nat) {z : Nat × Nat} (hz : z ∈ SZ) : run fs (k + 1) 218 [zV z, .int (mm z.2)] Mem.emp = .ok (.ref 0) ⟨1, [.lst ((strL z.1 z.2).map PV.int)], 0⟩ :=
  run_up (fs := [(218, fn218)]) (.of (by simpa using h218)) (by omega) (isL_eq (stfacts z (zs_of hz)))
/-- all gains that are told, by numbers -/
def gainL (A : List Int) (h t : Nat) (lies : Nat → List Nat) : List (Nat × Nat × Nat) := (List.range (mm t ^ h)).flatMap fun k => (List.range h).flatMap fun j => ((lies (own h t k j)).filter fun i => gn A h t k j i).map fun i => (k, j, i)
def gV (g : Nat × Nat × Nat) : PV := .tup [.int g.1, .int g.2.1, .int g.2.2]
theorem dg_at {m : Nat} : ∀ {h k j : Nat}, j < h → (dg m h k).getD j 0 = k / m ^ (h - 1 - j) % m
  | h + 1, k, j, hj => by
    rw [dg]
    by_cases e : j < h
    · rw [List.getD_eq_getElem?_getD, List.getElem?_append_left (by rw [dg_length]; exact e), ← List.getD_eq_getElem?_getD, dg_at e, Nat.div_div_eq_div_mul, show h + 1 - 1 - j = h - 1 - j + 1 by omega, Nat.pow_succ, Nat.mul_comm]
    · have : j = h := by omega
      subst this
      rw [List.getD_eq_getElem?_getD, List.getElem?_append_right (by rw [dg_length]; omega), dg_length]
      simp
theorem oth_eq {t h k j i : Nat} (hk : k < mm t ^ h) (hj : j < h) : (oth h t k j i : Int) = (k : Int) + ((i : Int) - (own h t k j : Nat)) * ((mm t ^ (h - 1 - j) : Nat) : Int) := by
  have hl : j < (dg (mm t) h k).length := by rw [dg_length]; exact hj
  have := val_set (m := mm t) (ds := dg (mm t) h k) i hl
  unfold oth
  rw [this, dg_length]
  have e1 : val (mm t) (dg (mm t) h k) = k := by
    have := dg_val (mm t) h k
    rw [Nat.mod_eq_of_lt hk] at this
    exact this
  have e2 : (dg (mm t) h k)[j] = own h t k j := by simp [own, List.getD_eq_getElem?_getD, hl]
  rw [e1, e2]
def gBody : MSs := (.cons (.asg 14 (.ix (.var 8) (.bin .Add (.var 9) (.bin .Mult (.bin .Sub (.var 13) (.var 12)) (.ix (.var 4) (.var 11))))))
          (.cons (.ife (.cmp .Lt (.ix (.ix (.var 2) (.var 12)) (.var 14)) (.ix (.ix (.var 2) (.var 12)) (.var 10))) (.cons (.expr (.meth .append (.var 5) (.cons (.tup (.cons (.var 9) (.cons (.var 11) (.cons (.var 13) .nil)))) .nil)))
            .nil) .nil)
          .nil))
def gBodyH : MSs := (.cons (.asg 12 (.bin .Mod (.bin .FloorDiv (.var 9) (.ix (.var 4) (.var 11))) (.var 3)))
        (.cons (.for_ (.name 13) (.seq (.ix (.var 1) (.var 12))) gBody)
        .nil))
theorem _root_.Mn.LL.ix {M : Mem} {r : Nat} {xss : List (List Int)} (h : LL M r xss) {i : Nat} (hi : i < xss.length) : ∃ q, ixM (.ref r) (.int (i : Int)) M = .ok (.ref q) M ∧ M.lst? q = some ((xss.getD i []).map PV.int) := by
  obtain ⟨rs, q1, q2, q3⟩ := h
  refine ⟨rs.getD i 0, ?_, q3 i hi⟩
  have hl : i < rs.length := by omega
  have hix : ixOf (rs.map PV.ref).length (i : Int) = some i := ixOf_nat (by simpa using hl)
  have hg : (rs.map PV.ref)[i]? = some (.ref (rs.getD i 0)) := by simp [List.getD_eq_getElem?_getD, hl]
  simp only [ixM, q1, hix, Option.bind_some, hg]
theorem ix_lst {M : Mem} {q : Nat} {xs : List PV} (h : M.lst? q = some xs) {i : Nat} {x : PV} (hx : xs[i]? = some x) : ixM (.ref q) (.int (i : Int)) M = .ok x M := by
  have hix : ixOf xs.length (i : Int) = some i := ixOf_nat ((List.getElem?_eq_some_iff.mp hx).1)
  simp only [ixM, h, hix, Option.bind_some, hx]
section
variable {fs : List (Nat × Fn)} {kk : Nat} {h t : Nat} {A : List Int} {N : Mem} {lr pr sr : Nat} {lies : Nat → List Nat}
/-- what lies in the memory that stays -/
structure Gm (N : Mem) (h t lr pr sr : Nat) (lies : Nat → List Nat) : Prop where
  l : LL N lr ((List.range (mm t)).map fun i => (lies i).map fun (n : Nat) => (n : Int))
  p : LL N pr (placeL t)
  s : N.lst? sr = some ((strL h t).map PV.int)
theorem gain_inner (ht : t ∈ [2, 3, 4]) (hh1 : 1 ≤ h) (hN : mm t ^ h ≤ 576) (hA : TA h t A) (G : Gm N h t lr pr sr lies) (hli : ∀ i, i < mm t → ∀ n ∈ lies i, n < mm t) {k j : Nat} (hk : k < mm t ^ h) (hj : j < h) (F : List (Nat × Nat × Nat)) (hF : F.length + (lies (own h t k j)).length ≤ 1000000) (a13 a14 : Option PV) :
    ∃ b13 b14, evS (run fs kk) (.for_ (.name 13) (.seq (.ix (.var 1) (.var 12))) gBody)
      [some (tbV (h, t) A), some (.ref lr), some (.ref pr), some (.int (mm t)), some (.ref sr), some (.ref N.sz), some (.int h), some (.int t), some (tV A), some (.int k), some (.int (an A k)), some (.int j), some (.int (own h t k j)), a13, a14] (N.push (.lst (F.map gV))) =
      .ok (.next [some (tbV (h, t) A), some (.ref lr), some (.ref pr), some (.int (mm t)), some (.ref sr), some (.ref N.sz), some (.int h), some (.int t), some (tV A), some (.int k), some (.int (an A k)), some (.int j), some (.int (own h t k j)), b13, b14])
        (N.push (.lst ((F ++ ((lies (own h t k j)).filter fun i => gn A h t k j i).map fun i => (k, j, i)).map gV))) := by
  obtain ⟨m0, m1, t4, t2⟩ := mm_le ht
  have ow := own_lt ht hj k
  let ls := lies (own h t k j)
  obtain ⟨g3, g4⟩ := ta_get hA hk
  obtain ⟨q, e1, e2⟩ := (G.l.push (.lst (F.map gV))).ix (i := own h t k j) (by simpa using ow)
  have e2' : ∀ F : List (Nat × Nat × Nat), (N.push (.lst (F.map gV))).lst? q = some (ls.map fun (n : Nat) => PV.int (n : Int)) := by
    intro F'
    obtain ⟨q', e1', e2'⟩ := G.l.ix (i := own h t k j) (by simpa using ow)
    obtain ⟨rs, z1, z2, z3⟩ := G.l
    have hq : q < N.sz ∧ N.lst? q = (N.push (.lst (F.map gV))).lst? q := by
      have hz := z3 (own h t k j) (by simpa using ow)
      have z1' := push_lst z1 (.lst (F.map gV))
      have : q = rs.getD (own h t k j) 0 := by
        have hl : own h t k j < rs.length := by rw [z2]; simpa using ow
        have := ix_lst z1' (i := own h t k j) (x := .ref (rs.getD (own h t k j) 0)) (by simp [List.getD_eq_getElem?_getD, hl])
        rw [e1] at this
        cases this; rfl
      rw [this]
      exact ⟨lst_lt hz, by rw [push_lst hz, hz]⟩
    have hqN : N.lst? q = some (ls.map fun (n : Nat) => PV.int (n : Int)) := by
      rw [hq.2, e2]
      simp [List.getD_eq_getElem?_getD, ow, ls, List.map_map, Function.comp_def]
    exact push_lst hqN _
  obtain ⟨σ', M', e, b13, b14, rfl, rfl⟩ := for_at (g := .name 13) (body := evSs (run fs kk) gBody) (n := q) (xs := ls.map fun (n : Nat) => PV.int (n : Int))
    (fun i σ M => ∃ b13 b14, M = N.push (.lst ((F ++ ((ls.take i).filter fun i => gn A h t k j i).map fun i => (k, j, i)).map gV)) ∧ σ = [some (tbV (h, t) A), some (.ref lr), some (.ref pr), some (.int (mm t)), some (.ref sr), some (.ref N.sz), some (.int h), some (.int t), some (tV A), some (.int k), some (.int (an A k)), some (.int j), some (.int (own h t k j)), b13, b14])
    (by rintro i σ M ⟨b13, b14, rfl, _⟩; exact e2' _)
    [some (tbV (h, t) A), some (.ref lr), some (.ref pr), some (.int (mm t)), some (.ref sr), some (.ref N.sz), some (.int h), some (.int t), some (tV A), some (.int k), some (.int (an A k)), some (.int j), some (.int (own h t k j)), a13, a14] (N.push (.lst (F.map gV))) ⟨a13, a14, by simp, rfl⟩ (by
      rintro p x hx σ M ⟨b13, b14, rfl, rfl⟩
      rw [List.getElem?_map] at hx
      obtain ⟨i, hi, rfl⟩ : ∃ i, ls[p]? = some i ∧ x = PV.int (i : Int) := by
        cases e : ls[p]? with
        | none => rw [e] at hx; cases hx
        | some i => rw [e] at hx; cases hx; exact ⟨i, rfl, rfl⟩
      have him : i < mm t := hli _ ow i (List.mem_of_getElem? hi)
      have hpl : p < ls.length := (List.getElem?_eq_some_iff.mp hi).1
      have tk : ls.take (p + 1) = ls.take p ++ [i] := by rw [List.take_succ, hi]; rfl
      let F1 := F ++ ((ls.take p).filter fun i => gn A h t k j i).map fun i => (k, j, i)
      have F1l : F1.length ≤ 1000000 := by
        have h1 : ((ls.take p).filter fun i => gn A h t k j i).length ≤ (ls.take p).length := List.length_filter_le _ _
        have h2 : (ls.take p).length ≤ ls.length := by simp; omega
        have h3 : ls.length = (lies (own h t k j)).length := rfl
        simp only [F1, List.length_append, List.length_map]; omega
      let MM := N.push (.lst (F1.map gV))
      have ot := oth_lt ht h k j him
      obtain ⟨g1, g2⟩ := ta_get hA ot
      have xs : ixM (.ref sr) (.int (j : Int)) MM = .ok (.int ((mm t ^ (h - 1 - j) : Nat) : Int)) MM := ix_lst (push_lst G.s _) (by simp [strL, hj])
      have pw : mm t ^ (h - 1 - j) ≤ 1000000 := Nat.le_trans (Nat.pow_le_pow_right m0 (by omega)) (Nat.le_trans hN (by omega))
      have sb := sub_ii (i : Int) (own h t k j : Nat)
      have ml := mul_ok (a := (i : Int) - (own h t k j : Nat)) pw
      have ad := addI (k : Int) (((i : Int) - (own h t k j : Nat)) * ((mm t ^ (h - 1 - j) : Nat) : Int))
      rw [← oth_eq hk hj] at ad
      have xA : ∀ M, ixM (tV A) (.int (oth h t k j i : Nat)) M = .ok (.int (an A (oth h t k j i))) M := ix_tup (by rw [List.getElem?_map, g1]; rfl)
      obtain ⟨pq, p1, p2⟩ := (G.p.push (.lst (F1.map gV))).ix (i := own h t k j) (by simpa [placeL] using ow)
      have p1' : ixM (.ref pr) (.int (own h t k j : Nat)) MM = .ok (.ref pq) MM := p1
      have plx : ∀ y ∈ iota t, ixM (.ref pq) (.int y) MM = .ok (.int ((od t (own h t k j)).idxOf y : Int)) MM := by
        intro y hy
        obtain ⟨y1, y2⟩ := iota_mem.mp hy
        obtain ⟨n, rfl⟩ := Int.eq_ofNat_of_zero_le y1
        refine ix_lst p2 ?_
        have hn : n < t := by omega
        simp [placeL, List.getD_eq_getElem?_getD, ow, hn]
      have pl1 := plx _ g2
      have pl2 := plx _ g4
      have lt := lt_ii ((od t (own h t k j)).idxOf (an A (oth h t k j i)) : Int) ((od t (own h t k j)).idxOf (an A k) : Int)
      have lt' : ∀ M, cmpM .Lt (.int ((od t (own h t k j)).idxOf (an A (oth h t k j i)) : Int)) (.int ((od t (own h t k j)).idxOf (an A k) : Int)) M = .ok (.bl (gn A h t k j i)) M := lt
      have gN : MM.get N.sz = some (.lst (F1.map gV)) := push_get _ _
      have rc : recvOk .append (.ref N.sz) MM = true := by simp [recvOk, gN]
      have hlim : (F1.map gV).length < LIM := by simp only [List.length_map, LIM]; omega
      have ap : methM .append (.ref N.sz) [.tup [.int k, .int j, .int i]] MM = .ok .non (N.push (.lst ((F1 ++ [(k, j, i)]).map gV))) := by
        have pp : (PV.tup [.int (k : Int), .int j, .int i]).pure = true := rfl
        have e3 : (F1 ++ [(k, j, i)]).map gV = F1.map gV ++ [.tup [.int (k : Int), .int j, .int i]] := by rw [List.map_append]; rfl
        simp only [methM, gN, hlim, if_true, pp]
        rw [push_put_top, e3]
      have tr : trimV MM .non (N.push (.lst ((F1 ++ [(k, j, i)]).map gV))) = .ok .non (N.push (.lst ((F1 ++ [(k, j, i)]).map gV))) := trimV_pushpush _ _ _ _
      have three : (3 : Nat) ≤ LIM := by decide
      refine ⟨_, rfl, [some (tbV (h, t) A), some (.ref lr), some (.ref pr), some (.int (mm t)), some (.ref sr), some (.ref N.sz), some (.int h), some (.int t), some (tV A), some (.int k), some (.int (an A k)), some (.int j), some (.int (own h t k j)), some (.int i), some (.int (an A (oth h t k j i)))], N.push (.lst ((F ++ ((ls.take (p + 1)).filter fun i => gn A h t k j i).map fun i => (k, j, i)).map gV)), ?_, _, _, rfl, rfl⟩
      have fin : F ++ ((ls.take (p + 1)).filter fun i => gn A h t k j i).map (fun i => (k, j, i)) = if gn A h t k j i then F1 ++ [(k, j, i)] else F1 := by
        rw [tk, List.filter_append, List.map_append]
        by_cases hg : gn A h t k j i = true
        · simp [hg, F1]
        · simp [hg, F1]
      rw [fin]
      show evSs _ gBody _ MM = _
      cases hg : gn A h t k j i with
      | true =>
        rw [hg] at lt'
        simp only [if_true]
        generalize (F1 ++ [(k, j, i)]).map gV = F2 at *
        clear_value MM F1
        simp [gBody, sb, xs, ml, ad, xA, p1', pl1, pl2, lt', truth, rc, three, ap, tr, -Int.natCast_pow]
      | false =>
        rw [hg] at lt'
        have mm' : N.push (.lst (F1.map gV)) = MM := rfl
        simp only [Bool.false_eq_true, if_false, mm']
        clear_value MM F1
        simp [gBody, sb, xs, ml, ad, xA, p1', pl1, pl2, lt', truth, -Int.natCast_pow])
  rw [List.length_map, List.take_length] at e
  refine ⟨b13, b14, ?_⟩
  have ss : srcSeq (.ref q) (N.push (.lst (F.map gV))) = some (.at1 q false) := by simp [srcSeq, e2']
  have tq : ∀ M v, trimV M v M = .ok v M := fun M v => trimV_same M v
  generalize N.push (.lst ((F ++ ((lies (own h t k j)).filter fun i => gn A h t k j i).map fun i => (k, j, i)).map gV)) = M2 at *
  generalize hMM : N.push (.lst (F.map gV)) = MM at *
  have e' : forRun (.name 13) (evSs (run fs kk) gBody) (.at1 q false) [some (tbV (h, t) A), some (.ref lr), some (.ref pr), some (.int (mm t)), some (.ref sr), some (.ref N.sz), some (.int h), some (.int t), some (tV A), some (.int k), some (.int (an A k)), some (.int j), some (.int (own h t k j)), a13, a14] MM = .ok (.next [some (tbV (h, t) A), some (.ref lr), some (.ref pr), some (.int (mm t)), some (.ref sr), some (.ref N.sz), some (.int h), some (.int t), some (tV A), some (.int k), some (.int (an A k)), some (.int j), some (.int (own h t k j)), b13, b14]) M2 := e
  simp [e1, ss, optR, e']
end
end Lw
end
section
set_option Elab.async false
set_option linter.all false
set_option maxRecDepth 100000
set_option maxHeartbeats 1000000
namespace Lw
open PySem Mn
def gK (A : List Int) (h t : Nat) (lies : Nat → List Nat) (k j : Nat) : List (Nat × Nat × Nat) := ((lies (own h t k j)).filter fun i => gn A h t k j i).map fun i => (k, j, i)
theorem flat_len {α : Type} {n : Nat} (f : Nat → List α) (hf : ∀ i, (f i).length ≤ n) : ∀ m, ((List.range m).flatMap f).length ≤ m * n
  | 0 => by simp
  | m + 1 => by
    rw [List.range_succ, List.flatMap_append, List.length_append, Nat.succ_mul]
    have := flat_len f hf m
    have := hf m
    simp only [List.flatMap_cons, List.flatMap_nil, List.append_nil]; omega
theorem range_take_flat {α : Type} (f : Nat → List α) (j : Nat) : (List.range (j + 1)).flatMap f = (List.range j).flatMap f ++ f j := by
  rw [List.range_succ, List.flatMap_append]; simp
section
variable {fs : List (Nat × Fn)} {h t : Nat} {A : List Int} {lies : Nat → List Nat}
theorem gain_mid (kk : Nat) (ht : t ∈ [2, 3, 4]) (hh1 : 1 ≤ h) (hh3 : h ≤ 3) (hN : mm t ^ h ≤ 576) (hA : TA h t A) {N : Mem} {lr pr sr : Nat} (G : Gm N h t lr pr sr lies) (hli : ∀ i, i < mm t → ∀ n ∈ lies i, n < mm t) (hll : ∀ i, (lies i).length ≤ 24) {k : Nat} (hk : k < mm t ^ h) (F : List (Nat × Nat × Nat)) (hF : F.length ≤ 100000) (a11 a12 a13 a14 : Option PV) :
    ∃ b11 b12 b13 b14, forItems (.name 11) (evSs (run fs kk) gBodyH) (rangeL 0 h)
      [some (tbV (h, t) A), some (.ref lr), some (.ref pr), some (.int (mm t)), some (.ref sr), some (.ref N.sz), some (.int h), some (.int t), some (tV A), some (.int k), some (.int (an A k)), a11, a12, a13, a14] (N.push (.lst (F.map gV))) =
      .ok (.next [some (tbV (h, t) A), some (.ref lr), some (.ref pr), some (.int (mm t)), some (.ref sr), some (.ref N.sz), some (.int h), some (.int t), some (tV A), some (.int k), some (.int (an A k)), b11, b12, b13, b14])
        (N.push (.lst ((F ++ (List.range h).flatMap (gK A h t lies k)).map gV))) := by
  obtain ⟨m0, m1, t4, t2⟩ := mm_le ht
  have gl : ∀ j, (gK A h t lies k j).length ≤ 24 := fun j => by
    have : ((lies (own h t k j)).filter fun i => gn A h t k j i).length ≤ (lies (own h t k j)).length := List.length_filter_le _ _
    have := hll (own h t k j)
    simp only [gK, List.length_map]; omega
  obtain ⟨σ', M', e, b11, b12, b13, b14, rfl, rfl⟩ := for_ix (g := .name 11) (body := evSs (run fs kk) gBodyH)
    (fun j σ M => ∃ b11 b12 b13 b14, M = N.push (.lst ((F ++ (List.range j).flatMap (gK A h t lies k)).map gV)) ∧ σ = [some (tbV (h, t) A), some (.ref lr), some (.ref pr), some (.int (mm t)), some (.ref sr), some (.ref N.sz), some (.int h), some (.int t), some (tV A), some (.int k), some (.int (an A k)), b11, b12, b13, b14])
    (rangeL 0 h) 0 [some (tbV (h, t) A), some (.ref lr), some (.ref pr), some (.int (mm t)), some (.ref sr), some (.ref N.sz), some (.int h), some (.int t), some (tV A), some (.int k), some (.int (an A k)), a11, a12, a13, a14] (N.push (.lst (F.map gV))) ⟨a11, a12, a13, a14, by simp, rfl⟩ (by
      rintro j x hx σ M ⟨b11, b12, b13, b14, rfl, rfl⟩
      rw [Nat.zero_add]
      have hj : j < h := by
        have := (List.getElem?_eq_some_iff.mp hx).1
        simpa [rangeL] using this
      have hx' : x = .int (j : Int) := by
        rw [rangeL_get h j hj] at hx; cases hx; rfl
      subst hx'
      have fl := flat_len (gK A h t lies k) gl j
      have fj : j * 24 ≤ 72 := by omega
      obtain ⟨c13, c14, e⟩ := gain_inner (fs := fs) (kk := kk) ht hh1 hN hA G hli hk hj (F ++ (List.range j).flatMap (gK A h t lies k)) (by have := hll (own h t k j); simp only [List.length_append]; omega) b13 b14
      refine ⟨_, rfl, _, _, ?_, some (.int j), some (.int (own h t k j)), c13, c14, rfl, rfl⟩
      have xs : ∀ FL, ixM (.ref sr) (.int (j : Int)) (N.push (.lst FL)) = .ok (.int ((mm t ^ (h - 1 - j) : Nat) : Int)) (N.push (.lst FL)) := fun FL => ix_lst (push_lst G.s _) (by simp [strL, hj])
      have pw0 : 0 < mm t ^ (h - 1 - j) := Nat.pow_pos m0
      have pw : mm t ^ (h - 1 - j) ≤ 1000000 := Nat.le_trans (Nat.pow_le_pow_right m0 (by omega)) (Nat.le_trans hN (by omega))
      have dv := divN (a := k) (b := mm t ^ (h - 1 - j)) pw0 (by omega)
      have md := modN (a := k / mm t ^ (h - 1 - j)) (b := mm t) m0
      have ow : k / mm t ^ (h - 1 - j) % mm t = own h t k j := (dg_at hj).symm
      rw [ow] at md
      rw [range_take_flat, ← List.append_assoc]
      have e' : evS (run fs kk) (.for_ (.name 13) (.seq (.ix (.var 1) (.var 12))) gBody)
          [some (tbV (h, t) A), some (.ref lr), some (.ref pr), some (.int (mm t)), some (.ref sr), some (.ref N.sz), some (.int h), some (.int t), some (tV A), some (.int k), some (.int (an A k)), some (.int j), some (.int (own h t k j)), b13, b14] (N.push (.lst ((F ++ (List.range j).flatMap (gK A h t lies k)).map gV))) =
          .ok (.next [some (tbV (h, t) A), some (.ref lr), some (.ref pr), some (.int (mm t)), some (.ref sr), some (.ref N.sz), some (.int h), some (.int t), some (tV A), some (.int k), some (.int (an A k)), some (.int j), some (.int (own h t k j)), c13, c14]) (N.push (.lst ((F ++ (List.range j).flatMap (gK A h t lies k) ++ gK A h t lies k j).map gV))) := e
      generalize (F ++ (List.range j).flatMap (gK A h t lies k) ++ gK A h t lies k j).map gV = FL2 at *
      generalize (F ++ (List.range j).flatMap (gK A h t lies k)).map gV = FL at *
      simp [gBodyH, xs, dv, md, e', -yfor, -Int.natCast_pow, -Int.natCast_emod, -Int.natCast_ediv])
  rw [Nat.zero_add, show (rangeL 0 (h : Int)).length = h by simp [rangeL]] at e
  exact ⟨b11, b12, b13, b14, e⟩
theorem gain_ok (h6 : fs.lookup 6 = some fn6) (h217 : fs.lookup 217 = some fn217) (h218 : fs.lookup 218 = some fn218) (h220 : fs.lookup 220 = some fn220) (kk : Nat) (hz : (h, t) ∈ SZ) (hA : TA h t A) {M : Mem} (hw : M.Wh) {lr : Nat} (hL : LL M lr ((List.range (mm t)).map fun i => (lies i).map fun (n : Nat) => (n : Int))) (hli : ∀ i, i < mm t → ∀ n ∈ lies i, n < mm t) (hll : ∀ i, (lies i).length ≤ 24) :
    run fs (kk + 3) 220 [tbV (h, t) A, .ref lr] M = .ok (.ref M.sz) (M.push (.lst ((gainL A h t lies).map gV))) := by
  obtain ⟨ht, hh1, hh3, hN⟩ := sz_ok hz
  simp only at ht hh1 hh3 hN
  obtain ⟨m0, m1, t4, t2⟩ := mm_le ht
  obtain ⟨r, P, e1, wP, lP⟩ := place_nums h6 h217 kk ht
  have pne : placeL t ≠ [] := by
    intro e
    have := congrArg List.length e
    simp [placeL] at this; omega
  have c217 := callM_LL (cf := run fs (kk + 2)) (vs := [.int t]) (by simp) e1 lP pne M
  let M1 := M.join P
  have w1 : M1.Wh := join_Wh hw wP
  have lP1 : LL M1 (M.sz + r) (placeL t) := lP.join hw wP
  have tr1 : trimV M (.ref (M.sz + r)) M1 = .ok (.ref (M.sz + r)) M1 := by
    refine trimV_LL lP1 pne (by omega) fun rs hrs q hq => ?_
    obtain ⟨rs', q1, _⟩ := lP
    rw [join_lst hw wP q1, sh_refs] at hrs
    have hrs : (rs'.map (· + M.sz)).map PV.ref = rs.map PV.ref := Option.some.inj hrs
    have : PV.ref q ∈ (rs'.map (· + M.sz)).map PV.ref := by rw [hrs]; exact List.mem_map_of_mem hq
    obtain ⟨q', hq', e⟩ := List.mem_map.mp this
    cases e
    obtain ⟨q'', _, rfl⟩ := List.mem_map.mp hq'
    omega
  have len1 : bcallM .len [.ref (M.sz + r)] M1 = .ok (.int (mm t : Nat)) M1 := by
    obtain ⟨rs, q1, q2, _⟩ := lP1
    simp only [bcallM, seq?, q1, List.length_map, q2, placeL, List.length_range]
  have c218 := callM_list (strides_ok h218 (kk + 1) hz) (by simp; rfl) (all_ints _ 0) M1
  let N := M1.push (.lst ((strL h t).map PV.int))
  have G : Gm N h t lr (M.sz + r) M1.sz lies := ⟨(hL.keep hw wP).push _, lP1.push _, by simp only [Mem.lst?, N, push_get]⟩
  let gKK := fun k => (List.range h).flatMap (gK A h t lies k)
  have gl : ∀ k j, (gK A h t lies k j).length ≤ 24 := fun k j => by
    have : ((lies (own h t k j)).filter fun i => gn A h t k j i).length ≤ (lies (own h t k j)).length := List.length_filter_le _ _
    have := hll (own h t k j)
    simp only [gK, List.length_map]; omega
  have gkl : ∀ k, (gKK k).length ≤ 72 := fun k => by
    have := flat_len (gK A h t lies k) (gl k) h
    have : h * 24 ≤ 72 := by omega
    simp only [gKK]; omega
  obtain ⟨σ', M', e, b9, b10, b11, b12, b13, b14, rfl, rfl⟩ := for_ix (g := .tup (.cons (.name 9) (.cons (.name 10) .nil))) (body := evSs (run fs (kk + 2)) (.cons (.for_ (.name 11) (.range1 (.var 6)) gBodyH) .nil))
    (fun k σ M => ∃ b9 b10 b11 b12 b13 b14, M = N.push (.lst (((List.range k).flatMap gKK).map gV)) ∧ σ = [some (tbV (h, t) A), some (.ref lr), some (.ref (M1.sz - P.sz + r)), some (.int (mm t)), some (.ref M1.sz), some (.ref N.sz), some (.int h), some (.int t), some (tV A), b9, b10, b11, b12, b13, b14])
    ((List.range (mm t ^ h)).map fun (k : Nat) => PV.tup [.int (k : Int), .int (an A k)]) 0 [some (tbV (h, t) A), some (.ref lr), some (.ref (M1.sz - P.sz + r)), some (.int (mm t)), some (.ref M1.sz), some (.ref N.sz), some (.int h), some (.int t), some (tV A), none, none, none, none, none, none] (N.push (.lst [])) ⟨none, none, none, none, none, none, by simp, rfl⟩ (by
      rintro k x hx σ M' ⟨b9, b10, b11, b12, b13, b14, rfl, rfl⟩
      rw [Nat.zero_add]
      rw [List.getElem?_map] at hx
      have hk : k < mm t ^ h := by
        cases e : (List.range (mm t ^ h))[k]? with
        | none => rw [e] at hx; cases hx
        | some y => have := (List.getElem?_eq_some_iff.mp e).1; simpa using this
      have hx' : x = .tup [.int (k : Int), .int (an A k)] := by
        rw [List.getElem?_range hk] at hx; cases hx; rfl
      subst hx'
      have msz : M1.sz - P.sz + r = M.sz + r := by show M.sz + P.sz - P.sz + r = _; omega
      rw [msz]
      have fl := flat_len gKK gkl k
      have : k * 72 ≤ 576 * 72 := Nat.mul_le_mul_right _ (by omega)
      obtain ⟨c11, c12, c13, c14, e⟩ := gain_mid (fs := fs) (kk + 2) ht hh1 hh3 hN hA G hli hll hk ((List.range k).flatMap gKK) (by omega) b11 b12 b13 b14
      refine ⟨_, rfl, _, _, ?_, some (.int k), some (.int (an A k)), c11, c12, c13, c14, rfl, rfl⟩
      rw [range_take_flat]
      have e' : forItems (.name 11) (evSs (run fs (kk + 2)) gBodyH) (rangeL 0 h)
          [some (tbV (h, t) A), some (.ref lr), some (.ref (M.sz + r)), some (.int (mm t)), some (.ref M1.sz), some (.ref N.sz), some (.int h), some (.int t), some (tV A), some (.int k), some (.int (an A k)), b11, b12, b13, b14] (N.push (.lst (((List.range k).flatMap gKK).map gV))) =
          .ok (.next [some (tbV (h, t) A), some (.ref lr), some (.ref (M.sz + r)), some (.int (mm t)), some (.ref M1.sz), some (.ref N.sz), some (.int h), some (.int t), some (tV A), some (.int k), some (.int (an A k)), c11, c12, c13, c14]) (N.push (.lst (((List.range k).flatMap gKK ++ gKK k).map gV))) := e
      generalize ((List.range k).flatMap gKK ++ gKK k).map gV = FL2 at *
      generalize ((List.range k).flatMap gKK).map gV = FL at *
      simp [intR, inR (show h ≤ 1000000 by omega), e'])
  have msz : M1.sz - P.sz + r = M.sz + r := by show M.sz + P.sz - P.sz + r = _; omega
  rw [msz, Nat.zero_add, show ((List.range (mm t ^ h)).map fun (k : Nat) => PV.tup [.int (k : Int), .int (an A k)]).length = mm t ^ h by simp] at e
  have gE : (List.range (mm t ^ h)).flatMap gKK = gainL A h t lies := rfl
  rw [gE] at e
  have src : ∀ M, srcEnum (tV A) M = some (.items ((List.range (mm t ^ h)).map fun (k : Nat) => PV.tup [.int (k : Int), .int (an A k)])) := fun M => by
    show some (Src.items (enumL 0 (A.map PV.int))) = _
    rw [enumL_map, hA.1]
  have asg : ∀ σ, assignG (.tup (.cons (.name 6) (.cons (.name 7) (.cons (.name 8) .nil)))) (tbV (h, t) A) σ = some (((σ.set 6 (some (.int h))).set 7 (some (.int t))).set 8 (some (tV A))) := fun σ => rfl
  have c217' : callM (run fs (kk + 2)) 217 [.int t] M = .ok (.ref (M.sz + r)) M1 := c217
  have two : (2 : Nat) ≤ LIM := by decide
  have c218' : callM (run fs (kk + 2)) 218 [.tup [.int h, .int t], .int (mm t)] M1 = .ok (.ref M1.sz) N := c218
  have tr2 : trimV M1 (.ref M1.sz) N = .ok (.ref M1.sz) N := trimV_ref _ _
  have zero : (0 : Nat) ≤ LIM := by decide
  have tr3 : trimV N (.ref N.sz) (N.push (.lst [])) = .ok (.ref N.sz) (N.push (.lst [])) := trimV_ref _ _
  have ex : Ext M (N.push (.lst ((gainL A h t lies).map gV))) := ((Ext.join hw wP).trans (Ext.push _ _)).trans (Ext.push _ _)
  have gp : ((gainL A h t lies).map gV).all (PV.bnd M.sz) = true := by
    rw [List.all_eq_true]; intro x hx; obtain ⟨g, _, rfl⟩ := List.mem_map.mp hx; rfl
  have nsz : N.sz = M.sz + P.sz + 1 := rfl
  have trF : trimV M (.ref N.sz) (N.push (.lst ((gainL A h t lies).map gV))) = .ok (.ref M.sz) (M.push (.lst ((gainL A h t lies).map gV))) := by
    have t := trimV_new (M0 := M) (M := N.push (.lst ((gainL A h t lies).map gV))) (n := N.sz) (by show ¬ N.sz + 1 = M.sz; omega) rfl (by omega) (push_get _ _) gp
    rw [t, ex.cut]
  rw [run_at h220 _ _ _ rfl]
  simp only [gBodyH, gBody] at e
  show endOf M (evSs (run fs (kk + 2)) b220 [some (tbV (h, t) A), some (.ref lr), none, none, none, none, none, none, none, none, none, none, none, none, none] M) = _
  generalize (gainL A h t lies).map gV = GL at *
  clear_value M1 N
  simp [b220, asg, optR, c217', tr1, len1, two, c218', tr2, zero, tr3, src, e, trF]
end
end Lw
end
section
set_option Elab.async false
set_option linter.all false
set_option maxRecDepth 100000
set_option maxHeartbeats 1000000
namespace Lw
open PySem Mn
theorem head_flat {α β : Type} (f : α → List β) : ∀ xs : List α, (xs.flatMap f).head? = xs.findSome? fun x => (f x).head?
  | [] => rfl
  | x :: xs => by
    rw [List.flatMap_cons, List.head?_append, head_flat f xs, List.findSome?_cons]
    cases (f x).head? <;> rfl
theorem map_fs {α β γ : Type} (g : β → γ) (f : α → Option β) : ∀ xs : List α, (xs.findSome? f).map g = xs.findSome? fun x => (f x).map g
  | [] => rfl
  | x :: xs => by
    rw [List.findSome?_cons, List.findSome?_cons]
    cases f x with
    | none => exact map_fs g f xs
    | some b => rfl
theorem head_ff {α β γ : Type} (n : α → β) (p : β → Bool) (g : β → γ) : ∀ xs : List α, (((xs.map n).filter p).map g).head? = xs.findSome? fun a => if p (n a) then some (g (n a)) else none
  | [] => rfl
  | x :: xs => by
    rw [List.map_cons, List.findSome?_cons]
    by_cases h : p (n x) = true
    · simp [h]
    · have h' : p (n x) = false := by simpa using h
      rw [List.filter_cons_of_neg (by simp [h']), head_ff n p g xs]
      simp [h']
/-- a gain as it is told -/
def toT (h t : Nat) (g : Nat × Nat × Nat) : PV := .tup [.int g.2.1, sV (sy t h g.1), oV (od t g.2.2)]
theorem near_first (A : List Int) (h t : Nat) : nearF A h t = (gainL A h t (nrs t)).head?.map (toT h t) := by
  unfold gainL nearF
  rw [head_flat, map_fs]
  congr 1; funext k
  rw [head_flat, map_fs]
  congr 1; funext j
  rw [nrs, head_ff, map_fs]
  congr 1; funext a
  by_cases hg : gn A h t k j (nr t (own h t k j) a) = true
  · simp [hg, toT, nearT]
  · simp [hg]
theorem nrs_lt {t : Nat} (ht : t ∈ [2, 3, 4]) : ∀ i, i < mm t → ∀ n ∈ nrs t i, n < mm t := by
  intro i hi n hn
  obtain ⟨a, ha, rfl⟩ := List.mem_map.mp hn
  exact (nr_ok ht hi (List.mem_range.mp ha)).1
theorem gainL_ok {A : List Int} {h t : Nat} {lies : Nat → List Nat} (ht : t ∈ [2, 3, 4]) (hli : ∀ i, i < mm t → ∀ n ∈ lies i, n < mm t) {g : Nat × Nat × Nat} (hg : g ∈ gainL A h t lies) : g.1 < mm t ^ h ∧ g.2.1 < h ∧ g.2.2 < mm t := by
  simp only [gainL, List.mem_flatMap, List.mem_range, List.mem_map, List.mem_filter] at hg
  obtain ⟨k, hk, j, hj, i, ⟨hi, _⟩, rfl⟩ := hg
  exact ⟨hk, hj, hli _ (own_lt ht hj k) i hi⟩
theorem first_near_ok {fs : List (Nat × Fn)} (h6 : fs.lookup 6 = some fn6) (h149 : fs.lookup 149 = some fn149) (h217 : fs.lookup 217 = some fn217) (h218 : fs.lookup 218 = some fn218) (h219 : fs.lookup 219 = some fn219) (h220 : fs.lookup 220 = some fn220) (h221 : fs.lookup 221 = some fn221) (kk : Nat) {z : Nat × Nat} (hz : z ∈ SZ) {A : List Int} (hA : TA z.1 z.2 A) :
    run fs (kk + 4) 221 [tbV z A] Mem.emp = .ok ((nearF A z.1 z.2).getD .non) Mem.emp := by
  rw [near_first]
  obtain ⟨h, t⟩ := z
  obtain ⟨ht, hh1, hh3, hN⟩ := sz_ok hz
  simp only at ht hh1 hh3 hN hA ⊢
  obtain ⟨m0, m1, t4, t2⟩ := mm_le ht
  obtain ⟨r, P, e1, wP, lP⟩ := near_nums h6 h219 (kk + 1) ht
  have pne : nearL t ≠ [] := by
    intro e
    have := congrArg List.length e
    simp [nearL] at this; omega
  have c219 := callM_LL (cf := run fs (kk + 3)) (vs := [.int t]) (by simp) e1 lP pne Mem.emp
  have w0 : Mem.emp.Wh := rfl
  let M1 := Mem.emp.join P
  have w1 : M1.Wh := join_Wh w0 wP
  have lP1 : LL M1 (Mem.emp.sz + r) (nearL t) := lP.join w0 wP
  have tr1 : trimV Mem.emp (.ref (Mem.emp.sz + r)) M1 = .ok (.ref (Mem.emp.sz + r)) M1 := trimV_LL lP1 pne (Nat.zero_le _) fun _ _ _ _ => Nat.zero_le _
  let R := Mem.emp.sz + r
  have ga := gain_ok (lies := nrs t) h6 h217 h218 h220 kk hz hA w1 (lr := R) lP1 (nrs_lt ht) (fun i => by simp [nrs]; omega)
  let GL := (gainL A h t (nrs t)).map gV
  have gp : ∀ b, GL.all (PV.bnd b) = true := fun b => by
    rw [List.all_eq_true]; intro x hx; obtain ⟨g, _, rfl⟩ := List.mem_map.mp hx; rfl
  have c220 : callM (run fs (kk + 3)) 220 [tbV (h, t) A, .ref R] M1 = .ok (.ref M1.sz) (M1.push (.lst GL)) := by
    obtain ⟨rs, q1, q2, q3⟩ := lP1
    have hp : ([tbV (h, t) A, PV.ref R]).all PV.pure = false := by simp
    have hn : oneRef [tbV (h, t) A, PV.ref R] = some R := rfl
    have hb : ∀ o, M1.get R = some o → o.bnd 0 = false := by
      intro o ho
      have q1' : M1.lst? R = some (rs.map PV.ref) := q1
      unfold Mem.lst? at q1'
      rw [ho] at q1'
      have rne : rs ≠ [] := by
        intro e; rw [e] at q2; simp [nearL] at q2; omega
      obtain ⟨a, as, rfl⟩ := List.exists_cons_of_ne_nil rne
      cases o <;> (simp at q1'; subst q1'; simp [MObj.bnd])
    simp only [callM, hp, hn]
    simp only [Bool.false_eq_true, if_false]
    cases e : M1.get R with
    | none =>
      have q1' : M1.lst? R = some (rs.map PV.ref) := q1
      unfold Mem.lst? at q1'; rw [e] at q1'; cases q1'
    | some o =>
      simp only [hb o e, Bool.and_false, Bool.false_eq_true, if_false]
      rw [ga, trim_ok_]
      exact trimV_ref _ _
  have trG : trimV Mem.emp (.ref M1.sz) (M1.push (.lst GL)) = .ok (.ref 0) ⟨1, [.lst GL], 0⟩ := by
    have ex : Ext Mem.emp (M1.push (.lst GL)) := (Ext.join w0 wP).trans (Ext.push _ _)
    have t := trimV_new (M0 := Mem.emp) (M := M1.push (.lst GL)) (n := M1.sz) (by show ¬ M1.sz + 1 = 0; omega) rfl (Nat.zero_le _) (push_get _ _) (gp _)
    rw [t, ex.cut]; rfl
  have trG2 : trimV Mem.emp (.ref 0) ⟨1, [.lst GL], 0⟩ = .ok (.ref 0) ⟨1, [.lst GL], 0⟩ := trimV_ref Mem.emp (.lst GL)
  have x1 : ∀ M, ixM (tbV (h, t) A) (.int 1) M = .ok (.int t) M := fun M => rfl
  have x0 : ∀ M, ixM (tbV (h, t) A) (.int 0) M = .ok (.int h) M := fun M => rfl
  have c219' : callM (run fs (kk + 3)) 219 [.int t] Mem.emp = .ok (.ref R) M1 := c219
  have tr1' : trimV Mem.emp (.ref R) M1 = .ok (.ref R) M1 := tr1
  have lenG : bcallM .len [.ref 0] ⟨1, [.lst GL], 0⟩ = .ok (.int ((gainL A h t (nrs t)).length : Nat)) ⟨1, [.lst GL], 0⟩ := by
    have g : (⟨1, [.lst GL], 0⟩ : Mem).lst? 0 = some GL := rfl
    simp only [bcallM, seq?, g]
    simp [GL]
  have trz : ∀ v os, trimV Mem.emp v ⟨0, os, 0⟩ = .ok v ⟨0, os, 0⟩ := fun v os => trimV_sz v rfl
  rw [run_at h221 _ _ _ rfl]
  show endOf Mem.emp (evSs (run fs (kk + 3)) b221 [some (tbV (h, t) A), none, none, none, none] Mem.emp) = _
  cases eg : gainL A h t (nrs t) with
  | nil =>
    have tn : trimV Mem.emp .non ⟨1, [.lst GL], 0⟩ = .ok .non Mem.emp := rfl
    rw [eg] at lenG
    clear_value M1 GL R
    simp [b221, x1, c219', tr1', c220, trG, trG2, lenG, eq_ii, truth, tn]
  | cons g gs =>
    obtain ⟨k, j, i⟩ := g
    obtain ⟨g1, g2, g3⟩ := gainL_ok ht (nrs_lt ht) (show (k, j, i) ∈ gainL A h t (nrs t) by rw [eg]; exact List.mem_cons_self)
    simp only at g1 g2 g3
    have ixG : ixM (.ref 0) (.int 0) ⟨1, [.lst GL], 0⟩ = .ok (.tup [.int k, .int j, .int i]) ⟨1, [.lst GL], 0⟩ := ix_lst (i := 0) (xs := GL) rfl (by simp only [GL, eg]; rfl)
    have asg : ∀ σ, assignG (.tup (.cons (.name 2) (.cons (.name 3) (.cons (.name 4) .nil)))) (.tup [.int k, .int j, .int i]) σ = some (((σ.set 2 (some (.int k))).set 3 (some (.int j))).set 4 (some (.int i))) := fun σ => rfl
    have hne : (((gs.length + 1 : Nat) : Int) == 0) = false := by simp; omega
    rw [eg] at lenG
    let MG : Mem := ⟨1, [.lst GL], 0⟩
    have c149 := callM_list (sayings_ok h6 h149 (kk + 1) hz) (by simp) (all_sV _ 0) MG
    have c6 := callM_list (orders_ok h6 ht (kk + 2)) (by simp) (all_oV _ 0) MG
    have c149' : callM (run fs (kk + 3)) 149 [.int h, .int t] MG = .ok (.ref 1) (MG.push (.lst ((SY h t).map sV))) := c149
    have c6' : callM (run fs (kk + 3)) 6 [.int t] MG = .ok (.ref 1) (MG.push (.lst ((OD t).map oV))) := c6
    have ixS : ixM (.ref 1) (.int k) (MG.push (.lst ((SY h t).map sV))) = .ok (sV (sy t h k)) (MG.push (.lst ((SY h t).map sV))) := ix_lst (xs := (SY h t).map sV) rfl (by rw [List.getElem?_map, SY_get g1]; rfl)
    have ixO : ixM (.ref 1) (.int i) (MG.push (.lst ((OD t).map oV))) = .ok (oV (od t i)) (MG.push (.lst ((OD t).map oV))) := ix_lst (xs := (OD t).map oV) rfl (by rw [List.getElem?_map, OD_get g3]; rfl)
    have ts : ∀ x, trimV MG (.ref 1) (MG.push x) = .ok (.ref 1) (MG.push x) := fun x => trimV_ref MG x
    have tsv := trimV_push MG (.lst ((SY h t).map sV)) (v := sV (sy t h k)) (pure_s _ _)
    have tov := trimV_push MG (.lst ((OD t).map oV)) (v := oV (od t i)) (pure_o _ _)
    have pf : (PV.tup [.int (j : Int), sV (sy t h k), oV (od t i)]).bnd 0 = true := by rw [bnd_tup]; simp [pure_s, pure_o]
    have tf : trimV Mem.emp (.tup [.int j, sV (sy t h k), oV (od t i)]) MG = .ok (.tup [.int j, sV (sy t h k), oV (od t i)]) Mem.emp := by
      rw [trimV_cut (M0 := Mem.emp) (M := MG) (by show ¬ 1 = 0; omega) rfl pf]; rfl
    have mg : (⟨1, [.lst GL], 0⟩ : Mem) = MG := rfl
    rw [mg] at lenG ixG trG trG2
    have three : (3 : Nat) ≤ LIM := by decide
    generalize (SY h t).map sV = SL at *
    generalize (OD t).map oV = OL at *
    have len' : bcallM .len [.ref 0] MG = .ok (.int ((gs.length + 1 : Nat) : Int)) MG := lenG
    clear_value M1 R MG GL
    simp only [List.head?_cons, Option.map_some, Option.getD_some, toT]
    simp [b221, x1, x0, c219', tr1', c220, trG, trG2, len', eq_ii, hne, truth, ixG, asg, optR, c149', ixS, ts, tsv, c6', ixO, tov, three, tf, -Int.natCast_add]
end Lw
end
section
set_option Elab.async false
set_option linter.all false
set_option maxRecDepth 100000
set_option maxHeartbeats 1000000
namespace Mn
theorem dat_bnd : ∀ {v : PV} {d : Nat}, v.dat d = true → ∀ b, v.bnd b = true
  | .non, _, _, _ => rfl
  | .bl _, _, _, _ => rfl
  | .int _, _, _, _ => rfl
  | .str _, _, _, _ => rfl
  | .ref _, _, h, _ => by rw [PV.dat] at h; cases h
  | .tup xs, d, h, b => by
    rw [dat_tup_, Bool.and_eq_true, List.all_eq_true] at h
    rw [bnd_tup, List.all_eq_true]
    exact fun x hx => dat_bnd (h.2 x hx) b
theorem seq_next {cf : CF} {s : MS} {ss : MSs} {σ σ' : St} {M M' : Mem} (h : evS cf s σ M = .ok (.next σ') M') : evSs cf (.cons s ss) σ M = evSs cf ss σ' M' := by
  rw [yC, h, sQ_next]
end Mn
namespace Lw
open PySem Mn
/-- a turn draws one thing more; pre: what stands ahead of the turn's number -/
def TurnP (cf : CF) (ns : List Int) (body : MSs) (Good : PV → Prop) (pre : St) (m : Nat) : Prop := ∀ (M : Mem) (S : List PV), Drw ns M S → S.length ≤ 100 → ∀ (i : Nat) (rest : St), rest.length = m →
  ∃ M' x rest', rest'.length = m ∧ Drw ns M' (S ++ [x]) ∧ Good x ∧ evSs cf body (pre ++ some (.int i) :: rest) M = .ok (.next (pre ++ some (.int i) :: rest')) M'
theorem set_at {pre : St} {a : Option PV} {rest : St} {v : Option PV} : (pre ++ a :: rest).set pre.length v = pre ++ v :: rest := by
  rw [List.set_append]; simp
theorem loop_p {cf : CF} {ns : List Int} {body : MSs} {Good : PV → Prop} {pre : St} {k : Nat} (hT : TurnP cf ns body Good pre k) : ∀ (m i : Nat) {M : Mem} {S : List PV}, Drw ns M S → S.length + m ≤ 100 → (∀ x ∈ S, Good x) → ∀ (a : Option PV) (rest : St), rest.length = k →
    ∃ M' S' a' rest', Drw ns M' S' ∧ S'.length = S.length + m ∧ (∀ x ∈ S', Good x) ∧ rest'.length = k ∧
      forItems (.name pre.length) (evSs cf body) ((List.range' i m).map fun (k : Nat) => .int (k : Int)) (pre ++ a :: rest) M = .ok (.next (pre ++ a' :: rest')) M'
  | 0, i, M, S, hD, hS, hG, a, rest, hr => ⟨M, S, a, rest, hD, by omega, hG, hr, by simp⟩
  | m + 1, i, M, S, hD, hS, hG, a, rest, hr => by
    obtain ⟨M1, x, r1, hr1, hD1, hx, e⟩ := hT M S hD (by omega) i rest hr
    obtain ⟨M', S', a', r2, q1, q2, q3, q4, e2⟩ := loop_p hT m (i + 1) hD1 (by simp; omega) (fun y hy => by
      rcases List.mem_append.mp hy with hy | hy
      · exact hG y hy
      · rw [List.mem_singleton] at hy; subst hy; exact hx) (some (.int i)) r1 hr1
    refine ⟨M', S', a', r2, q1, by rw [q2]; simp; omega, q3, q4, ?_⟩
    rw [List.range'_succ, List.map_cons, forI_cons]
    simp only [assign_name_, set_at]
    rw [e, aT_next]
    exact e2
/-- all([.. for .. in given + given[:1]]) -/
theorem all_fin {cf : CF} {ns : List Int} {M2 : Mem} {S : List PV} (hD : Drw ns M2 S) (hS : S.length ≤ 100) {Good : PV → Prop} (hG : ∀ x ∈ S, Good x) (hP : ∀ x, Good x → ∀ b, x.bnd b = true) {σ : St} (hσ : σ[1]? = some (some (.ref 1))) {own : List Nat} {g : MG} {elt : ME} {M0 : Mem}
    (hR : ∀ x, Good x → ∀ (acc : List PV) (M : Mem), acc.length < LIM → lcTurn own g none (evE cf elt) σ x acc M = .ok (acc ++ [.bl true]) M) :
    ∃ M', endOf M0 (evSs cf (.cons (.ret (.bcall .all (.cons (.lc own g (.seq (.bin .Add (.var 1) (.sl (.var 1) .none (.some (.int 1))))) .none elt) .nil))) .nil) σ M2) = .ok (.bl true) M' := by
  have hg := hD.g1
  have h2 := hD.sz
  let Z := S ++ cut S none (some 1)
  have hZ : ∀ x ∈ Z, Good x := fun x hx => by
    rcases List.mem_append.mp hx with hx | hx
    · exact hG x hx
    · exact hG x (List.mem_of_mem_drop (List.mem_of_mem_take hx))
  have hZl : Z.length ≤ 200 := by
    have : (cut S none (some 1)).length ≤ S.length := by simp only [cut, List.length_take, List.length_drop]; omega
    simp only [Z, List.length_append]; omega
  let M3 := M2.push (.lst Z)
  have add : evE cf (.bin .Add (.var 1) (.sl (.var 1) .none (.some (.int 1)))) σ M2 = .ok (.ref M2.sz) M3 := by
    have g1 := push_get' M2 (.lst (cut S none (some 1))) (n := 1) (by omega)
    rw [hg] at g1
    have g2 := push_get (M2.push (.lst (cut S none (some 1)))) (.lst Z)
    have za : Z.all (PV.bnd M2.sz) = true := by rw [List.all_eq_true]; exact fun x hx => hP x (hZ x hx) _
    have t := trimV_new (M0 := M2) (M := (M2.push (.lst (cut S none (some 1)))).push (.lst Z)) (by simp only [push_sz]; omega) rfl (by simp only [push_sz]; omega) g2 za
    rw [push2_cut] at t
    have zl : S.length + (cut S none (some 1)).length ≤ LIM := by
      have := List.length_append (as := S) (bs := cut S none (some 1))
      rw [← this]; exact Nat.le_trans hZl (by decide)
    simp only [push_sz] at t
    simp [slM, Mem.lst?, hg, intR, binM, g1, zl, hσ]
    exact t
  have lc : lcSrc own g none (evE cf elt) σ (.at1 M2.sz false) (Z.length + 1) 0 [] M3 = .ok ([] ++ List.replicate Z.length (.bl true)) M3 := by
    refine lcS_items (xs := Z) (fun j => ?_) Z.length 0 _ _ _ (by simp) (by omega) (by omega) (by simpa using Nat.le_trans hZl (by decide)) (by simp) fun j x y acc hx hy ha => ?_
    · simp [srcAt, M3, Mem.lst?]
    · rw [Nat.zero_add] at hx
      have hy' : y = .bl true := by
        rw [List.getElem?_replicate] at hy; split at hy <;> simp_all
      subst hy'
      exact hR x (hZ x (List.mem_of_getElem? hx)) acc M3 ha
  have z3 : M3.get M2.sz = some (.lst Z) := push_get _ _
  have g4 := push_get M3 (.lst (List.replicate Z.length (.bl true)))
  obtain ⟨Mx, hx⟩ := trimV_blx M2 (M3.push (.lst (List.replicate Z.length (.bl true)))) true
  obtain ⟨My, hy⟩ := trimV_blx M2 Mx true
  obtain ⟨Mz, hz⟩ := trimV_blx M0 My true
  refine ⟨Mz, ?_⟩
  have alls : (List.replicate Z.length true).all id = true := by simp
  simp [-xbin, add, srcSeq, optR, Mem.lst?, z3, srcLen, lc, bcallM, g4, bls_trues, hx, hy, hz]
/-- how many turns: the script's length within bounds -/
theorem len_scr (ns : List Int) (M : Mem) (hg : M.get 0 = some (.rol (ns.map .int))) : bcallM .len [.ref 0] M = .ok (.int (ns.length : Nat)) M := by
  simp [bcallM, seq?, Mem.lst?, hg]
end Lw
end
section
set_option Elab.async false
set_option linter.all false
set_option maxRecDepth 100000
set_option maxHeartbeats 1000000
namespace Mn
theorem eqv_o (a b : List Int) : (PV.tup (a.map PV.int)).eqv (.tup (b.map PV.int)) = decide (a = b) := by
  rw [PV.eqv]
  have : ∀ a b : List Int, PV.eqv.eqvs (a.map PV.int) (b.map PV.int) = decide (a = b) := by
    intro a
    induction a with
    | nil => intro b; cases b <;> simp [PV.eqv.eqvs]
    | cons x a ih =>
      intro b
      cases b with
      | nil => simp [PV.eqv.eqvs]
      | cons y b => rw [List.map_cons, List.map_cons, PV.eqv.eqvs, ih, eqv_int]; by_cases h : x = y <;> simp [h]
  exact this a b
end Mn
namespace Lw
open PySem Mn
theorem eqv_s (a b : List (List Int)) : (sV a).eqv (sV b) = decide (a = b) := by
  rw [sV, sV, PV.eqv]
  have : ∀ a b : List (List Int), PV.eqv.eqvs (a.map oV) (b.map oV) = decide (a = b) := by
    intro a
    induction a with
    | nil => intro b; cases b <;> simp [PV.eqv.eqvs]
    | cons x a ih =>
      intro b
      cases b with
      | nil => simp [PV.eqv.eqvs]
      | cons y b =>
        have e : (oV x).eqv (oV y) = decide (x = y) := eqv_o x y
        rw [List.map_cons, List.map_cons, PV.eqv.eqvs, ih, e]; by_cases h : x = y <;> simp [h]
  exact this a b
theorem od_inj {t : Nat} (ht : t ∈ [2, 3, 4]) {i j : Nat} (hi : i < mm t) (hj : j < mm t) (h : od t i = od t j) : i = j := by
  have : ∀ t ∈ [2, 3, 4], ∀ i < mm t, ∀ j < mm t, od t i = od t j → i = j := by decide +kernel
  exact this t ht i hi j hj h
theorem map_inj {t : Nat} (ht : t ∈ [2, 3, 4]) : ∀ {a b : List Nat}, (∀ d ∈ a, d < mm t) → (∀ d ∈ b, d < mm t) → a.map (od t) = b.map (od t) → a = b
  | [], [], _, _, _ => rfl
  | [], _ :: _, _, _, h => by simp at h
  | _ :: _, [], _, _, h => by simp at h
  | x :: a, y :: b, ha, hb, h => by
    simp only [List.map_cons, List.cons.injEq] at h
    rw [od_inj ht (ha x List.mem_cons_self) (hb y List.mem_cons_self) h.1, map_inj ht (fun d hd => ha d (List.mem_cons_of_mem _ hd)) (fun d hd => hb d (List.mem_cons_of_mem _ hd)) h.2]
theorem sy_inj {t : Nat} (ht : t ∈ [2, 3, 4]) {h i j : Nat} (hi : i < mm t ^ h) (hj : j < mm t ^ h) (e : sy t h i = sy t h j) : i = j := by
  obtain ⟨m0, _⟩ := mm_le ht
  rw [sy_dg, sy_dg] at e
  have := map_inj ht (dg_lt m0 h i) (dg_lt m0 h j) e
  have h1 := dg_val (mm t) h i
  have h2 := dg_val (mm t) h j
  rw [this, h2, Nat.mod_eq_of_lt hi, Nat.mod_eq_of_lt hj] at h1
  exact h1.symm
theorem shallow_sy {t : Nat} (ht : t ∈ [2, 3, 4]) {h : Nat} (hh : h ≤ 3) (k : Nat) : shallow (sV (sy t h k)) = true := by
  obtain ⟨m0, m1, t4, t2⟩ := mm_le ht
  have : Fit 2 (sV (sy t h k)) := by
    rw [sy_dg]
    exact fit_sD ht (by rw [dg_length]; omega) (dg_lt m0 h k)
  exact this.dat (by decide)
/-- the place of a saying among all -/
theorem index_sy {t : Nat} (ht : t ∈ [2, 3, 4]) {h : Nat} (hh : h ≤ 3) {k : Nat} (hk : k < mm t ^ h) {M : Mem} {r : Nat} (hr : M.lst? r = some ((SY h t).map sV)) : methM .index (.ref r) [sV (sy t h k)] M = .ok (.int k) M := by
  have s1 : ((SY h t).map sV).all shallow = true := by
    rw [List.all_eq_true]; intro x hx
    obtain ⟨s, hs, rfl⟩ := List.mem_map.mp hx
    obtain ⟨n, _, rfl⟩ := SY_mem hs
    exact shallow_sy ht hh n
  have s2 := shallow_sy ht hh k
  have hl : k < ((SY h t).map sV).length := by simpa [SY_length] using hk
  have f : ((SY h t).map sV).findIdx? (fun x => x.eqv (sV (sy t h k))) = some k := by
    rw [List.findIdx?_eq_some_iff_getElem]
    refine ⟨hl, ?_, fun j hj => ?_⟩
    · simp [SY, eqv_s]
    · simp only [SY, List.getElem_map, List.getElem_range, eqv_s, decide_eq_true_eq]
      intro e
      have := sy_inj ht (by omega) hk e
      omega
  simp only [methM, seq?, hr, s1, s2, f, Bool.and_self, if_true]
theorem set_sy {t : Nat} (ht : t ∈ [2, 3, 4]) {h k j i : Nat} (hi : i < mm t) : (sy t h k).set j (od t i) = sy t h (oth h t k j i) := by
  have e : (sy t h k).set j (od t i) = sD t ((dg (mm t) h k).set j i) := by rw [sy_dg, ← sD_set]; rfl
  rw [e, sD_sy (dgset_lt ht h k j hi), List.length_set, dg_length]; rfl
/-- s[:j] + (o,) + s[j + 1:] -/
theorem said_ev {cf : CF} {σ : St} {M : Mem} {s : List (List Int)} {j : Nat} {o : List Int} {a b c : Nat} (ha : σ[a]? = some (some (sV s))) (hb : σ[b]? = some (some (.int j))) (hc : σ[c]? = some (some (oV o))) (hj : j < s.length) (hs : s.length ≤ 1000) :
    evE cf (.bin .Add (.bin .Add (.sl (.var a) .none (.some (.var b))) (.tup (.cons (.var c) .nil))) (.sl (.var a) (.some (.bin .Add (.var b) (.int 1))) .none)) σ M = .ok (sV (s.set j o)) M := by
  have i1 : cut (s.map oV) none (some (j : Int)) = (s.take j).map oV := by
    rw [cut_to _ _ (by simp; omega), List.map_take]
  have i2 : cut (s.map oV) (some ((j : Int) + 1)) none = (s.drop (j + 1)).map oV := by
    rw [show ((j : Int) + 1) = ((j + 1 : Nat) : Int) by omega, cut_from _ _ (by simp; omega), List.map_drop]
  have a1 := addT (xs := (s.take j).map oV) (ys := [oV o]) (by simp only [List.length_map, List.length_take, List.length_cons, List.length_nil]; omega)
  have a2 := addT (xs := (s.take j).map oV ++ [oV o]) (ys := (s.drop (j + 1)).map oV) (by simp only [List.length_append, List.length_map, List.length_take, List.length_drop, List.length_cons, List.length_nil]; omega)
  have one : (1 : Nat) ≤ LIM := by decide
  have fin : (s.take j).map oV ++ [oV o] ++ (s.drop (j + 1)).map oV = (s.set j o).map oV := by
    rw [List.set_eq_take_append_cons_drop, if_pos hj]; simp
  rw [fin] at a2
  have a2' : ∀ M, binM .Add (.tup ((s.take j).map oV ++ [oV o])) (.tup ((s.drop (j + 1)).map oV)) M = .ok (sV (s.set j o)) M := a2
  have s1 : ∀ M, slM (sV s) none (some (j : Int)) M = .ok (.tup ((s.take j).map oV)) M := fun M => by simp only [slM, sV, i1]
  have s2 : ∀ M, slM (sV s) (some ((j : Int) + 1)) none M = .ok (.tup ((s.drop (j + 1)).map oV)) M := fun M => by simp only [slM, sV, i2]
  have ad := addI (j : Int) 1
  generalize (s.take j).map oV = A at *
  generalize (s.drop (j + 1)).map oV = B at *
  simp [ha, hb, hc, s1, s2, intR, one, a1, a2', ad]
/-- who gains -/
theorem gains_ok {fs : List (Nat × Fn)} (h1 : fs.lookup 1 = some fn1) (h2 : fs.lookup 2 = some fn2) (h11 : fs.lookup 11 = some fn11) (h26 : fs.lookup 26 = some fn26) (h32 : fs.lookup 32 = some fn32) (h173 : fs.lookup 173 = some fn173) (h212 : fs.lookup 212 = some fn212) (kk : Nat) {z : Nat × Nat} (hz : z ∈ SZ) {A : List Int} (hA : TA z.1 z.2 A) {k j i : Nat} (hk : k < mm z.2 ^ z.1) (hj : j < z.1) (hi : i < mm z.2) :
    run fs (kk + 4) 212 [tbV z A, .int j, sV (sy z.2 z.1 k), oV (od z.2 i)] Mem.emp = .ok (.bl (gn A z.1 z.2 k j i)) Mem.emp := by
  obtain ⟨h, t⟩ := z
  obtain ⟨ht, hh1, hh3, hN⟩ := sz_ok hz
  simp only at ht hh1 hh3 hN hA hk hj hi ⊢
  obtain ⟨m0, m1, t4, t2⟩ := mm_le ht
  have ow := own_lt ht hj k
  obtain ⟨g1, g2⟩ := ta_get hA (oth_lt ht h k j hi)
  obtain ⟨g3, g4⟩ := ta_get hA hk
  have e1 : sD t (dg (mm t) h k) = sy t h k := (sy_dg t h k).symm
  have v1 : val (mm t) (dg (mm t) h k) = k := by
    have := dg_val (mm t) h k
    rw [Nat.mod_eq_of_lt hk] at this
    exact this
  have c1 := callM_v (answer_ok h1 h2 h26 h173 ht kk (z := (h, t)) (A := A) (ds := dg (mm t) h k) (by rw [dg_length]; omega) (dg_lt m0 h k) (by rw [v1]; exact g3)) (by simp [pure_tb, pure_s]) rfl
  rw [e1] at c1
  have c32 := callM_v (said_ok h32 (kk + 2) (s := sy t h k) (h := j) (by rw [sy_length]; exact hj) (by rw [sy_length]; omega) (od t i)) (by simp [pure_s, pure_o]) (pure_s 0 _)
  have es : (sy t h k).set j (od t i) = sD t ((dg (mm t) h k).set j i) := by rw [sy_dg, ← sD_set]; rfl
  rw [es] at c32
  have c2 := callM_v (answer_ok h1 h2 h26 h173 ht kk (z := (h, t)) (A := A) (ds := (dg (mm t) h k).set j i) (by rw [List.length_set, dg_length]; omega) (dgset_lt ht h k j hi) g1) (by simp [pure_tb, pure_s]) rfl
  have xs := ix_sV (sy_get_own (t := t) (k := k) hj)
  have pm := od_perm ht ow
  have c11 := callM_v (puts_ok h11 (kk + 2) (o := od t (own h t k j)) (pm.mem_iff.mpr g2) (pm.mem_iff.mpr g4)) (by simp [pure_o]) rfl
  have gd : ahd (od t (own h t k j)) (an A (oth h t k j i)) (an A k) = gn A h t k j i := rfl
  rw [gd] at c11
  rw [run_at h212 _ _ _ rfl]
  simp [fn212, b212, startσ, c1, c32, c2, xs, c11]
end Lw
end
section
set_option Elab.async false
set_option linter.all false
set_option maxRecDepth 100000
set_option maxHeartbeats 1000000
namespace Mn
/-! ### new lists, one behind the other -/
def pushes (M : Mem) (os : List (List PV)) : Mem := os.foldl (fun M ys => M.push (.lst ys)) M
theorem pushes_cons (M : Mem) (ys : List PV) (os : List (List PV)) : pushes M (ys :: os) = pushes (M.push (.lst ys)) os := rfl
theorem pushes_sz : ∀ (os : List (List PV)) (M : Mem), (pushes M os).sz = M.sz + os.length
  | [], M => rfl
  | ys :: os, M => by rw [pushes_cons, pushes_sz os, push_sz, List.length_cons]; omega
theorem pushes_Bm : ∀ (os : List (List PV)) (L : List MObj) (o : MObj), pushes (Bm L o) os = Bm ((os.map MObj.lst).reverse ++ L) o
  | [], L, o => rfl
  | ys :: os, L, o => by rw [pushes_cons, Bm_push, pushes_Bm os]; simp
theorem pushes_lst {n : Nat} {xs : List PV} : ∀ (os : List (List PV)) {M : Mem}, M.lst? n = some xs → (pushes M os).lst? n = some xs
  | [], M, h => h
  | ys :: os, M, h => pushes_lst os (push_lst h _)
theorem pushes_at : ∀ (os : List (List PV)) (M : Mem) {i : Nat} {ys : List PV}, os[i]? = some ys → (pushes M os).lst? (M.sz + i) = some ys
  | [], M, i, ys, h => by cases h
  | zs :: os, M, 0, ys, h => by
    cases h
    exact pushes_lst os (by simp [Mem.lst?, push_get])
  | zs :: os, M, i + 1, ys, h => by
    have := pushes_at os (M.push (.lst zs)) (i := i) (ys := ys) (by simpa using h)
    rw [push_sz] at this
    rw [pushes_cons, show M.sz + (i + 1) = M.sz + 1 + i by omega]; exact this
theorem lcI_new {own : List Nat} {g : MG} {elt : Ev} {σ : St} : ∀ (xs : List PV) (os : List (List PV)) (acc : List PV) (M : Mem), acc.length + xs.length ≤ LIM → xs.length = os.length →
    (∀ (i : Nat) x ys, xs[i]? = some x → os[i]? = some ys → ∃ s, assignG g x (wipe σ own) = some s ∧ ∀ M, kT M (elt s M) = .ok (.ref M.sz) (M.push (.lst ys))) →
    lcItems own g none elt σ xs acc M = .ok (acc ++ (List.range' M.sz xs.length).map PV.ref) (pushes M os)
  | [], [], acc, M, _, _, _ => by simp [pushes]
  | x :: xs, ys :: os, acc, M, hl, he, h => by
    obtain ⟨s, a1, a2⟩ := h 0 x ys rfl rfl
    simp only [List.length_cons] at hl he
    have := lcI_new xs os (acc ++ [.ref M.sz]) (M.push (.lst ys)) (by simp; omega) (by omega) (fun i x ys hx hy => h (i + 1) x ys (by simpa using hx) (by simpa using hy))
    rw [lcI_cons, lcT_none, a1]
    simp only [a2, lE_ok]
    rw [if_pos (by omega), lT_ok, this, pushes_cons]
    simp [List.range'_succ]
theorem lcS_new {own : List Nat} {g : MG} {elt : Ev} {σ : St} {n : Nat} {xs : List PV} : ∀ (m i f : Nat) (os : List (List PV)) (acc : List PV) (M : Mem), M.lst? n = some xs → m = xs.length - i → i ≤ xs.length → m < f → acc.length + m ≤ LIM → os.length = m →
    (∀ (j : Nat) x ys, xs[i + j]? = some x → os[j]? = some ys → ∃ s, assignG g x (wipe σ own) = some s ∧ ∀ M, kT M (elt s M) = .ok (.ref M.sz) (M.push (.lst ys))) →
    lcSrc own g none elt σ (.at1 n false) f i acc M = .ok (acc ++ (List.range' M.sz m).map PV.ref) (pushes M os)
  | 0, i, f + 1, [], acc, M, hg, hm, hi, hf, hl, he, h => by
    have : xs[i]? = none := List.getElem?_eq_none (by omega)
    rw [lcS_step]
    simp [srcAt, hg, this, pushes]
  | m + 1, i, f + 1, ys :: os, acc, M, hg, hm, hi, hf, hl, he, h => by
    have hx : xs[i]? = some (xs[i]'(by omega)) := List.getElem?_eq_getElem _
    obtain ⟨s, a1, a2⟩ := h 0 _ ys hx rfl
    simp only [List.length_cons] at he
    have := lcS_new m (i + 1) f os (acc ++ [.ref M.sz]) (M.push (.lst ys)) (push_lst hg _) (by omega) (by omega) (by omega) (by simp; omega) (by omega) (fun j x ys hx hy => h (j + 1) x ys (by rw [show i + (j + 1) = i + 1 + j by omega]; exact hx) (by simpa using hy))
    have hs : srcAt (.at1 n false) i M = some (some (xs[i]'(by omega))) := by simp [srcAt, hg, hx]
    rw [lcS_step, hs]
    show lS _ _ _ _ _ _ _ _ (lcTurn _ _ _ _ _ _ _ _) = _
    rw [lcT_none, a1]
    simp only [a2, lE_ok]
    rw [if_pos (by omega), lS_ok, this, pushes_cons]
    simp [List.range'_succ]
theorem Bm_puth (L : List MObj) (o x : MObj) {n : Nat} (hn : n < L.length) : (Bm L o).put (n + 1) x 0 = Bm (L.reverse.set n x).reverse o := by
  have e : (Bm L o).put (n + 1) x 0 = ⟨L.length + 1, (L ++ [o]).set (L.length + 1 - 1 - (n + 1)) x, 0⟩ := rfl
  rw [e]
  unfold Bm
  have l1 : (L.reverse.set n x).reverse.length = L.length := by simp
  have : (L.reverse.set n x).reverse = L.set (L.length - 1 - n) x := by
    apply List.ext_getElem
    · simp
    · intro i h1 h2
      simp only [List.getElem_reverse, List.length_set, List.length_reverse, List.getElem_set]
      simp only [List.length_reverse, List.length_set] at h1
      have : L.length - 1 - (L.length - 1 - i) = i := by omega
      by_cases c : n = L.length - 1 - i
      · rw [if_pos c, if_pos (by omega)]
      · rw [if_neg c, if_neg (by omega)]
        simp only [this]
  rw [this, List.length_set, List.set_append_left _ _ (by omega)]
  simp only [show L.length + 1 - 1 - (n + 1) = L.length - 1 - n by omega]
theorem isort_of : ∀ {l : List Int}, l.Pairwise (· < ·) → isort l = l
  | [], _ => rfl
  | [x], _ => rfl
  | x :: y :: l, h => by
    have h1 := List.pairwise_cons.mp h
    have := isort_of h1.2
    show insI x (isort (y :: l)) = _
    rw [this]
    have : x ≤ y := Int.le_of_lt (h1.1 y List.mem_cons_self)
    show (if x ≤ y then x :: y :: l else _) = _
    rw [if_pos this]
end Mn
namespace Lw
open PySem Mn
/-! ### drawn webs -/
def wRow (R : List (List Int)) (i : Nat) (v : Nat) : List (List Int) := R.set i (R.getD i [] ++ [(v : Int)])
def wStep (R : List (List Int)) (x y d : Nat) : List (List Int) := if d = 0 then wRow R x y else wRow R y x
/-- all that may be reached by some pairs -/
def rchs (t : Nat) (ps : List (Nat × Nat)) : List (List (List Int)) := ps.foldl (fun Rs p => Rs.flatMap fun R => [wStep R p.1 p.2 0, wStep R p.1 p.2 1]) [List.replicate t []]
theorem rchs_snoc {t : Nat} {ps : List (Nat × Nat)} {R : List (List Int)} (h : R ∈ rchs t ps) (x y : Nat) {d : Nat} (hd : d < 2) : wStep R x y d ∈ rchs t (ps ++ [(x, y)]) := by
  unfold rchs at *
  rw [List.foldl_append, List.foldl_cons, List.foldl_nil, List.mem_flatMap]
  refine ⟨R, h, ?_⟩
  obtain rfl | rfl : d = 0 ∨ d = 1 := by omega
  · simp
  · simp
theorem wRow_length (R : List (List Int)) (i v : Nat) : (wRow R i v).length = R.length := by simp [wRow]
theorem wStep_length (R : List (List Int)) (x y d : Nat) : (wStep R x y d).length = R.length := by unfold wStep; split <;> exact wRow_length _ _ _
/-- pairs of things, the first ones below x -/
def prs (t x : Nat) : List (Nat × Nat) := (List.range x).flatMap fun a => (List.range' (a + 1) (t - (a + 1))).map fun b => (a, b)
theorem prs_succ (t x : Nat) : prs t (x + 1) = prs t x ++ (List.range' (x + 1) (t - (x + 1))).map fun b => (x, b) := by
  unfold prs
  rw [List.range_succ, List.flatMap_append]; simp
/-- a full web -/
def webOk (t : Nat) (W : List (List Int)) : Bool :=
  (W.length == t) && ((List.range t).all fun x => W.getD x [] == (iota t).filter fun y => (W.getD x []).contains y) && ((List.range t).all fun x => !(W.getD x []).contains (x : Int)) && ((List.range t).all fun x => (List.range t).all fun y => x == y || ((W.getD x []).contains (y : Int)) != ((W.getD y []).contains (x : Int)))
theorem webs_ok : ∀ t ∈ [2, 3, 4, 5], ∀ W ∈ rchs t (prs t t), webOk t W = true := by decide +kernel
end Lw
end
section
set_option Elab.async false
set_option linter.all false
set_option maxRecDepth 100000
set_option maxHeartbeats 1000000
namespace Lw
open PySem Mn
def rO (r : List Int) : MObj := .lst (r.map PV.int)
def rRefs (t : Nat) : List PV := (List.range' 1 t).map PV.ref
def rL (R : List (List Int)) : List MObj := .lst (rRefs R.length) :: (R.map rO).reverse
theorem rL_length (R : List (List Int)) : (rL R).length = R.length + 1 := by simp [rL]
theorem rL_rev (R : List (List Int)) : (rL R).reverse = R.map rO ++ [.lst (rRefs R.length)] := by simp [rL]
theorem rL_row {R : List (List Int)} {i : Nat} (hi : i < R.length) (o : MObj) : (Bm (rL R) o).get (i + 1) = some (rO (R.getD i [])) := by
  refine Bm_high _ _ ?_
  rw [rL_rev, List.getElem?_append_left (by simpa using hi), List.getElem?_map, List.getElem?_eq_getElem hi, List.getD_eq_getElem?_getD, List.getElem?_eq_getElem hi]
  rfl
theorem rL_all (R : List (List Int)) (o : MObj) : (Bm (rL R) o).get (R.length + 1) = some (.lst (rRefs R.length)) := by
  refine Bm_high _ _ ?_
  rw [rL_rev, List.getElem?_append_right (by simp)]
  simp
theorem rL_put {R : List (List Int)} {i : Nat} (hi : i < R.length) (v : Nat) (o : MObj) : (Bm (rL R) o).put (i + 1) (.lst ((R.getD i []).map PV.int ++ [.int v])) 0 = Bm (rL (wRow R i v)) o := by
  rw [Bm_puth _ _ _ (by rw [rL_length]; omega), rL_rev]
  congr 1
  rw [List.set_append_left _ _ (by simpa using hi)]
  unfold rL
  rw [wRow_length]
  simp only [List.reverse_append, List.reverse_cons, List.reverse_nil, List.nil_append, List.cons_append]
  congr 2
  unfold wRow
  rw [List.map_set]
  simp [rO]
theorem rRefs_at {t i : Nat} (hi : i < t) : (rRefs t)[i]? = some (.ref (i + 1)) := by
  unfold rRefs
  rw [List.getElem?_map, List.getElem?_range' hi]
  simp; omega
def wTurn : MSs := (.cons (.asg 5 (.ix (.lst (.cons (.tup (.cons (.var 3) (.cons (.var 4) .nil))) (.cons (.tup (.cons (.var 4) (.cons (.var 3) .nil))) .nil))) (.call 5 (.cons (.var 0) (.cons (.int 2) .nil)))))
        (.cons (.expr (.meth .append (.ix (.var 2) (.ix (.var 5) (.int 0))) (.cons (.ix (.var 5) (.int 1)) .nil)))
        .nil))
theorem web_turn {fs : List (Nat × Fn)} (h5 : fs.lookup 5 = some fn5) (k : Nat) {t x y : Nat} (hx : x < t) (hy : y < t) (ht : t ≤ 5) {R : List (List Int)} (hR : R.length = t) (hl : ∀ r ∈ R, r.length ≤ 20) {o : MObj} (ho : BX o) (a5 a6 : Option PV) :
    ∃ d a5' o', d < 2 ∧ BX o' ∧ evSs (run fs (k + 1)) wTurn [some (.ref 0), some (.int t), some (.ref (t + 1)), some (.int x), some (.int y), a5, a6] (Bm (rL R) o) =
      .ok (.next [some (.ref 0), some (.int t), some (.ref (t + 1)), some (.int x), some (.int y), a5', a6]) (Bm (rL (wStep R x y d)) o') := by
  let P1 : PV := .tup [.int x, .int y]
  let P2 : PV := .tup [.int y, .int x]
  obtain ⟨_, o', ho', ⟨d, rfl, hd⟩, _, e⟩ := (take_n h5 k (w := 2) (by decide) (by decide)).low (by simp) (.lst [P1, P2] :: rL R) ho
  have e : callM (run fs (k + 1)) 5 [.ref 0, .int 2] (Bm (.lst [P1, P2] :: rL R) o) = .ok (.int d) (Bm (.lst [P1, P2] :: rL R) o') := e
  have ps : (Bm (rL R) o).push (.lst [P1, P2]) = Bm (.lst [P1, P2] :: rL R) o := Bm_push _ _ _
  have hs : (Bm (rL R) o).sz = t + 2 := by show (rL R).length + 1 = _; rw [rL_length, hR]
  have hg : (Bm (.lst [P1, P2] :: rL R) o').get (t + 2) = some (.lst [P1, P2]) := Bm_high _ _ (by rw [List.reverse_cons, List.getElem?_append_right (by simp [rL_length, hR])]; simp [rL_length, hR])
  have key : ∀ (a b : Nat), a < t → b < t → [P1, P2][d]? = some (.tup [.int a, .int b]) → wStep R x y d = wRow R a b → ∃ a5' o', BX o' ∧ evSs (run fs (k + 1)) wTurn [some (.ref 0), some (.int t), some (.ref (t + 1)), some (.int x), some (.int y), a5, a6] (Bm (rL R) o) =
      .ok (.next [some (.ref 0), some (.int t), some (.ref (t + 1)), some (.int x), some (.int y), a5', a6]) (Bm (rL (wStep R x y d)) o') := by
    intro a b ha hb hp hw
    refine ⟨some (.tup [.int a, .int b]), o', ho', ?_⟩
    rw [hw]
    have ix : ixM (.ref (t + 2)) (.int d) (Bm (.lst [P1, P2] :: rL R) o') = .ok (.tup [.int a, .int b]) (Bm (.lst [P1, P2] :: rL R) o') := by
      have hi : ixOf 2 (d : Int) = some d := ixOf_nat hd
      simp only [ixM, Mem.lst?, hg, List.length_cons, List.length_nil, Nat.zero_add, Nat.reduceAdd, hi, Option.bind_some, hp]
    have t1 : trimV (Bm (rL R) o) (.tup [.int a, .int b]) (Bm (.lst [P1, P2] :: rL R) o') = .ok (.tup [.int a, .int b]) (Bm (rL R) o') := trimV_Bm1 _ _ _ _ rfl
    have i0 : ∀ M, ixM (.tup [.int a, .int b]) (.int 0) M = .ok (.int a) M := fun M => rfl
    have i1 : ∀ M, ixM (.tup [.int a, .int b]) (.int 1) M = .ok (.int b) M := fun M => rfl
    have ir : ixM (.ref (t + 1)) (.int a) (Bm (rL R) o') = .ok (.ref (a + 1)) (Bm (rL R) o') := by
      have g := rL_all R o'
      rw [hR] at g
      have hi : ixOf (rRefs t).length (a : Int) = some a := ixOf_nat (by simpa [rRefs] using ha)
      simp only [ixM, Mem.lst?, g, hi, Option.bind_some, rRefs_at ha]
    have ga := rL_row (R := R) (i := a) (by omega) o'
    have la : ((R.getD a []).map PV.int).length < LIM := by
      have : R.getD a [] ∈ R := by
        rw [List.getD_eq_getElem?_getD, List.getElem?_eq_getElem (by omega)]; exact List.getElem_mem _
      have := hl _ this
      simp [LIM] at *; omega
    have ap : methM .append (.ref (a + 1)) [.int b] (Bm (rL R) o') = .ok .non (Bm (rL (wRow R a b)) o') := by
      have pu := rL_put (R := R) (i := a) (by omega) b o'
      simp only [rO] at ga
      simp only [methM, ga]
      rw [if_pos la]
      show Res.ok PV.non ((Bm (rL R) o').put (a + 1) _ 0) = _
      rw [pu]
    have rv : recvOk .append (.ref (a + 1)) (Bm (rL R) o') = true := by simp [recvOk, ga]
    have t2 : trimV (Bm (rL R) o') .non (Bm (rL (wRow R a b)) o') = .ok .non (Bm (rL (wRow R a b)) o') := trimV_sz _ (by show (rL _).length + 1 = (rL _).length + 1; rw [rL_length, rL_length, wRow_length])
    have L2 : (2 : Nat) ≤ LIM := by decide
    have p1 : PV.tup [.int x, .int y] = P1 := rfl
    have p2 : PV.tup [.int y, .int x] = P2 := rfl
    clear_value P1 P2
    simp [wTurn, L2, p1, p2, ps, hs, e, ix, t1, i0, i1, ir, rv, ap, t2]
  obtain rfl | rfl : d = 0 ∨ d = 1 := by omega
  · obtain ⟨a, b, q1, q2⟩ := key x y hx hy rfl rfl
    exact ⟨0, a, b, by decide, q1, q2⟩
  · obtain ⟨a, b, q1, q2⟩ := key y x hy hx rfl rfl
    exact ⟨1, a, b, by decide, q1, q2⟩
end Lw
end
section
set_option Elab.async false
set_option linter.all false
set_option maxRecDepth 100000
set_option maxHeartbeats 1000000
namespace Mn
theorem trimV_keep {M0 M : Mem} {r : Nat} {xs : List PV} (hg : M.get r = some (.lst xs)) (hx : ¬ xs.all (PV.bnd M0.sz) = true) (hr : M0.sz ≤ r) : trimV M0 (.ref r) M = .ok (.ref r) M := by
  have hv : ¬ (PV.ref r).bnd M0.sz = true := by simp; omega
  unfold trimV
  split
  · rfl
  · split
    · simp only [hg]
      rw [if_neg hx]
    · rfl
end Mn
namespace Lw
open PySem Mn
def webV (W : List (List Int)) : PV := .tup (W.map tV)
theorem pure_w (b : Nat) (W : List (List Int)) : (webV W).bnd b = true := by
  unfold webV
  rw [bnd_tup, List.all_eq_true]
  intro u hu; obtain ⟨w, _, rfl⟩ := List.mem_map.mp hu; exact pure_t b w
theorem wRow_len {R : List (List Int)} {n : Nat} (h : ∀ r ∈ R, r.length ≤ n) (i v : Nat) : ∀ r ∈ wRow R i v, r.length ≤ n + 1 := by
  intro r hr
  rcases List.mem_or_eq_of_mem_set hr with hr | rfl
  · exact Nat.le_succ_of_le (h r hr)
  · rw [List.length_append, List.length_singleton, List.getD_eq_getElem?_getD]
    cases e : R[i]? with
    | none => simp
    | some r => have := h r (List.mem_of_getElem? e); simp; omega
theorem wStep_len {R : List (List Int)} {n : Nat} (h : ∀ r ∈ R, r.length ≤ n) (x y d : Nat) : ∀ r ∈ wStep R x y d, r.length ≤ n + 1 := by
  unfold wStep; split <;> exact wRow_len h _ _
theorem rangeL_0 (t : Nat) : rangeL 0 (t : Int) = (List.range t).map fun (k : Nat) => .int (k : Int) := by
  simp only [rangeL, Int.sub_zero, Int.toNat_natCast]
  exact List.map_congr_left fun k _ => by rw [Int.zero_add]
theorem rangeL_at {a b j : Nat} {v : PV} (h : (rangeL (a : Int) (b : Int))[j]? = some v) : v = .int ((a + j : Nat) : Int) ∧ a + j < b := by
  unfold rangeL at h
  rw [List.getElem?_map] at h
  cases e : (List.range ((b : Int) - (a : Int)).toNat)[j]? with
  | none => rw [e] at h; cases h
  | some i =>
    rw [e] at h
    have hl := (List.getElem?_eq_some_iff.mp e).1
    rw [List.length_range] at hl
    rw [List.getElem?_range hl] at e
    cases e
    cases h
    exact ⟨by simp, by omega⟩
theorem rangeL_len (a b : Nat) : (rangeL (a : Int) (b : Int)).length = b - a := by simp [rangeL]
/-- the inner loop -/
theorem web_in {fs : List (Nat × Fn)} (h5 : fs.lookup 5 = some fn5) (k : Nat) {t x : Nat} (hx : x < t) (ht : t ≤ 5) {R : List (List Int)} (hr : R ∈ rchs t (prs t x)) (hR : R.length = t) (hl : ∀ r ∈ R, r.length ≤ (prs t x).length) (hp : (prs t x).length + (t - (x + 1)) ≤ 19) {o : MObj} (ho : BX o) (a4 a5 a6 : Option PV) :
    ∃ R' a4' a5' o', R' ∈ rchs t (prs t (x + 1)) ∧ R'.length = t ∧ (∀ r ∈ R', r.length ≤ (prs t (x + 1)).length) ∧ BX o' ∧
      forItems (.name 4) (evSs (run fs (k + 1)) wTurn) (rangeL ((x + 1 : Nat) : Int) (t : Int)) [some (.ref 0), some (.int t), some (.ref (t + 1)), some (.int x), a4, a5, a6] (Bm (rL R) o) =
      .ok (.next [some (.ref 0), some (.int t), some (.ref (t + 1)), some (.int x), a4', a5', a6]) (Bm (rL R') o') := by
  obtain ⟨σ', M', e, R', a4', a5', o', q1, q2, q3, q4, rfl, rfl⟩ := for_ix (g := .name 4) (body := evSs (run fs (k + 1)) wTurn)
    (fun j σ M => ∃ R' a4' a5' o', R' ∈ rchs t (prs t x ++ (List.range' (x + 1) j).map fun b => (x, b)) ∧ R'.length = t ∧ (∀ r ∈ R', r.length ≤ (prs t x).length + j) ∧ BX o' ∧ σ = [some (.ref 0), some (.int t), some (.ref (t + 1)), some (.int x), a4', a5', a6] ∧ M = Bm (rL R') o')
    (rangeL ((x + 1 : Nat) : Int) (t : Int)) 0 [some (.ref 0), some (.int t), some (.ref (t + 1)), some (.int x), a4, a5, a6] (Bm (rL R) o) ⟨R, a4, a5, o, by simpa using hr, hR, by simpa using hl, ho, rfl, rfl⟩ (by
      rintro j v hv σ M ⟨R', a4', a5', o', q1, q2, q3, q4, rfl, rfl⟩
      rw [Nat.zero_add] at q1 q3
      obtain ⟨rfl, hj⟩ := rangeL_at hv
      refine ⟨_, rfl, ?_⟩
      obtain ⟨d, a5'', o'', hd, ho'', e⟩ := web_turn h5 k hx hj ht q2 (fun r hr => by have := q3 r hr; omega) q4 a5' a6
      refine ⟨_, _, e, wStep R' x (x + 1 + j) d, _, _, o'', ?_, by rw [wStep_length, q2], ?_, ho'', rfl, rfl⟩
      · rw [Nat.zero_add, List.range'_concat, List.map_append, ← List.append_assoc, List.map_singleton, Nat.one_mul]
        exact rchs_snoc q1 _ _ hd
      · have := wStep_len q3 x (x + 1 + j) d
        rw [Nat.zero_add]; exact this)
  rw [Nat.zero_add, rangeL_len] at q1 q3
  refine ⟨R', a4', a5', o', by rw [prs_succ]; exact q1, q2, ?_, q4, e⟩
  intro r hr
  have := q3 r hr
  rw [prs_succ]; simp; omega
theorem prs_len : ∀ t ∈ [2, 3, 4, 5], ∀ x, x < t → (prs t x).length + (t - (x + 1)) ≤ 19 := by decide
theorem web_ok_facts {t : Nat} {W : List (List Int)} (h : webOk t W = true) : W.length = t ∧ (∀ x, x < t → W.getD x [] = (iota t).filter fun y => (W.getD x []).contains y) ∧ (∀ x, x < t → (W.getD x []).contains (x : Int) = false) ∧ ∀ x y, x < t → y < t → x ≠ y → ((W.getD x []).contains (y : Int)) = !((W.getD y []).contains (x : Int)) := by
  simp only [webOk, Bool.and_eq_true, List.all_eq_true, List.mem_range, beq_iff_eq, Bool.or_eq_true, bne_iff_ne, ne_eq, Bool.not_eq_true'] at h
  obtain ⟨⟨⟨h1, h2⟩, h3⟩, h4⟩ := h
  refine ⟨h1, h2, h3, fun x y hx hy hxy => ?_⟩
  rcases h4 x hx y hy with h | h
  · exact absurd h hxy
  · cases e1 : (W.getD x []).contains (y : Int) <;> cases e2 : (W.getD y []).contains (x : Int) <;> (rw [e1, e2] at h; first | rfl | exact absurd rfl h)
theorem web_sorted {t : Nat} {W : List (List Int)} (h : webOk t W = true) : ∀ r ∈ W, r.Pairwise (· < ·) := by
  obtain ⟨h1, h2, _⟩ := web_ok_facts h
  intro r hr
  obtain ⟨i, hi, rfl⟩ := List.mem_iff_getElem.mp hr
  have := h2 i (by omega)
  rw [List.getD_eq_getElem?_getD, List.getElem?_eq_getElem hi] at this
  simp only [Option.getD_some] at this
  rw [this]
  exact (iota_sorted t).sublist List.filter_sublist
theorem b423_eq : b423 = (.cons (.asg 2 (.lc [3] (.name 3) (.range1 (.var 1)) .none (.lst .nil)))
    (.cons (.for_ (.name 3) (.range1 (.var 1)) (.cons (.for_ (.name 4) (.range2 (.bin .Add (.var 3) (.int 1)) (.var 1)) wTurn) .nil))
    (.cons (.ret (.bcall .tuple (.cons (.lc [6] (.name 6) (.seq (.var 2)) .none (.bcall .tuple (.cons (.bcall .sorted (.cons (.var 6) .nil)) .nil))) .nil)))
    .nil))) := rfl
/-- a drawn web -/
theorem web_dr {fs : List (Nat × Fn)} (h5 : fs.lookup 5 = some fn5) {f : Nat} (hf : fs.lookup f = some fn423) (k : Nat) {t : Nat} (ht : t ∈ [2, 3, 4, 5]) :
    Dr (run fs (k + 2)) f [.int t] fun v => ∃ W, webOk t W = true ∧ v = webV W := by
  intro o ho
  have t5 : t ≤ 5 := by simp at ht; omega
  have t1 : 2 ≤ t := by simp at ht; omega
  -- the empty rows
  let os : List (List PV) := List.replicate t []
  have lc : lcItems [3] (.name 3) none (evE (run fs (k + 1)) (.lst .nil)) [some (.ref 0), some (.int t), none, none, none, none, none] (rangeL 0 t) [] (Bm [] o) = .ok (rRefs t) (pushes (Bm [] o) os) := by
    have := lcI_new (own := [3]) (g := .name 3) (elt := evE (run fs (k + 1)) (.lst .nil)) (σ := [some (.ref 0), some (.int t), none, none, none, none, none]) (rangeL 0 (t : Int)) os [] (Bm [] o) (by rw [rangeL_0]; simp [LIM]; omega) (by rw [rangeL_0]; simp [os]) (by
      intro i x ys hx hy
      have : ys = [] := by
        rw [List.getElem?_replicate] at hy; split at hy <;> simp_all
      subst this
      refine ⟨_, rfl, fun M => ?_⟩
      have tn := trimV_new (M0 := M) (M := M.push (.lst [])) (n := M.sz) (by simp [push_sz]) rfl (Nat.le_refl _) (push_get _ _) (by simp)
      have z : (0 : Nat) ≤ LIM := by decide
      rw [push_cut] at tn
      simp [z, tn])
    rw [List.nil_append, rangeL_0, List.length_map, List.length_range] at this
    rw [rangeL_0]; exact this
  have rp : (pushes (Bm [] o) os).push (.lst (rRefs t)) = Bm (rL (List.replicate t [])) o := by
    rw [pushes_Bm, Bm_push]
    simp [rL, os, rO]
  have tk : trimV (Bm [] o) (.ref (t + 1)) (Bm (rL (List.replicate t [])) o) = .ok (.ref (t + 1)) (Bm (rL (List.replicate t [])) o) := by
    have g := rL_all (List.replicate t []) o
    rw [List.length_replicate] at g
    refine trimV_keep (M0 := Bm [] o) (M := Bm (rL (List.replicate t [])) o) g ?_ (by show 1 ≤ t + 1; omega)
    intro hall
    rw [List.all_eq_true] at hall
    have := hall (.ref 1) (List.mem_of_getElem? (rRefs_at (t := t) (i := 0) (by omega)))
    simp at this
    exact absurd this (by show ¬ 1 < 1; decide)
  -- the loops
  have r0 : List.replicate t ([] : List Int) ∈ rchs t (prs t 0) := by simp [rchs, prs]
  obtain ⟨σ', M', e1, R, a3, a4, a5, o1, q1, q2, q3, ho1, rfl, rfl⟩ := for_ix (g := .name 3) (body := evSs (run fs (k + 1)) (.cons (.for_ (.name 4) (.range2 (.bin .Add (.var 3) (.int 1)) (.var 1)) wTurn) .nil))
    (fun j σ M => ∃ R a3 a4 a5 o', R ∈ rchs t (prs t j) ∧ R.length = t ∧ (∀ r ∈ R, r.length ≤ (prs t j).length) ∧ BX o' ∧ σ = [some (.ref 0), some (.int t), some (.ref (t + 1)), a3, a4, a5, none] ∧ M = Bm (rL R) o')
    (rangeL ((0 : Nat) : Int) (t : Int)) 0 [some (.ref 0), some (.int t), some (.ref (t + 1)), none, none, none, none] (Bm (rL (List.replicate t [])) o) ⟨_, none, none, none, o, r0, by simp, by intro r hr; rw [List.mem_replicate] at hr; rw [hr.2]; simp, ho, rfl, rfl⟩ (by
      rintro j v hv σ M ⟨R, a3, a4, a5, o', q1, q2, q3, q4, rfl, rfl⟩
      rw [Nat.zero_add] at q1 q3
      obtain ⟨rfl, hj⟩ := rangeL_at hv
      rw [Nat.zero_add] at hj
      refine ⟨_, rfl, ?_⟩
      obtain ⟨R', a4', a5', o'', p1, p2, p3, p4, e⟩ := web_in h5 k hj t5 q1 q2 q3 (prs_len t ht j hj) q4 a4 a5 none
      refine ⟨[some (.ref 0), some (.int t), some (.ref (t + 1)), some (.int (j : Int)), a4', a5', none], Bm (rL R') o'', ?_, R', some (.int (j : Int)), a4', a5', o'', by rw [Nat.zero_add]; exact p1, p2, by rw [Nat.zero_add]; exact p3, p4, rfl, rfl⟩
      have add : ∀ M, binM .Add (.int (j : Int)) (.int 1) M = .ok (.int ((j + 1 : Nat) : Int)) M := fun M => rfl
      have i1 : inRange ((j + 1 : Nat) : Int) = true := inR (by omega)
      have i2 : inRange (t : Int) = true := inR (by omega)
      rw [Nat.zero_add]
      simp [add, intR, i1, i2, e, -Int.natCast_add])
  rw [Nat.zero_add, rangeL_len, Nat.sub_zero] at q1 q3
  have wk := webs_ok t ht R q1
  have ws := web_sorted wk
  refine ⟨webV R, o1, ho1, ⟨R, wk, rfl⟩, pure_w 0 R, ?_⟩
  -- the tuple of rows
  have gR := rL_all R o1
  rw [q2] at gR
  have sR : srcSeq (.ref (t + 1)) (Bm (rL R) o1) = some (.at1 (t + 1) false) := by simp [srcSeq, Mem.lst?, gR]
  have lR : srcLen (.at1 (t + 1) false) (Bm (rL R) o1) = t := by simp [srcLen, Mem.lst?, gR, rRefs]
  have lc2 : lcSrc [6] (.name 6) none (evE (run fs (k + 1)) (.bcall .tuple (.cons (.bcall .sorted (.cons (.var 6) .nil)) .nil))) [some (.ref 0), some (.int t), some (.ref (t + 1)), a3, a4, a5, none] (.at1 (t + 1) false) (t + 1) 0 [] (Bm (rL R) o1) = .ok ([] ++ R.map tV) (Bm (rL R) o1) := by
    refine lcS_items (xs := rRefs t) (fun i => by simp [srcAt, Mem.lst?, gR]) t 0 (t + 1) _ _ (by simp [rRefs]) (by omega) (by omega) (by simp [LIM]; omega) (by simp [q2]) fun j u v acc hu hv ha => ?_
    rw [Nat.zero_add] at hu
    have hj : j < t := by
      have := (List.getElem?_eq_some_iff.mp hu).1
      simpa [rRefs] using this
    rw [rRefs_at hj] at hu
    cases hu
    rw [List.getElem?_map, List.getElem?_eq_getElem (by omega)] at hv
    cases hv
    have gj := rL_row (R := R) (i := j) (by omega) o1
    have ej : R.getD j [] = R[j]'(by omega) := by rw [List.getD_eq_getElem?_getD, List.getElem?_eq_getElem (by omega)]; rfl
    rw [ej] at gj
    have so := isort_of (ws _ (List.getElem_mem (l := R) (n := j) (by omega)))
    generalize R[j]'(by omega) = r at *
    let M1 := (Bm (rL R) o1).push (.lst (r.map PV.int))
    have srt : bcallM .sorted [.ref (j + 1)] (Bm (rL R) o1) = .ok (.ref (Bm (rL R) o1).sz) M1 := by
      simp [bcallM, Mem.lst?, gj, rO, ints_some, so, M1]
    have tp : bcallM .tuple [.ref (Bm (rL R) o1).sz] M1 = .ok (tV r) M1 := by
      have : M1.get (Bm (rL R) o1).sz = some (.lst (r.map PV.int)) := push_get _ _
      simp [bcallM, seq?, Mem.lst?, this, tV]
    have t1 : trimV (Bm (rL R) o1) (.ref (Bm (rL R) o1).sz) M1 = .ok (.ref (Bm (rL R) o1).sz) M1 := by
      have tn := trimV_new (M0 := Bm (rL R) o1) (M := M1) (n := (Bm (rL R) o1).sz) (by simp [M1, push_sz]) rfl (Nat.le_refl _) (push_get _ _) (all_ints _ _)
      rw [push_cut] at tn
      exact tn
    have t2 : trimV (Bm (rL R) o1) (tV r) M1 = .ok (tV r) (Bm (rL R) o1) := by
      have := trimV_cut (M0 := Bm (rL R) o1) (M := M1) (v := tV r) (by simp [M1, push_sz]) rfl (pure_t _ r)
      rw [push_cut] at this
      exact this
    clear_value M1
    rw [lcT_none]
    simp [srt, tp, t1, t2, ha]
  rw [List.nil_append] at lc2
  rw [run_at hf _ _ _ rfl]
  show endOf _ (evSs _ b423 _ _) = _
  rw [b423_eq]
  have E0 : (⟨1, [o], 0⟩ : Mem) = Bm [] o := rfl
  have st : startσ fn423.nn [.ref 0, .int t] = [some (.ref 0), some (.int t), none, none, none, none, none] := rfl
  have i2 : inRange (t : Int) = true := inR (by omega)
  have e1' : forItems (.name 3) (evSs (run fs (k + 1)) (.cons (.for_ (.name 4) (.range2 (.bin .Add (.var 3) (.int 1)) (.var 1)) wTurn) .nil)) (rangeL 0 (t : Int)) [some (.ref 0), some (.int t), some (.ref (t + 1)), none, none, none, none] (Bm (rL (List.replicate t [])) o) = _ := e1
  have sz1 : (pushes (Bm [] o) os).sz = t + 1 := by rw [pushes_sz]; simp [os, Bm]; omega
  let L3 := MObj.lst (R.map tV)
  have ps : (Bm (rL R) o1).push L3 = Bm (L3 :: rL R) o1 := Bm_push _ _ _
  have sz2 : (Bm (rL R) o1).sz = t + 2 := by show (rL R).length + 1 = _; rw [rL_length, q2]
  have g3 : (Bm (L3 :: rL R) o1).get (t + 2) = some L3 := by
    have := push_get (Bm (rL R) o1) L3
    rw [ps, sz2] at this; exact this
  have allT : ∀ b, (R.map tV).all (PV.bnd b) = true := fun b => by
    rw [List.all_eq_true]; intro u hu; obtain ⟨w, _, rfl⟩ := List.mem_map.mp hu; exact pure_t b w
  have t3 : trimV (Bm (rL R) o1) (.ref (t + 2)) (Bm (L3 :: rL R) o1) = .ok (.ref (t + 2)) (Bm (L3 :: rL R) o1) := by
    have := trimV_Bm1r (rL R) o1 o1 (allT _)
    rw [rL_length, q2] at this; exact this
  have tp : bcallM .tuple [.ref (t + 2)] (Bm (L3 :: rL R) o1) = .ok (webV R) (Bm (L3 :: rL R) o1) := by
    simp [bcallM, seq?, Mem.lst?, g3, L3, webV]
  have t4 : trimV (Bm (rL R) o1) (webV R) (Bm (L3 :: rL R) o1) = .ok (webV R) (Bm (rL R) o1) := trimV_Bm1 _ _ _ _ (pure_w _ R)
  have t5' : trimV (Bm [] o) (webV R) (Bm (rL R) o1) = .ok (webV R) ⟨1, [o1], 0⟩ := trimV_low (o := o) (pure_w _ R)
  have L3e : MObj.lst (R.map tV) = L3 := rfl
  rw [st, E0]
  clear_value L3 os
  simp [intR, i2, lc, rp, sz1, tk, e1', sR, lR, optR, lc2, L3e, ps, sz2, t3, tp, t4, t5']
end Lw
end
section
set_option Elab.async false
set_option linter.all false
set_option maxRecDepth 100000
set_option maxHeartbeats 1000000
namespace Lw
open PySem Mn
def oths (t : Nat) (x y : Int) : List Int := (iota t).filter fun z => !decide (z ∈ [x, y])
def two (t : Nat) (x y : Int) : List (List Int) := [[x, y] ++ oths t x y, (oths t x y).reverse ++ [x, y]]
def crwd (t : Nat) (W : List (List Int)) (n : Nat) : List (List Int) := (List.range n).flatMap fun (a : Nat) => (W.getD a []).flatMap fun y => two t a y
theorem crwd_succ (t : Nat) (W : List (List Int)) (n : Nat) : crwd t W (n + 1) = crwd t W n ++ (W.getD n []).flatMap fun y => two t n y := by
  unfold crwd; rw [List.range_succ, List.flatMap_append]; simp
theorem oths_len (t : Nat) (x y : Int) : (oths t x y).length ≤ t := by
  have := List.length_filter_le (fun z => !decide (z ∈ [x, y])) (iota t)
  rw [iota_length] at this; exact this
theorem enum_at : ∀ (xs : List PV) (i j : Nat) {v : PV}, (enumL i xs)[j]? = some v → ∃ x, xs[j]? = some x ∧ v = .tup [.int ((i + j : Nat) : Int), x]
  | [], i, j, v, h => by cases h
  | x :: xs, i, 0, v, h => by cases h; exact ⟨x, rfl, rfl⟩
  | x :: xs, i, j + 1, v, h => by
    obtain ⟨y, h1, h2⟩ := enum_at xs (i + 1) j (v := v) (by simpa [enumL] using h)
    exact ⟨y, by simpa using h1, by rw [h2, show i + 1 + j = i + (j + 1) by omega]⟩
theorem enum_len : ∀ (xs : List PV) (i : Nat), (enumL i xs).length = xs.length
  | [], _ => rfl
  | x :: xs, i => by simp [enumL, enum_len xs]
theorem flat2_len {α : Type} (f : α → List (List Int)) (h : ∀ a, (f a).length = 2) : ∀ l : List α, (l.flatMap f).length = 2 * l.length
  | [] => rfl
  | a :: l => by rw [List.flatMap_cons, List.length_append, h, flat2_len f h l, List.length_cons]; omega
theorem row_len {t : Nat} {W : List (List Int)} (h : webOk t W = true) {x : Nat} (hx : x < t) : (W.getD x []).length ≤ t := by
  rw [(web_ok_facts h).2.1 x hx]
  have := List.length_filter_le (fun y => (W.getD x []).contains y) (iota t)
  rw [iota_length] at this; exact this
theorem crwd_len {t : Nat} {W : List (List Int)} (h : webOk t W = true) : ∀ n, n ≤ t → (crwd t W n).length ≤ 2 * t * n
  | 0, _ => by simp [crwd]
  | n + 1, hn => by
    rw [crwd_succ, List.length_append, flat2_len _ (fun _ => rfl)]
    have := crwd_len h n (by omega)
    have := row_len h (x := n) (by omega)
    rw [Nat.mul_succ]; omega
/-- the program's turn -/
def cTurn : MSs := (.cons (.asg 5 (.lc [6] (.name 6) (.range1 (.bcall .len (.cons (.var 0) .nil))) (.some (.cmp .NotIn (.var 6) (.tup (.cons (.var 2) (.cons (.var 4) .nil))))) (.var 6)))
        (.cons (.expr (.meth .append (.var 1) (.cons (.bin .Add (.tup (.cons (.var 2) (.cons (.var 4) .nil))) (.bcall .tuple (.cons (.var 5) .nil))) .nil)))
        (.cons (.expr (.meth .append (.var 1) (.cons (.bin .Add (.bcall .tupRev (.cons (.var 5) .nil)) (.tup (.cons (.var 2) (.cons (.var 4) .nil)))) .nil)))
        .nil)))
theorem crowd_turn (cf : CF) {t : Nat} (ht : t ≤ 5) {W : List (List Int)} (hW : W.length = t) (x : Nat) (y : Int) (row : PV) {F : List (List Int)} (hF : F.length ≤ 1000) (T : List MObj) (a5 : Option PV) :
    ∃ T' a5', evSs cf cTurn [some (webV W), some (.ref 0), some (.int x), some row, some (.int y), a5, none] (Bm T (.lst (F.map tV))) =
      .ok (.next [some (webV W), some (.ref 0), some (.int x), some row, some (.int y), a5', none]) (Bm T' (.lst ((F ++ two t x y).map tV))) := by
  let O := oths t x y
  have hO : O.length ≤ 5 := Nat.le_trans (oths_len t x y) ht
  let o : MObj := .lst (F.map tV)
  have lc : lcItems [6] (.name 6) (some (evE cf (.cmp .NotIn (.var 6) (.tup (.cons (.var 2) (.cons (.var 4) .nil)))))) (evE cf (.var 6)) [some (webV W), some (.ref 0), some (.int x), some row, some (.int y), a5, none] (rangeL 0 t) [] (Bm T o) = .ok (O.map PV.int) (Bm T o) := by
    have := lcI_filter (own := [6]) (g := .name 6) (c := evE cf (.cmp .NotIn (.var 6) (.tup (.cons (.var 2) (.cons (.var 4) .nil))))) (elt := evE cf (.var 6)) (σ := [some (webV W), some (.ref 0), some (.int x), some row, some (.int y), a5, none]) (M := Bm T o) PV.int (fun z => !decide (z ∈ [(x : Int), y])) PV.int (iota t) [] (by rw [iota_length]; simp only [List.length_nil, LIM]; omega) (by
      intro z hz
      refine ⟨[some (webV W), some (.ref 0), some (.int x), some row, some (.int y), a5, some (.int z)], by simp, ?_, fun _ => by simp⟩
      have L2 : (2 : Nat) ≤ LIM := by decide
      have ni := notin_ints z [(x : Int), y] (Bm T o)
      simp only [List.map_cons, List.map_nil] at ni
      simp [L2, ni, truth])
    rw [List.nil_append] at this
    rw [rangeL_0]
    have e : (iota t).map PV.int = (List.range t).map fun (k : Nat) => .int (k : Int) := by simp [iota, List.map_map]
    rw [e] at this
    exact this
  let l1 := [(x : Int), y] ++ O
  let l2 := O.reverse ++ [(x : Int), y]
  have lenW : ∀ M, bcallM .len [webV W] M = .ok (.int (t : Nat)) M := fun M => by simp [bcallM, seq?, webV, hW]
  have i2 : inRange (t : Int) = true := inR (by omega)
  let L1 := MObj.lst (O.map PV.int) :: T
  have ps : (Bm T o).push (.lst (O.map PV.int)) = Bm L1 o := Bm_push _ _ _
  have sz1 : (Bm T o).sz = T.length + 1 := rfl
  have t1 : trimV (Bm T o) (.ref (T.length + 1)) (Bm L1 o) = .ok (.ref (T.length + 1)) (Bm L1 o) := trimV_Bm1r T o o (all_ints O _)
  have gO : ∀ o, (Bm L1 o).get (T.length + 1) = some (.lst (O.map PV.int)) := fun o => Bm_high _ _ (by simp [L1])
  have tp : ∀ o, bcallM .tuple [.ref (T.length + 1)] (Bm L1 o) = .ok (tV O) (Bm L1 o) := fun o => by simp [bcallM, seq?, Mem.lst?, gO, tV]
  have tr : ∀ o, bcallM .tupRev [.ref (T.length + 1)] (Bm L1 o) = .ok (tV O.reverse) (Bm L1 o) := fun o => by simp [bcallM, Mem.lst?, gO, tV]
  have L2 : (2 : Nat) ≤ LIM := by decide
  have a1 : ∀ M, binM .Add (.tup [.int x, .int y]) (tV O) M = .ok (tV l1) M := fun M => by
    have : 2 + O.length ≤ LIM := by simp only [LIM]; omega
    simp [binM, tV, l1, this]
  have a2 : ∀ M, binM .Add (tV O.reverse) (.tup [.int x, .int y]) M = .ok (tV l2) M := fun M => by
    have : O.length + 2 ≤ LIM := by simp only [LIM]; omega
    simp [binM, tV, l2, this]
  have ap : ∀ (F : List (List Int)) (l : List Int), F.length ≤ 2000 → methM .append (.ref 0) [tV l] (Bm L1 (.lst (F.map tV))) = .ok .non (Bm L1 (.lst ((F ++ [l]).map tV))) := fun F l hF => by
    have pl : (tV l).pure = true := pure_t 0 l
    have hl : F.length < LIM := by simp only [LIM]; omega
    simp [methM, Bm_get, hl, pl, Bm_put]
  have rv : ∀ o, recvOk .append (.ref 0) (Bm L1 o) = true := fun o => by simp [recvOk, Bm_get]
  have p1 := ap F l1 (by omega)
  have p2 := ap (F ++ [l1]) l2 (by simp; omega)
  refine ⟨L1, some (.ref (T.length + 1)), ?_⟩
  have e2 : (F ++ two t x y).map tV = (F ++ [l1] ++ [l2]).map tV := by simp [two, l1, l2, O]
  rw [e2]
  have oe : MObj.lst (F.map tV) = o := rfl
  rw [oe] at p1
  rw [oe]
  generalize (F ++ [l1]).map tV = Z1 at *
  generalize (F ++ [l1] ++ [l2]).map tV = Z2 at *
  clear_value L1 O l1 l2 o
  simp [cTurn, lenW, intR, i2, lc, ps, sz1, t1, tp, tr, L2, a1, a2, rv, p1, p2]
end Lw
end
section
set_option Elab.async false
set_option linter.all false
set_option maxRecDepth 100000
set_option maxHeartbeats 1000000
namespace Lw
open PySem Mn
theorem b436_eq : b436 = (.cons (.asg 1 (.lst .nil))
    (.cons (.for_ (.tup (.cons (.name 2) (.cons (.name 3) .nil))) (.enum (.var 0)) (.cons (.for_ (.name 4) (.seq (.var 3)) cTurn) .nil))
    (.cons (.ret (.bcall .tuple (.cons (.var 1) .nil)))
    .nil))) := rfl
theorem crowd_ok {fs : List (Nat × Fn)} {f : Nat} (hf : fs.lookup f = some fn436) (k : Nat) {t : Nat} (ht : t ≤ 5) {W : List (List Int)} (hW : webOk t W = true) :
    run fs (k + 1) f [webV W] Mem.emp = .ok (webV (crwd t W t)) Mem.emp := by
  have wl := (web_ok_facts hW).1
  obtain ⟨σ', M', e1, T, a2, a3, a4, a5, rfl, rfl⟩ := for_ix (g := .tup (.cons (.name 2) (.cons (.name 3) .nil))) (body := evSs (run fs k) (.cons (.for_ (.name 4) (.seq (.var 3)) cTurn) .nil))
    (fun j σ M => ∃ T a2 a3 a4 a5, σ = [some (webV W), some (.ref 0), a2, a3, a4, a5, none] ∧ M = Bm T (.lst ((crwd t W j).map tV)))
    (enumL 0 (W.map tV)) 0 [some (webV W), some (.ref 0), none, none, none, none, none] (Bm [] (.lst [])) ⟨[], none, none, none, none, rfl, by simp [crwd]⟩ (by
      rintro j v hv σ M ⟨T, a2, a3, a4, a5, rfl, rfl⟩
      rw [Nat.zero_add]
      obtain ⟨u, hu, rfl⟩ := enum_at _ _ _ hv
      rw [List.getElem?_map] at hu
      have hj : j < t := by
        have := (List.getElem?_eq_some_iff.mp hv).1
        rw [enum_len, List.length_map, wl] at this; exact this
      have er : W[j]? = some (W.getD j []) := by rw [List.getD_eq_getElem?_getD, List.getElem?_eq_getElem (by omega)]; rfl
      rw [er] at hu
      cases hu
      have rl := row_len hW hj
      have cl := crwd_len hW j (by omega)
      have cl2 : (crwd t W j).length ≤ 50 := by
        have : 2 * t * j ≤ 2 * 5 * 5 := Nat.mul_le_mul (by omega) (by omega)
        omega
      generalize hr : W.getD j [] = r at *
      refine ⟨[some (webV W), some (.ref 0), some (.int j), some (tV r), a4, a5, none], by rw [Nat.zero_add]; rfl, ?_⟩
      obtain ⟨σ', M', e1, T', a4', a5', rfl, rfl⟩ := for_ix (g := .name 4) (body := evSs (run fs k) cTurn)
        (fun i σ M => ∃ T a4 a5, σ = [some (webV W), some (.ref 0), some (.int j), some (tV r), a4, a5, none] ∧ M = Bm T (.lst ((crwd t W j ++ (r.take i).flatMap fun y => two t j y).map tV)))
        (r.map PV.int) 0 [some (webV W), some (.ref 0), some (.int j), some (tV r), a4, a5, none] (Bm T (.lst ((crwd t W j).map tV))) ⟨T, a4, a5, rfl, by simp⟩ (by
          rintro i v hv σ M ⟨T, a4, a5, rfl, rfl⟩
          rw [Nat.zero_add]
          rw [List.getElem?_map] at hv
          cases ei : r[i]? with
          | none => rw [ei] at hv; cases hv
          | some y =>
            rw [ei] at hv
            cases hv
            have hi := (List.getElem?_eq_some_iff.mp ei).1
            obtain ⟨T', a5', e⟩ := crowd_turn (run fs k) ht wl j y (tV r) (F := crwd t W j ++ (r.take i).flatMap fun y => two t j y) (by
              rw [List.length_append, flat2_len _ (fun _ => rfl), List.length_take]; omega) T a5
            refine ⟨_, rfl, _, _, e, T', some (.int y), a5', rfl, ?_⟩
            rw [List.take_add_one, ei, List.flatMap_append, List.append_assoc]
            simp)
      rw [Nat.zero_add, List.length_map, List.take_length] at *
      refine ⟨_, _, ?_, T', some (.int j), some (tV r), a4', a5', rfl, by rw [crwd_succ, hr]⟩
      have sr : ∀ M, srcSeq (tV r) M = some (.items (r.map PV.int)) := fun M => rfl
      simp [sr, optR, e1])
  rw [Nat.zero_add, enum_len, List.length_map, wl] at e1
  rw [run_at hf _ _ _ rfl]
  show endOf _ (evSs _ b436 _ _) = _
  rw [b436_eq]
  have st : startσ fn436.nn [webV W] = [some (webV W), none, none, none, none, none, none] := rfl
  have se : ∀ M, srcEnum (webV W) M = some (.items (enumL 0 (W.map tV))) := fun M => rfl
  have pe : Mem.emp.push (.lst []) = Bm [] (.lst []) := rfl
  have es : Mem.emp.sz = 0 := rfl
  have t0 : trimV Mem.emp (.ref 0) (Bm [] (.lst [])) = .ok (.ref 0) (Bm [] (.lst [])) := rfl
  have z : (0 : Nat) ≤ LIM := by decide
  let o : MObj := .lst ((crwd t W t).map tV)
  have tp : bcallM .tuple [.ref 0] (Bm T o) = .ok (webV (crwd t W t)) (Bm T o) := by simp [bcallM, seq?, Mem.lst?, Bm_get, o, webV]
  have tE : trimV Mem.emp (webV (crwd t W t)) (Bm T o) = .ok (webV (crwd t W t)) Mem.emp := by
    have := trimV_cut (M0 := Mem.emp) (M := Bm T o) (v := webV (crwd t W t)) (by show ¬ T.length + 1 = 0; omega) rfl (pure_w _ _)
    rw [this]
    simp [Mem.cut, Bm, Mem.emp]
  rw [st]
  simp only [o] at tp tE
  simp [se, pe, es, t0, z, optR, e1, tp, tE]
end Lw
end
section
set_option Elab.async false
set_option linter.all false
set_option maxRecDepth 100000
set_option maxHeartbeats 1000000
namespace Lw
open PySem Mn
theorem iota_succ (j : Nat) : iota (j + 1) = iota j ++ [(j : Int)] := by simp [iota, List.range_succ]
theorem oths_succ (j : Nat) (x y : Int) : oths (j + 1) x y = oths j x y ++ if (j : Int) = x ∨ (j : Int) = y then [] else [(j : Int)] := by
  unfold oths
  rw [iota_succ, List.filter_append]
  congr 1
  by_cases c : (j : Int) = x ∨ (j : Int) = y
  · rw [if_pos c]; simp; omega
  · rw [if_neg c]; simp; omega
def dInner : MSs := (.cons (.ife (.and (.cons (.cmp .NotEq (.var 6) (.var 2)) (.cons (.cmp .NotEq (.var 6) (.var 3)) .nil))) (.cons (.asg 4 (.bin .Add (.var 4) (.tup (.cons (.var 6) .nil))))
              (.cons (.asg 5 (.bin .Add (.tup (.cons (.var 6) .nil)) (.var 5)))
              .nil)) .nil)
            .nil)
def dTurn : MSs := (.cons (.ife (.cmp .In (.var 3) (.ix (.var 0) (.var 2))) (.cons (.asg 4 (.tup (.cons (.var 2) (.cons (.var 3) .nil))))
          (.cons (.asg 5 (.tup .nil))
          (.cons (.for_ (.name 6) (.range1 (.bcall .len (.cons (.var 0) .nil))) dInner)
          (.cons (.asg 1 (.bin .Add (.var 1) (.lst (.cons (.var 4) (.cons (.bin .Add (.var 5) (.tup (.cons (.var 2) (.cons (.var 3) .nil)))) .nil)))))
          .nil)))) .nil)
        .nil)
theorem due_in (cf : CF) {t : Nat} (ht : t ≤ 5) (w r : Option PV) (x y : Nat) (a6 : Option PV) (M : Mem) :
    ∃ a6', forItems (.name 6) (evSs cf dInner) (rangeL 0 (t : Int)) [w, r, some (.int x), some (.int y), some (tV [(x : Int), y]), some (tV []), a6] M =
      .ok (.next [w, r, some (.int x), some (.int y), some (tV ([(x : Int), y] ++ oths t x y)), some (tV (oths t x y).reverse), a6']) M := by
  obtain ⟨σ', M', e, a6', rfl, rfl⟩ := for_ix (g := .name 6) (body := evSs cf dInner)
    (fun j σ M' => ∃ a6', σ = [w, r, some (.int x), some (.int y), some (tV ([(x : Int), y] ++ oths j x y)), some (tV (oths j x y).reverse), a6'] ∧ M' = M)
    (rangeL ((0 : Nat) : Int) (t : Int)) 0 [w, r, some (.int x), some (.int y), some (tV [(x : Int), y]), some (tV []), a6] M ⟨a6, rfl, rfl⟩ (by
      rintro j v hv σ M' ⟨a6, rfl, rfl⟩
      obtain ⟨rfl, hj⟩ := rangeL_at hv
      rw [Nat.zero_add] at *
      refine ⟨_, rfl, ?_⟩
      rw [oths_succ]
      generalize hO : oths j x y = O
      have hl : O.length ≤ j := by rw [← hO]; exact oths_len j x y
      have n1 : ∀ M, cmpM .NotEq (.int (j : Int)) (.int (x : Int)) M = .ok (.bl (!((j : Int) == (x : Int)))) M := ne_ii _ _
      have n2 : ∀ M, cmpM .NotEq (.int (j : Int)) (.int (y : Int)) M = .ok (.bl (!((j : Int) == (y : Int)))) M := ne_ii _ _
      by_cases c1 : (j : Int) = x
      · rw [if_pos (.inl c1), List.append_nil]
        have b1 : ((j : Int) == (x : Int)) = true := by simpa using c1
        rw [b1] at n1
        exact ⟨_, M', by simp [dInner, n1, truth], some (.int j), rfl, rfl⟩
      · have b1 : ((j : Int) == (x : Int)) = false := by simpa using c1
        rw [b1] at n1
        by_cases c2 : (j : Int) = y
        · rw [if_pos (.inr c2), List.append_nil]
          have b2 : ((j : Int) == (y : Int)) = true := by simpa using c2
          rw [b2] at n2
          exact ⟨_, M', by simp [dInner, n1, n2, truth], some (.int j), rfl, rfl⟩
        · rw [if_neg (by simp only [c1, c2, or_self, not_false_eq_true])]
          have b2 : ((j : Int) == (y : Int)) = false := by simpa using c2
          rw [b2] at n2
          have z : (1 : Nat) ≤ LIM := by decide
          have ad : ∀ M, binM .Add (tV ([(x : Int), y] ++ O)) (.tup [.int (j : Int)]) M = .ok (tV ([(x : Int), y] ++ (O ++ [(j : Int)]))) M := fun M => by
            have : O.length + 1 + 1 + 1 ≤ LIM := by simp only [LIM]; omega
            simp [binM, tV, this]
          have ad2 : ∀ M, binM .Add (.tup [.int (j : Int)]) (tV O.reverse) M = .ok (tV (O ++ [(j : Int)]).reverse) M := fun M => by
            have : 1 + O.length ≤ LIM := by simp only [LIM]; omega
            simp [binM, tV, this]
          generalize tV ([(x : Int), y] ++ O) = q1 at *
          generalize tV O.reverse = q2 at *
          generalize tV ([(x : Int), y] ++ (O ++ [(j : Int)])) = q3 at *
          generalize tV (O ++ [(j : Int)]).reverse = q4 at *
          exact ⟨_, M', by simp [dInner, n1, n2, truth, z, ad, ad2], some (.int j), rfl, rfl⟩)
  rw [Nat.zero_add, rangeL_len, Nat.sub_zero] at e
  exact ⟨a6', e⟩
theorem due_turn (cf : CF) {t : Nat} (ht : t ≤ 5) {W : List (List Int)} (hW : webOk t W = true) {x y : Nat} (hx : x < t) {F : List (List Int)} (hF : F.length ≤ 1000) (n : Nat) (M : Mem) (hg : M.get n = some (.lst (F.map tV))) (a4 a5 a6 : Option PV) :
    ∃ n' M' a4' a5' a6', evSs cf dTurn [some (webV W), some (.ref n), some (.int x), some (.int y), a4, a5, a6] M = .ok (.next [some (webV W), some (.ref n'), some (.int x), some (.int y), a4', a5', a6']) M' ∧
      M'.esc = M.esc ∧ (M.Wh → M'.Wh) ∧ M'.get n' = some (.lst ((F ++ if (W.getD x []).contains (y : Int) then two t x y else []).map tV)) := by
  have wl := (web_ok_facts hW).1
  have ix : ∀ M, ixM (webV W) (.int x) M = .ok (tV (W.getD x [])) M := ix_tup (by
    rw [List.getElem?_map, List.getElem?_eq_getElem (by omega), List.getD_eq_getElem?_getD, List.getElem?_eq_getElem (by omega)]; rfl)
  have ci : ∀ M, cmpM .In (.int y) (tV (W.getD x [])) M = .ok (.bl ((W.getD x []).contains (y : Int))) M := fun M => by
    rw [List.contains_eq_mem]; exact in_ints y (W.getD x []) M
  generalize W.getD x [] = r at *
  cases c : r.contains (y : Int) with
  | false =>
    refine ⟨n, M, a4, a5, a6, ?_, rfl, id, by simpa using hg⟩
    rw [c] at ci
    simp [dTurn, ix, ci, truth]
  | true =>
    rw [c] at ci
    obtain ⟨a6', ei⟩ := due_in cf ht (some (webV W)) (some (.ref n)) x y a6 M
    have lenW : ∀ M, bcallM .len [webV W] M = .ok (.int (t : Nat)) M := fun M => by simp [bcallM, seq?, webV, wl]
    have i2 : inRange (t : Int) = true := inR (by omega)
    have L2 : (2 : Nat) ≤ LIM := by decide
    have z : (0 : Nat) ≤ LIM := by decide
    have hO := oths_len t x y
    have a2 : ∀ M, binM .Add (tV (oths t x y).reverse) (tV [(x : Int), y]) M = .ok (tV ((oths t x y).reverse ++ [(x : Int), y])) M := fun M => by
      have : (oths t x y).length + 2 ≤ LIM := by simp only [LIM]; omega
      simp [binM, tV, this]
    have tw : two t x y = [[(x : Int), y] ++ oths t x y, (oths t x y).reverse ++ [(x : Int), y]] := rfl
    generalize hp1 : [(x : Int), y] ++ oths t x y = l1 at *
    generalize hp2 : (oths t x y).reverse ++ [(x : Int), y] = l2 at *
    have e0 : PV.tup [.int x, .int y] = tV [(x : Int), y] := rfl
    have e1 : PV.tup [] = tV [] := rfl
    have hn : n < M.sz := get_lt hg
    let A : MObj := .lst [tV l1, tV l2]
    let Z := F.map tV ++ [tV l1, tV l2]
    have ad : binM .Add (.ref n) (.ref M.sz) (M.push A) = .ok (.ref (M.sz + 1)) ((M.push A).push (.lst Z)) := by
      have g1 : (M.push A).get n = some (.lst (F.map tV)) := by rw [push_get' _ _ hn]; exact hg
      have g2 : (M.push A).get M.sz = some A := push_get _ _
      have hl : F.length + 2 ≤ LIM := by simp only [LIM]; omega
      simp [binM, g1, g2, A, hl, Z, push_sz]
    have za : ∀ b, Z.all (PV.bnd b) = true := fun b => by
      rw [List.all_eq_true]
      intro u hu
      rcases List.mem_append.mp hu with hu | hu
      · obtain ⟨w, _, rfl⟩ := List.mem_map.mp hu; exact pure_t b w
      · simp only [List.mem_cons, List.not_mem_nil, or_false] at hu
        rcases hu with rfl | rfl <;> exact pure_t b _
    have tn := trimV_new (M0 := M) (M := (M.push A).push (.lst Z)) (n := M.sz + 1) (by simp only [push_sz]; omega) rfl (by omega) (push_get (M.push A) _) (za _)
    rw [push2_cut] at tn
    have pA : M.push (.lst [tV l1, tV l2]) = M.push A := rfl
    refine ⟨M.sz, M.push (.lst Z), some (tV l1), some (tV (oths t x y).reverse), a6', ?_, rfl, fun h => by unfold Mem.Wh at *; simp [Mem.push, h], ?_⟩
    rotate_left
    · rw [push_get, tw]; simp [Z]
    · clear_value A Z
      simp [dTurn, ix, ci, truth, L2, z, e0, e1, lenW, intR, i2, ei, a2, pA, ad, tn]
theorem b437_eq : b437 = (.cons (.asg 1 (.lst .nil))
    (.cons (.for_ (.name 2) (.range1 (.bcall .len (.cons (.var 0) .nil))) (.cons (.for_ (.name 3) (.range1 (.bcall .len (.cons (.var 0) .nil))) dTurn) .nil))
    (.cons (.ret (.bcall .tuple (.cons (.var 1) .nil)))
    .nil))) := rfl
def crwF (t : Nat) (r : List Int) (x n : Nat) : List (List Int) := (List.range n).flatMap fun (y : Nat) => if r.contains (y : Int) then two t x y else []
theorem crwF_succ (t : Nat) (r : List Int) (x n : Nat) : crwF t r x (n + 1) = crwF t r x n ++ if r.contains (n : Int) then two t x n else [] := by
  unfold crwF; rw [List.range_succ, List.flatMap_append]; simp
theorem crwF_len (t : Nat) (r : List Int) (x : Nat) : ∀ n, (crwF t r x n).length ≤ 2 * n
  | 0 => by simp [crwF]
  | n + 1 => by
    rw [crwF_succ, List.length_append]
    have := crwF_len t r x n
    split
    · show _ + 2 ≤ _; omega
    · show _ + 0 ≤ _; omega
theorem crwF_all (t : Nat) (r : List Int) (x : Nat) : ∀ n, crwF t r x n = ((iota n).filter fun y => r.contains y).flatMap fun y => two t x y
  | 0 => rfl
  | n + 1 => by
    rw [crwF_succ, crwF_all t r x n, iota_succ, List.filter_append, List.flatMap_append]
    congr 1
    cases e : r.contains (n : Int) <;> simp [List.filter_cons, e, -List.contains_eq_mem]
theorem due_ok {fs : List (Nat × Fn)} {f : Nat} (hf : fs.lookup f = some fn437) (k : Nat) {t : Nat} (ht : t ≤ 5) {W : List (List Int)} (hW : webOk t W = true) :
    run fs (k + 1) f [webV W] Mem.emp = .ok (webV (crwd t W t)) Mem.emp := by
  have wl := (web_ok_facts hW).1
  have lenW : ∀ M, bcallM .len [webV W] M = .ok (.int (t : Nat)) M := fun M => by simp [bcallM, seq?, webV, wl]
  have i2 : inRange (t : Int) = true := inR (by omega)
  obtain ⟨σ', M', e1, n, a2, a3, a4, a5, a6, rfl, es, hg⟩ := for_ix (g := .name 2) (body := evSs (run fs k) (.cons (.for_ (.name 3) (.range1 (.bcall .len (.cons (.var 0) .nil))) dTurn) .nil))
    (fun j σ M => ∃ n a2 a3 a4 a5 a6, σ = [some (webV W), some (.ref n), a2, a3, a4, a5, a6] ∧ (M.esc = 0 ∧ M.Wh) ∧ M.get n = some (.lst ((crwd t W j).map tV)))
    (rangeL ((0 : Nat) : Int) (t : Int)) 0 [some (webV W), some (.ref 0), none, none, none, none, none] ⟨1, [.lst []], 0⟩ ⟨0, none, none, none, none, none, rfl, ⟨rfl, rfl⟩, rfl⟩ (by
      rintro j v hv σ M ⟨n, a2, a3, a4, a5, a6, rfl, es, hg⟩
      obtain ⟨rfl, hj⟩ := rangeL_at hv
      rw [Nat.zero_add] at *
      have cl := crwd_len hW j (by omega)
      have cl2 : (crwd t W j).length ≤ 50 := by
        have : 2 * t * j ≤ 2 * 5 * 5 := Nat.mul_le_mul (by omega) (by omega)
        omega
      refine ⟨[some (webV W), some (.ref n), some (.int j), a3, a4, a5, a6], rfl, ?_⟩
      obtain ⟨σ', M', e1, n', a3', a4', a5', a6', rfl, es', hg'⟩ := for_ix (g := .name 3) (body := evSs (run fs k) dTurn)
        (fun i σ M => ∃ n a3 a4 a5 a6, σ = [some (webV W), some (.ref n), some (.int j), a3, a4, a5, a6] ∧ (M.esc = 0 ∧ M.Wh) ∧ M.get n = some (.lst ((crwd t W j ++ crwF t (W.getD j []) j i).map tV)))
        (rangeL ((0 : Nat) : Int) (t : Int)) 0 [some (webV W), some (.ref n), some (.int j), a3, a4, a5, a6] M ⟨n, a3, a4, a5, a6, rfl, es, by simpa [crwF] using hg⟩ (by
          rintro i v hv σ M ⟨n, a3, a4, a5, a6, rfl, es, hg⟩
          obtain ⟨rfl, hi⟩ := rangeL_at hv
          rw [Nat.zero_add] at *
          have cf := crwF_len t (W.getD j []) j i
          obtain ⟨n', M', a4', a5', a6', e, q1, q2, q3⟩ := due_turn (run fs k) ht hW (y := i) hj (F := crwd t W j ++ crwF t (W.getD j []) j i) (by rw [List.length_append]; omega) n M hg a4 a5 a6
          exact ⟨_, rfl, _, M', e, n', some (.int i), a4', a5', a6', rfl, ⟨by rw [q1, es.1], q2 es.2⟩, by rw [q3, crwF_succ, List.append_assoc]⟩)
      rw [Nat.zero_add, rangeL_len, Nat.sub_zero] at hg'
      refine ⟨[some (webV W), some (.ref n'), some (.int j), a3', a4', a5', a6'], M', ?_, n', some (.int j), a3', a4', a5', a6', rfl, es', ?_⟩
      · have e1' : forItems (.name 3) (evSs (run fs k) dTurn) (rangeL 0 (t : Int)) [some (webV W), some (.ref n), some (.int j), a3, a4, a5, a6] M = _ := e1
        simp [lenW, intR, i2, e1']
      · rw [hg', crwd_succ, crwF_all, ← (web_ok_facts hW).2.1 j hj])
  rw [Nat.zero_add, rangeL_len, Nat.sub_zero] at hg
  rw [run_at hf _ _ _ rfl]
  show endOf _ (evSs _ b437 _ _) = _
  rw [b437_eq]
  have st : startσ fn437.nn [webV W] = [some (webV W), none, none, none, none, none, none] := rfl
  have pe : Mem.emp.push (.lst []) = ⟨1, [.lst []], 0⟩ := rfl
  have ez : Mem.emp.sz = 0 := rfl
  have t0 : trimV Mem.emp (.ref 0) ⟨1, [.lst []], 0⟩ = .ok (.ref 0) ⟨1, [.lst []], 0⟩ := rfl
  have z : (0 : Nat) ≤ LIM := by decide
  have e1' : forItems (.name 2) (evSs (run fs k) (.cons (.for_ (.name 3) (.range1 (.bcall .len (.cons (.var 0) .nil))) dTurn) .nil)) (rangeL 0 (t : Int)) [some (webV W), some (.ref 0), none, none, none, none, none] ⟨1, [.lst []], 0⟩ = _ := e1
  have tp : bcallM .tuple [.ref n] M' = .ok (webV (crwd t W t)) M' := by simp [bcallM, seq?, Mem.lst?, hg, webV]
  have tE : trimV Mem.emp (webV (crwd t W t)) M' = .ok (webV (crwd t W t)) Mem.emp := by
    have hn := get_lt hg
    have := trimV_cut (M0 := Mem.emp) (M := M') (v := webV (crwd t W t)) (by show ¬ M'.sz = 0; omega) es.1 (pure_w _ _)
    rw [this]
    have hw : M'.objs.length = M'.sz := es.2
    have hc : M'.cut 0 = Mem.emp := by
      simp only [Mem.cut, Nat.sub_zero, List.drop_of_length_le (Nat.le_of_eq hw), es.1]; rfl
    exact congrArg _ hc
  rw [st]
  simp [pe, ez, t0, z, lenW, intR, i2, e1', tp, tE]
end Lw
end
section
set_option Elab.async false
set_option linter.all false
set_option maxRecDepth 100000
set_option maxHeartbeats 1000000
namespace Lw
open PySem Mn
theorem ne_str {x : Str} (hx : okS x) (M : Mem) : cmpM .NotEq (.str x) (.str x) M = .ok (.bl false) M := by
  have hs : shallow (.str x) = true := by rw [shallow, PV.dat, List.all_eq_true]; intro c hc; simpa using hx c hc
  simp only [cmpM, eqM, hs, Bool.and_self, if_true, PV.eqv]
  simp
theorem rp_t {o : List Int} (ho : o.length ≤ 10) (hb : ∀ x ∈ o, x.natAbs < 10 ^ 10) : Rp 1 133 (tV o) := by
  refine Rp.tup (d := 0) (n := 11) (m := 10) (fun x hx => ?_) (by simpa using ho)
  obtain ⟨i, hi, rfl⟩ := List.mem_map.mp hx
  exact Rp.int (hb i hi)
theorem rp_w {C : List (List Int)} (hc : C.length ≤ 100) (h : ∀ l ∈ C, l.length ≤ 10 ∧ ∀ x ∈ l, x.natAbs < 10 ^ 10) : Rp 2 13503 (webV C) := by
  refine Rp.tup (d := 1) (n := 133) (m := 100) (fun x hx => ?_) (by simpa using hc)
  obtain ⟨l, hl, rfl⟩ := List.mem_map.mp hx
  exact rp_t (h l hl).1 (h l hl).2
theorem small_iota {t : Nat} (ht : t ≤ 5) {z : Int} (h : z ∈ iota t) : z.natAbs < 10 ^ 10 := by
  obtain ⟨h1, h2⟩ := iota_mem.mp h
  have : z.natAbs < 10 := by omega
  omega
theorem rp_crwd {t : Nat} (ht : t ≤ 5) {W : List (List Int)} (hW : webOk t W = true) : Rp 2 13503 (webV (crwd t W t)) := by
  refine rp_w ?_ fun l hl => ?_
  · have := crwd_len hW t (Nat.le_refl t)
    have : 2 * t * t ≤ 2 * 5 * 5 := Nat.mul_le_mul (by omega) ht
    omega
  · unfold crwd at hl
    obtain ⟨a, ha, hl⟩ := List.mem_flatMap.mp hl
    have ha := List.mem_range.mp ha
    obtain ⟨y, hy, hl⟩ := List.mem_flatMap.mp hl
    rw [(web_ok_facts hW).2.1 a ha] at hy
    have hy := small_iota ht (List.mem_filter.mp hy).1
    have hx : ((a : Int)).natAbs < 10 ^ 10 := by
      have : ((a : Int)).natAbs < 10 := by omega
      omega
    have ho := oths_len t a y
    have hz : ∀ z ∈ oths t a y, z.natAbs < 10 ^ 10 := fun z hz => small_iota ht (List.mem_filter.mp hz).1
    simp only [two, List.mem_cons, List.not_mem_nil, or_false] at hl
    rcases hl with rfl | rfl
    · refine ⟨by simp; omega, fun z hz' => ?_⟩
      simp only [List.mem_append, List.mem_cons, List.not_mem_nil, or_false] at hz'
      rcases hz' with (rfl | rfl) | h
      · exact hx
      · exact hy
      · exact hz z h
    · refine ⟨by simp; omega, fun z hz' => ?_⟩
      simp only [List.mem_append, List.mem_cons, List.not_mem_nil, or_false, List.mem_reverse] at hz'
      rcases hz' with h | (rfl | rfl)
      · exact hz z h
      · exact hx
      · exact hy
/-- given + given[:1] -/
theorem add_first {cf : CF} {ns : List Int} {M2 : Mem} {S : List PV} (hD : Drw ns M2 S) (hS : S.length ≤ 100) (hP : ∀ x ∈ S, ∀ b, x.bnd b = true) {σ : St} (hσ : σ[1]? = some (some (.ref 1))) :
    evE cf (.bin .Add (.var 1) (.sl (.var 1) .none (.some (.int 1)))) σ M2 = .ok (.ref M2.sz) (M2.push (.lst (S ++ cut S none (some 1)))) := by
  have hg := hD.g1
  have h2 := hD.sz
  let Z := S ++ cut S none (some 1)
  have hZ : ∀ x ∈ Z, ∀ b, x.bnd b = true := fun x hx => by
    rcases List.mem_append.mp hx with hx | hx
    · exact hP x hx
    · exact hP x (List.mem_of_mem_drop (List.mem_of_mem_take hx))
  have hZl : Z.length ≤ 200 := by
    have : (cut S none (some 1)).length ≤ S.length := by simp only [cut, List.length_take, List.length_drop]; omega
    simp only [Z, List.length_append]; omega
  let M3 := M2.push (.lst Z)
  have g1 := push_get' M2 (.lst (cut S none (some 1))) (n := 1) (by omega)
  rw [hg] at g1
  have g2 := push_get (M2.push (.lst (cut S none (some 1)))) (.lst Z)
  have za : Z.all (PV.bnd M2.sz) = true := by rw [List.all_eq_true]; exact fun x hx => hZ x hx _
  have t := trimV_new (M0 := M2) (M := (M2.push (.lst (cut S none (some 1)))).push (.lst Z)) (by simp only [push_sz]; omega) rfl (by simp only [push_sz]; omega) g2 za
  rw [push2_cut] at t
  have zl : S.length + (cut S none (some 1)).length ≤ LIM := by
    have := List.length_append (as := S) (bs := cut S none (some 1))
    rw [← this]; exact Nat.le_trans hZl (by decide)
  simp only [push_sz] at t
  simp [slM, Mem.lst?, hg, intR, binM, g1, zl, hσ]
  exact t
def Good (x : PV) : Prop := ∃ t W, t ∈ [2, 3, 4, 5] ∧ webOk t W = true ∧ x = webV W
def bodyL : MSs := (.cons (.asg 4 (.call 4 (.cons (.var 0) (.cons (.var 2) .nil))))
      (.cons (.expr (.meth .append (.var 1) (.cons (.call 423 (.cons (.var 4) (.cons (.bin .Add (.int 2) (.call 5 (.cons (.var 4) (.cons (.int 4) .nil)))) .nil))) .nil)))
      .nil))
theorem turn_ok (ns : List Int) : TurnP (run fs 14) ns bodyL Good [some (.ref 0), some (.ref 1)] 2 := by
  intro M S hD hS i rest hr
  match rest, hr with
  | [r3, r4], _ =>
  obtain ⟨o, ho, e0⟩ := box_c (fs := fs) rfl 13 i hD.g0
  obtain ⟨_, o1, ho1, ⟨d, rfl, hd⟩, _, e1⟩ := (take_n (fs := fs) rfl 13 (w := 4) (by decide) (by decide)).top (by simp) M ho
  have ht : 2 + d ∈ [2, 3, 4, 5] := by simp; omega
  obtain ⟨_, o2, ho2, ⟨W, hW, rfl⟩, _, e2⟩ := (web_dr (fs := fs) rfl (f := 423) rfl 12 ht).top (by simp) M ho1
  have ga : (M.push o2).get 1 = some (.lst S) := (hD.box o2).g1
  have ap := app_c (hD.box o2) hS (x := webV W) (pure_w 0 W)
  have ga0 : (M.push o).get 1 = some (.lst S) := (hD.box o).g1
  have tz : trimV (M.push o) .non ((M.push o2).put 1 (.lst (S ++ [webV W])) 0) = .ok .non ((M.push o2).put 1 (.lst (S ++ [webV W])) 0) := trimV_sz _ rfl
  have add : ∀ M, binM .Add (.int 2) (.int (d : Int)) M = .ok (.int ((2 + d : Nat) : Int)) M := fun M => rfl
  have e1' : callM (run fs 14) 5 [.ref M.sz, .int 4] (M.push o) = .ok (.int (d : Int)) (M.push o1) := e1
  refine ⟨(M.push o2).put 1 (.lst (S ++ [webV W])) 0, webV W, [r3, some (.ref M.sz)], rfl, (hD.box o2).app _, ⟨2 + d, W, ht, hW, rfl⟩, ?_⟩
  show evSs (run fs 14) bodyL [some (.ref 0), some (.ref 1), some (.int i), r3, r4] M = _
  simp [bodyL, e0, e1', add, e2, recvOk, ga, ga0, ap, tz, -Int.natCast_add]
theorem claim (ns : List Int) (hl : ns.length ≤ 63) : ∃ M', run fs 15 438 [.ref 0] (scr ns) = .ok (.bl true) M' := by
  show ∃ M', run fs (14 + 1) 438 [.ref 0] (scr ns) = .ok (.bl true) M'
  rw [run_at (F := fn438) rfl 14 _ _ rfl]
  let many : Nat := max 2 (min ns.length 4)
  let M0 : Mem := scr ns
  let M1 : Mem := M0.push (.lst [])
  obtain ⟨M2, S, a, rest, hD, hS, hG, hr, e⟩ := loop_p (turn_ok ns) many 0 (M := M1) (S := []) ⟨rfl, Nat.le_refl 2, rfl, rfl⟩ (by simp [many]; omega) (by simp) none (List.replicate 2 none) (by simp)
  rw [← rangeL_range] at e
  match rest, hr with
  | [r3, r4], _ =>
  have gb : ∀ x ∈ S, ∀ b, x.bnd b = true := fun x hx b => by
    obtain ⟨t, W, ht, hW, rfl⟩ := hG x hx
    exact pure_w b W
  let Z := S ++ cut S none (some 1)
  have hZ : ∀ x ∈ Z, Good x := fun x hx => by
    rcases List.mem_append.mp hx with hx | hx
    · exact hG x hx
    · exact hG x (List.mem_of_mem_drop (List.mem_of_mem_take hx))
  have ad := add_first (cf := run fs 14) hD (by rw [hS]; simp [many]; omega) gb (σ := [some (.ref 0), some (.ref 1), a, r3, r4]) rfl
  let M3 := M2.push (.lst Z)
  have g3 : M3.get M2.sz = some (.lst Z) := push_get _ _
  obtain ⟨σ', M', e3, a3, rfl, rfl⟩ := for_at (g := .name 3) (body := evSs (run fs 14) (.cons (.ife (.cmp .NotEq (.bcall .repr (.cons (.call 436 (.cons (.var 3) .nil)) .nil)) (.bcall .repr (.cons (.call 437 (.cons (.var 3) .nil)) .nil))) (.cons (.ret (.bl false))
        .nil) .nil)
      .nil)) (n := M2.sz) (xs := Z) (fun j σ M => ∃ a3, σ = [some (.ref 0), some (.ref 1), a, a3, r4] ∧ M = M3) (by rintro j σ M ⟨a3, rfl, rfl⟩; simp [Mem.lst?, g3])
    [some (.ref 0), some (.ref 1), a, r3, r4] M3 ⟨r3, rfl, rfl⟩ (by
      rintro j x hx σ M ⟨a3, rfl, rfl⟩
      obtain ⟨t, W, ht, hW, rfl⟩ := hZ x (List.mem_of_getElem? hx)
      have t5 : t ≤ 5 := by simp at ht; omega
      have c1 := callM_v (crowd_ok (fs := fs) (f := 436) rfl 13 t5 hW) (by simp [pure_w]) (pure_w 0 _)
      have c2 := callM_v (due_ok (fs := fs) (f := 437) rfl 13 t5 hW) (by simp [pure_w]) (pure_w 0 _)
      have rp := rp_crwd t5 hW
      have re := repr_ok rp (by decide) (by decide)
      have ne := ne_str rp.2.2.2
      refine ⟨_, rfl, [some (.ref 0), some (.ref 1), a, some (webV W), r4], M3, ?_, some (webV W), rfl, rfl⟩
      clear_value M3
      generalize webV (crwd t W t) = D at *
      simp [c1, c2, re, ne, truth])
  obtain ⟨Mx, hx⟩ := trimV_blx M0 M3 true
  refine ⟨Mx, ?_⟩
  have t0 : trimV M0 (.ref 1) M1 = .ok (.ref 1) M1 := trimV_ref M0 _
  have c0 : ∀ σ, evE (run fs 14) (.lst .nil) σ M0 = .ok (.ref 1) M1 := fun σ => rfl
  have ln := len_scr ns M1 rfl
  have mn : ∀ M, bcallM .min2 [.int ns.length, .int 4] M = .ok (.int (min ns.length 4 : Nat)) M := fun M => by
    simp only [bcallM]; congr 2; split <;> omega
  have mx : ∀ M, bcallM .max2 [.int 2, .int (min ns.length 4 : Nat)] M = .ok (.int many) M := fun M => by
    simp only [bcallM, many]; congr 2; split <;> omega
  have inr := inR (show many ≤ 1000000 by simp [many]; omega)
  have e2 : forItems (.name 2) (evSs (run fs 14) bodyL) (rangeL 0 many) [some (.ref 0), some (.ref 1), none, none, none] M1 = .ok (.next [some (.ref 0), some (.ref 1), a, r3, r4]) M2 := e
  have sr : srcSeq (.ref M2.sz) M3 = some (.at1 M2.sz false) := by simp [srcSeq, Mem.lst?, g3]
  have ad' : evE (run fs 14) (.bin .Add (.var 1) (.sl (.var 1) .none (.some (.int 1)))) [some (.ref 0), some (.ref 1), a, r3, r4] M2 = .ok (.ref M2.sz) M3 := ad
  simp only [bodyL] at e2
  show endOf M0 (evSs (run fs 14) b438 [some (.ref 0), none, none, none, none] M0) = _
  clear_value many M1 M0 M3
  simp [b438, -xlst, c0, t0, ln, mn, mx, intR, inr, e2, -xbin, ad', sr, optR, e3, hx]
end Lw
end
namespace Lw
open PySem PySem.Spec PyProof.Rows L2 Mn
def topS (i : Nat) : Stmt := PySem.Challenge.pw_saidwish_k53_crowds_told.main.body.getD i (.Pass ⟨0, 0, 0, 0⟩)
def d436 : FD := ⟨436, "crowd_of", topS 1, ["web", "found", "x", "row", "y", "others", "thing"], ["web"], fn436⟩
theorem bi436 : BindsAs d436 := fun _ _ _ _ _ _ us hl => match us, hl with | [_], _ => rfl
def d4 : FD := ⟨4, "_law_box", topS 3, ["_law_script", "_law_k", "_law_cell", "_law_seed"], ["_law_script", "_law_k"], fn4⟩
theorem bi4 : BindsAs d4 := fun _ _ _ _ _ _ us hl => match us, hl with | [_, _], _ => rfl
def d5 : FD := ⟨5, "_law_take", topS 4, ["_law_box_here", "_law_wide", "_law_one", "_law_digit"], ["_law_box_here", "_law_wide"], fn5⟩
theorem bi5 : BindsAs d5 := fun _ _ _ _ _ _ us hl => match us, hl with | [_, _], _ => rfl
def d423 : FD := ⟨423, "_law_web", topS 5, ["_law_box_here", "_law_things", "_law_rows", "_law_x", "_law_y", "_law_pair", "_law_row"], ["_law_box_here", "_law_things"], fn423⟩
theorem bi423 : BindsAs d423 := fun _ _ _ _ _ _ us hl => match us, hl with | [_, _], _ => rfl
def d437 : FD := ⟨437, "_law_due", topS 6, ["_law_web_here", "_law_found", "_law_x", "_law_y", "_law_up", "_law_down", "_law_thing"], ["_law_web_here"], fn437⟩
theorem bi437 : BindsAs d437 := fun _ _ _ _ _ _ us hl => match us, hl with | [_], _ => rfl
def d438 : FD := ⟨438, "law", topS 7, ["_law_script", "_law_webs", "_law_k", "_law_web_here", "_law_box_here"], ["_law_script"], fn438⟩
theorem bi438 : BindsAs d438 := fun _ _ _ _ _ _ us hl => match us, hl with | [_], _ => rfl
def ds : List FD := [d436, d4, d5, d423, d437, d438]
theorem chk : (ds.all fun d => chkD (nms ds) d) = true := by decide +kernel
theorem blts {K : PySem.W.Frag} (h0 : PySem.W.nsIn K mainGlobals "len" = some none) (h1 : PySem.W.nsIn K mainGlobals "all" = some none) (h2 : PySem.W.nsIn K mainGlobals "any" = some none) (h3 : PySem.W.nsIn K mainGlobals "int" = some none) (h4 : PySem.W.nsIn K mainGlobals "list" = some none) (h5 : PySem.W.nsIn K mainGlobals "tuple" = some none) (h6 : PySem.W.nsIn K mainGlobals "sum" = some none) (h7 : PySem.W.nsIn K mainGlobals "max" = some none) (h8 : PySem.W.nsIn K mainGlobals "min" = some none) (h9 : PySem.W.nsIn K mainGlobals "range" = some none) (h10 : PySem.W.nsIn K mainGlobals "enumerate" = some none) (h11 : PySem.W.nsIn K mainGlobals "zip" = some none) (h12 : PySem.W.nsIn K mainGlobals "isinstance" = some none) (h13 : PySem.W.nsIn K mainGlobals "bool" = some none) (h14 : PySem.W.nsIn K mainGlobals "str" = some none) (h15 : PySem.W.nsIn K mainGlobals "sorted" = some none) (h16 : PySem.W.nsIn K mainGlobals "repr" = some none) (h17 : PySem.W.nsIn K mainGlobals "reversed" = some none) (h18 : PySem.W.nsIn K mainGlobals "set" = some none) (h19 : PySem.W.nsIn K mainGlobals "dict" = some none) :
    ∀ y ∈ bltNames, PySem.W.nsIn K mainGlobals y = some none := by
  intro y hy
  simp only [bltNames, List.mem_cons, List.not_mem_nil, or_false] at hy
  rcases hy with rfl | rfl | rfl | rfl | rfl | rfl | rfl | rfl | rfl | rfl | rfl | rfl | rfl | rfl | rfl | rfl | rfl | rfl | rfl | rfl <;> assumption
theorem lefts {K : PySem.W.Frag} (l436 : Left K d436) (l4 : Left K d4) (l5 : Left K d5) (l423 : Left K d423) (l437 : Left K d437) (l438 : Left K d438) : ∀ d ∈ ds, Left K d ∧ BindsAs d := by
  intro d hd
  simp only [ds, List.mem_cons, List.not_mem_nil, or_false] at hd
  rcases hd with rfl | rfl | rfl | rfl | rfl | rfl
  · exact ⟨l436, bi436⟩
  · exact ⟨l4, bi4⟩
  · exact ⟨l5, bi5⟩
  · exact ⟨l423, bi423⟩
  · exact ⟨l437, bi437⟩
  · exact ⟨l438, bi438⟩
end Lw
open PySem PySem.W PyProof.Rows
set_option maxRecDepth 100000 in
set_option maxHeartbeats 0 in
theorem PySem.Challenge.cw_saidwish_k53_crowds_told_holds : PySem.Challenge.rw_saidwish_k53_crowds_told.Holds := by
  w_on; o_law; k_head; (case hw => w_witness2)
  k_fill
  refine Mn.walkG (l := PySem.Challenge.rw_saidwish_k53_crowds_told) (n := 63) (k := 15) (x := "_law_script") (sp := fun K => Mn.spM K (Mn.run (Mn.fns Lw.ds) 15) 438) rfl (by decide) rfl ⟨rfl, by decide, by decide⟩ (fun w h Y => PySem.W.kIn_of Y) ?F
    (fun _ H a ns hl hO hS => (Lw.claim ns hl).elim fun M' e => Mn.law_sp hO hS e)
  case F =>
    intro w mg fa h KX G hmg
    refine' Mn.Left.law (d := Lw.d438) (ds := Lw.ds) KX G hmg rfl rfl Lw.chk (Lw.lefts ?l436 ?l4 ?l5 ?l423 ?l437 ?l438) (Lw.blts ?h0 ?h1 ?h2 ?h3 ?h4 ?h5 ?h6 ?h7 ?h8 ?h9 ?h10 ?h11 ?h12 ?h13 ?h14 ?h15 ?h16 ?h17 ?h18 ?h19)
    (case l436 => refine' Mn.left_mk ?a ?l ?c ?k; (case a => k_is); (case l => k_is); (case c => k_is); (case k => k_is))
    (case l4 => refine' Mn.left_mk ?a ?l ?c ?k; (case a => k_is); (case l => k_is); (case c => k_is); (case k => k_is))
    (case l5 => refine' Mn.left_mk ?a ?l ?c ?k; (case a => k_is); (case l => k_is); (case c => k_is); (case k => k_is))
    (case l423 => refine' Mn.left_mk ?a ?l ?c ?k; (case a => k_is); (case l => k_is); (case c => k_is); (case k => k_is))
    (case l437 => refine' Mn.left_mk ?a ?l ?c ?k; (case a => k_is); (case l => k_is); (case c => k_is); (case k => k_is))
    (case l438 => refine' Mn.left_mk ?a ?l ?c ?k; (case a => k_is); (case l => k_is); (case c => k_is); (case k => k_is))
    (case h0 => k_is); (case h1 => k_is); (case h2 => k_is); (case h3 => k_is); (case h4 => k_is); (case h5 => k_is); (case h6 => k_is); (case h7 => k_is); (case h8 => k_is); (case h9 => k_is); (case h10 => k_is); (case h11 => k_is); (case h12 => k_is); (case h13 => k_is); (case h14 => k_is); (case h15 => k_is); (case h16 => k_is); (case h17 => k_is); (case h18 => k_is); (case h19 => k_is)

