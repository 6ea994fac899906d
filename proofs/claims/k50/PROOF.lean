import PyProof.Rows.All
import Wide.All
import OpenK.AllK
import Wide.FinOn
import HandS.ForMost
import HandS.Evl
import KE.DataEq
import HandS.TupAny
import HandS.TupMul
import HandS.Deep
import HandS.Flow
import HandS.Zip
import HandS.More
import HandS.Style
import HandS.ForExc
import HandS.EndBits
import HandS.Lambda
import KE.KDictZip
import HandS.ExcInit
import HandS.IsInst
import PyProof.Rows.ReprShort
import HandS.Wide
import PySem.Challenge.RW_halftruths_k50_chain_values
set_option linter.all false
set_option Elab.async false
set_option maxRecDepth 100000
/-! HtA: data, a small language over slots, and what it gives (no heap, no machine). -/
namespace Ht
open PySem L2

/-- what a slot bears: data, or the n-th thing of the store -/
inductive E where
  | d (x : PyData)
  | c (n : Nat)
/-- things of the store, which may change: lists, dicts with texts as keys -/
inductive Cell where
  | lst (xs : List PyData)
  | dct (kvs : List (Str × PyData))
  | tab (q : Str)
abbrev Sto := List Cell
abbrev Gm := List (Option E)
/-- an error: the number of its class, what it holds -/
structure Exn where
  cls : Nat
  arg : Option PyData
inductive R (α : Type) where
  | ok (a : α) (S : Sto)
  | err (x : Exn) (Γ : Gm) (S : Sto)
  | no
def R.bind {α β : Type} (r : R α) (f : α → Sto → R β) : R β :=
  match r with
  | .ok a S => f a S
  | .err x Γ S => .err x Γ S
  | .no => .no
/-- without a way out by errors -/
def R.calm {α : Type} (r : R α) : R α :=
  match r with
  | .err _ _ _ => .no
  | r => r
section
variable {α β γ : Type} {a : α} {S : Sto} {x : Exn} {Γ : Gm} {f : α → Sto → R β}
@[simp] theorem R.bind_ok : (R.ok a S).bind f = f a S := rfl
@[simp] theorem R.bind_err : (R.err x Γ S : R α).bind f = .err x Γ S := rfl
@[simp] theorem R.bind_no : (R.no : R α).bind f = .no := rfl
@[simp] theorem R.calm_ok : (R.ok a S).calm = .ok a S := rfl
end

/-! ### reading -/
def peek (e : E) (S : Sto) : Option PyData :=
  match e with
  | .d x => some x
  | .c n => match S[n]? with
    | some (.lst xs) => some (.list xs)
    | _ => none
@[simp] theorem peek_d (x : PyData) (S : Sto) : peek (.d x) S = some x := rfl
def peeks : List E → Sto → Option (List PyData)
  | [], _ => some []
  | e :: es, S => match peek e S, peeks es S with
    | some x, some xs => some (x :: xs)
    | _, _ => none
def flatD : PyData → Bool
  | .none | .bool _ | .int _ | .str _ => true
  | _ => false
def seqOf : PyData → Option (List PyData)
  | .list xs => some xs
  | .tuple xs => some xs
  | _ => none
def intsOf : List PyData → Option (List Int)
  | [] => some []
  | .int i :: r => (intsOf r).map (i :: ·)
  | _ :: _ => none
def boolsOf : List PyData → Option (List Bool)
  | [] => some []
  | .bool i :: r => (boolsOf r).map (i :: ·)
  | _ :: _ => none
def cutA {α : Type} (xs : List α) (lo hi : Option Int) : List α :=
  (xs.drop (HT.sIx xs.length 0 lo)).take (HT.sIx xs.length xs.length hi - HT.sIx xs.length 0 lo)

/-! ### operators on data -/
open Classical in
noncomputable def binD : Operator → PyData → PyData → Option PyData
  | .Add, .int i, .int j => some (.int (i + j))
  | .Add, .str x, .str y => if x.length + y.length ≤ sizeLine then some (.str (x ++ y)) else none
  | .Add, .list x, .list y => if x.length + y.length ≤ sizeLine then some (.list (x ++ y)) else none
  | .Add, .tuple x, .tuple y => if x.length + y.length ≤ sizeLine then some (.tuple (x ++ y)) else none
  | .Sub, .int i, .int j => some (.int (i - j))
  | .Mult, .int i, .int j => if IntMulOk i j then some (.int (i * j)) else none
  | .Mult, .list x, .int j => if j ≤ 100000 ∧ -100000 ≤ j ∧ x.length * j.toNat ≤ sizeLine then some (.list (List.replicate j.toNat x).flatten) else none
  | .Mult, .tuple x, .int j => if x ≠ [] ∧ -1000 ≤ j ∧ j ≤ 1000 ∧ x.length ≤ 1000 then some (.tuple (List.replicate j.toNat x).flatten) else none
  | .FloorDiv, .int i, .int j => if j ≠ 0 ∧ j.natAbs.log2 < 9000 then some (.int (i.fdiv j)) else none
  | .Mod, .int i, .int j => if j ≠ 0 then some (.int (i.fmod j)) else none
  | .LShift, .int i, .int j => if 0 ≤ j ∧ j ≤ 1000000 ∧ i.natAbs < 2 ^ 64 then some (.int (i * 2 ^ j.toNat)) else none
  | .Pow, .int i, .int j => if 0 ≤ j ∧ j ≤ 1000000 ∧ i.natAbs < 2 ^ 64 then some (.int (i ^ j.toNat)) else none
  | _, _, _ => none
def negD : PyData → Option PyData
  | .int i => some (.int (-i))
  | _ => none
def eqOk (x y : PyData) : Bool := x.plain && y.plain && decide (min x.depth y.depth ≤ 180)
def inD (x y : PyData) : Option Bool :=
  match y with
  | .str s => match x with
    | .str c => some (!(Builtin.Str.occurrences s c 0 s.length 1).isEmpty)
    | _ => none
  | y => match seqOf y with
    | some ys => if PyData.plainAll ys && x.plain && decide (min (PyData.depthAll ys) x.depth ≤ 180) then some (ys.any fun z => PyData.eqv z x) else none
    | none => none
def isNon : PyData → Bool
  | .none => true
  | _ => false
def cmpD : CmpOp → PyData → PyData → Option Bool
  | .Eq, x, y => if eqOk x y then some (PyData.eqv x y) else none
  | .NotEq, x, y => if eqOk x y then some (!PyData.eqv x y) else none
  | .Lt, .int i, .int j => some (decide (i < j))
  | .LtE, .int i, .int j => some (decide (i ≤ j))
  | .Gt, .int i, .int j => some (decide (j < i))
  | .GtE, .int i, .int j => some (decide (j ≤ i))
  | .In, x, y => inD x y
  | .NotIn, x, y => (inD x y).map (!·)
  | .Is, x, .none => some (isNon x)
  | .IsNot, x, .none => some (!isNon x)
  | _, _, _ => none
/-- whether a text is a key of a dict of the store -/
def kinE (op : CmpOp) (x y : E) (S : Sto) : Option Bool :=
  match op, x, y with
  | .In, .d (.str k), .c n => match S[n]? with
    | some (.dct kvs) => some (kvs.lookup k).isSome
    | _ => none
  | .NotIn, .d (.str k), .c n => match S[n]? with
    | some (.dct kvs) => some (!(kvs.lookup k).isSome)
    | _ => none
  | _, _, _ => none
/-- a comparison -/
def cmpE (op : CmpOp) (x y : E) (S : Sto) : Option Bool :=
  match peek x S, peek y S with
  | some d, some e => cmpD op d e
  | _, _ => kinE op x y S
/-- a value's truth -/
def truD : PyData → Option Bool
  | .none => some false
  | .bool b => some b
  | .int i => some (i != 0)
  | .str x => if x.length ≤ sizeLine then some ((x.length : Int) != 0) else none
  | .list xs => some (!xs.isEmpty)
  | .tuple xs => some (!xs.isEmpty)
  | .dict _ => none
def truE (e : E) (S : Sto) : Option Bool :=
  match peek e S with
  | some x => truD x
  | none => none
def idxD : PyData → PyData → Option PyData
  | .list xs, .int i => atI xs i
  | .tuple xs, .int i => atI xs i
  | .str z, .int i => if z.length ≤ sizeLine then (atI z.cps.toList i).map fun c => .str ⟨#[c]⟩ else none
  | _, _ => none
def idxE (x y : E) (S : Sto) : Option PyData :=
  match x, y with
  | .c n, .d (.str k) => match S[n]? with
    | some (.dct kvs) => kvs.lookup k
    | _ => none
  | x, y => match peek x S, peek y S with
    | some d, some e => idxD d e
    | _, _ => none
def slcD (x : PyData) (lo hi : Option Int) : Option PyData :=
  match x with
  | .list xs => some (.list (cutA xs lo hi))
  | .tuple xs => some (.tuple (cutA xs lo hi))
  | _ => none
/-- the classes that a value is asked for -/
inductive Cty where
  | int | str | tuple | bool | list
  deriving DecidableEq
def isD : Cty → PyData → Option Bool
  | _, .dict _ => none
  | .int, .int _ => some true
  | .int, .bool _ => some true
  | .str, .str _ => some true
  | .tuple, .tuple _ => some true
  | .bool, .bool _ => some true
  | .list, .list _ => some true
  | _, _ => some false
inductive Blt where
  | len | sum | max | min | max2 | min2 | abs | int | repr | tuple | list | all | any
  deriving DecidableEq
def bltD : Blt → List PyData → Option PyData
  | .len, [.list xs] => some (.int xs.length)
  | .len, [.tuple xs] => some (.int xs.length)
  | .len, [.str x] => if x.length ≤ sizeLine then some (.int x.length) else none
  | .sum, [.list xs] => (intsOf xs).map fun ns => .int ns.sum
  | .max, [.list xs] => match intsOf xs with
    | some (n :: ns) => some (.int (ns.foldl (fun a b => if b > a then b else a) n))
    | _ => none
  | .min, [.list xs] => match intsOf xs with
    | some (n :: ns) => some (.int (ns.foldl (fun a b => if b < a then b else a) n))
    | _ => none
  | .max2, [.int i, .int j] => some (.int (if j > i then j else i))
  | .min2, [.int i, .int j] => some (.int (if j < i then j else i))
  | .abs, [.int i] => some (.int (if i < 0 then -i else i))
  | .int, [.int i] => some (.int i)
  | .int, [.bool b] => some (.int (if b then 1 else 0))
  | .repr, [x] => if x.showable && !x.hasDict && decide (x.depth ≤ 180) && decide (x.shown.length ≤ sizeLine) then some (.str x.shown) else none
  | .tuple, [.list xs] => some (.tuple xs)
  | .tuple, [.tuple xs] => some (.tuple xs)
  | .list, [.list xs] => some (.list xs)
  | .list, [.tuple xs] => some (.list xs)
  | .all, [.list xs] => (boolsOf xs).map fun bs => .bool (bs.all id)
  | .any, [.list xs] => (boolsOf xs).map fun bs => .bool (bs.any id)
  | _, _ => none
def opt (o : Option PyData) (S : Sto) : R E :=
  match o with
  | some x => .ok (.d x) S
  | none => .no
@[simp] theorem opt_some (x : PyData) (S : Sto) : opt (some x) S = .ok (.d x) S := rfl
@[simp] theorem opt_none (S : Sto) : opt none S = .no := rfl
def opt1 (g : PyData → Option PyData) (x : E) (S : Sto) : R E :=
  match peek x S with
  | some d => opt (g d) S
  | none => .no
def opt2 (g : PyData → PyData → Option PyData) (x y : E) (S : Sto) : R E :=
  match peek x S, peek y S with
  | some d, some e => opt (g d e) S
  | _, _ => .no
def optB (o : Option Bool) (S : Sto) : R Bool :=
  match o with
  | some x => .ok x S
  | none => .no

/-- the little that an except's suite reckons: the error's field, constants -/
inductive SX where
  | fld
  | con (d : PyData)
inductive Mk where
  | one | tup | lst
inductive SU where
  | set (j : Nat) (m : Mk) (xs : List SX)
  | ret (m : Mk) (xs : List SX)
def sxD (y : PyData) : SX → PyData
  | .fld => y
  | .con d => d
def flatX : SX → Bool
  | .fld => true
  | .con d => flatD d
def suD (y : PyData) : Mk → List SX → Option PyData
  | .one, [x] => if flatX x then some (sxD y x) else none
  | .tup, xs => if xs.length ≤ sizeLine ∧ xs.all flatX then some (.tuple (xs.map (sxD y))) else none
  | .lst, xs => if xs.length ≤ sizeLine ∧ xs.all flatX then some (.list (xs.map (sxD y))) else none
  | _, _ => none
/-- a def that is handed a lambda and tries it: what it makes of the value, what of each error -/
structure LD where
  B : Nat
  k : Nat
  i : Nat
  j : Nat
  m : Mk
  xs : List SX
  hs : List (Nat × Mk × List SX)
def lamC : List (Nat × Mk × List SX) → Exn → Sto → R E
  | [], _, _ => .no
  | h :: hs, x, S => if x.cls = h.1 then match x.arg with
    | some y => opt (suD y h.2.1 h.2.2) S
    | none => .no
    else lamC hs x S
def lamR (L : LD) (r : R E) : R E :=
  match r with
  | .ok (.d y) S => opt (suD y L.m L.xs) S
  | .err x _ S => lamC L.hs x S
  | _ => .no
/-! ### the language -/
mutual
inductive CE where
  | var (i : Nat)
  | con (x : PyData)
  | glo (k : Nat)
  | bin (op : Operator) (a b : CE)
  | neg (a : CE)
  | cmp (op : CmpOp) (a b : CE)
  | chain (op op' : CmpOp) (a b c : CE)
  | not (a : CE)
  | and (a b : CE)
  | or (a b : CE)
  | ife (t a b : CE)
  | tup (es : CEs)
  | lst (es : CEs)
  | dct (ks : List Str) (es : CEs)
  | idx (a i : CE)
  | slc (a : CE) (lo hi : CO)
  | call (f : Nat) (es : CEs)
  | blt (b : Blt) (es : CEs)
  | app (o e : CE)
  | isi (a : CE) (t : Cty)
  | pop (o : CE)
  | popi (o i : CE)
  | lam (L : LD) (e : CE)
  | dzip (a b : CE)
  | ext (o e : CE)
  | rev (a : CE)
  | mk (m : CM)
  | lc (elt : CE) (tg : CT) (it : CI) (ts : CO) (own : List Nat)
  | lc2 (elt : CE) (tg : CT) (it : CI) (ts : CO) (own : List Nat) (tg1 : CT) (it1 : CI) (ts1 : CO) (own1 : List Nat)
inductive CM where
  | lst (es : CEs)
  | lis (e : CE)
  | lc (elt : CE) (tg : CT) (it : CI) (ts : CO) (own : List Nat)
inductive CEs where
  | nil
  | cons (e : CE) (es : CEs)
inductive CO where
  | none
  | some (e : CE)
inductive CI where
  | seq (e : CE)
  | rng1 (a : CE)
  | rng2 (a b : CE)
  | zip (a b : CE)
inductive CT where
  | nam (i : Nat)
  | tup (ts : CTs)
inductive CTs where
  | nil
  | cons (t : CT) (ts : CTs)
end
mutual
inductive CS where
  | asg (t : CT) (e : CE)
  | own (i : Nat) (e : CE)
  | aug (i : Nat) (op : Operator) (e : CE)
  | par (i j : Nat) (a b : CE)
  | par3 (i j l : Nat) (a b c : CE)
  | rais (c : Nat) (e : CE)
  | tryx (body : CSs) (i : Nat) (hs : List (Nat × SU))
  | dead
  | sub (o i e : CE)
  | exp (e : CE)
  | ret (e : CE)
  | ret0
  | ite (t : CE) (a b : CSs)
  | loop (t : CT) (it : CI) (body : CSs)
  | whl (t : CE) (body : CSs)
  | pass
  | brk
  | cnt
inductive CSs where
  | nil
  | cons (s : CS) (ss : CSs)
end

/-- a name's number, changed -/
def augI : Operator → Int → Int → Option Int
  | .Add, a, b => some (a + b)
  | .Sub, a, b => some (a - b)
  | _, _, _ => none
/-! ### what it gives -/
structure Ph where
  f : Nat → List E → Sto → R E
  fuel : Nat
  con : List PyData
def setG (Γ : Gm) (i : Nat) (e : E) : Gm := Γ.set i (some e)
def wipeG (Γ : Gm) : List Nat → Gm
  | [] => Γ
  | v :: vs => (wipeG Γ vs).set v none
mutual
def putT : CT → E → Gm → Option Gm
  | .nam i, e, Γ => some (setG Γ i e)
  | .tup ts, .d (.tuple xs), Γ => putTs ts xs Γ
  | .tup _, _, _ => none
def putTs : CTs → List PyData → Gm → Option Gm
  | .nil, [], Γ => some Γ
  | .cons t ts, x :: xs, Γ => (putT t (.d x) Γ).bind (putTs ts xs)
  | _, _, _ => none
end
/-- data alone -/
def dat (e : E) (S : Sto) : R PyData :=
  match e with
  | .d x => .ok x S
  | .c _ => .no
/-- a comprehension's turns -/
def lcR (f : PyData → Sto → R (Option PyData)) : List PyData → List PyData → Sto → R (List PyData)
  | [], acc, S => .ok acc S
  | x :: xs, acc, S => (f x S).bind fun y S1 => match y with
    | some y => if acc.length < sizeLine then lcR f xs (acc ++ [y]) S1 else .no
    | none => lcR f xs acc S1
def lcO (f : PyData → List PyData → Sto → R (List PyData)) : List PyData → List PyData → Sto → R (List PyData)
  | [], acc, S => .ok acc S
  | x :: xs, acc, S => (f x acc S).bind fun acc1 S1 => lcO f xs acc1 S1
def rangeD (lo : Int) (n : Nat) : List PyData := (List.range n).map fun (k : Nat) => PyData.int (lo + (k : Int))
/-- what a loop goes through, and the thing of the store that must stay -/
structure Its where
  xs : List PyData
  w : Option Nat
def Its.still (w : Option Nat) (xs : List PyData) (S : Sto) : Prop :=
  match w with
  | none => True
  | some n => S[n]? = some (.lst xs)
def seqI (e : E) (S : Sto) : R Its :=
  match e with
  | .d (.str x) => .ok ⟨x.cps.toList.map fun c => .str ⟨#[c]⟩, none⟩ S
  | .d x => match seqOf x with
    | some xs => .ok ⟨xs, none⟩ S
    | none => .no
  | .c n => match S[n]? with
    | some (.lst xs) => .ok ⟨xs, some n⟩ S
    | _ => .no
def zipD (x y : PyData) : Option (List PyData) :=
  match x, y with
  | .list xs, .list ys => some ((xs.zip ys).map fun p => .tuple [p.1, p.2])
  | .tuple xs, .tuple ys => some ((xs.zip ys).map fun p => .tuple [p.1, p.2])
  | _, _ => none
def dctK (ks : List Str) (xs : List PyData) : Option (List (Str × PyData)) :=
  if ks.length = xs.length ∧ ks.length ≤ 15 ∧ ks.Nodup then some (ks.zip xs) else none
def isLst (x : E) (S : Sto) : Bool :=
  match x with
  | .c n => match S[n]? with
    | some (.lst _) => true
    | _ => false
  | _ => false
def appE (o e : E) (S : Sto) : R E :=
  match o, e with
  | .c n, .d x => match S[n]? with
    | some (.lst xs) => if xs.length < sizeLine then .ok (.d .none) (S.set n (.lst (xs ++ [x]))) else .no
    | _ => .no
  | _, _ => .no
def popE (o : E) (S : Sto) : R E :=
  match o with
  | .c n => match S[n]? with
    | some (.lst xs) => match xs[xs.length - 1]? with
      | some y => .ok (.d y) (S.set n (.lst xs.dropLast))
      | none => .no
    | _ => .no
  | _ => .no
def popiE (o i : E) (S : Sto) : R E :=
  match o, i with
  | .c n, .d (.int j) => match S[n]? with
    | some (.lst xs) => if 0 ≤ j ∧ j < xs.length ∧ xs.length ≤ sizeLine then match xs[j.toNat]? with
        | some y => .ok (.d y) (S.set n (.lst (xs.eraseIdx j.toNat)))
        | none => .no
      else .no
    | _ => .no
  | _, _ => .no
def putS (kvs : List (Str × PyData)) (k : Str) (v : PyData) : List (Str × PyData) := kvs.map fun kv => if kv.1 = k then (kv.1, v) else kv
def strsOf : List PyData → Option (List Str)
  | [] => some []
  | .str s :: r => (strsOf r).map (s :: ·)
  | _ :: _ => none
def insS (kvs : List (Str × PyData)) (k : Str) (v : PyData) : List (Str × PyData) := if (kvs.lookup k).isSome then putS kvs k v else kvs ++ [(k, v)]
def mergeS (kvs more : List (Str × PyData)) : List (Str × PyData) := more.foldl (fun a p => insS a p.1 p.2) kvs
/-- dict(zip(x, y)) -/
def dzE (x y : E) (S : Sto) : R E :=
  match peek x S, peek y S with
  | some d, some e => match seqOf d, seqOf e with
    | some xs, some ys => match strsOf xs with
      | some ks => .ok (.c S.length) (S ++ [.dct (mergeS [] (ks.zip ys))])
      | none => .no
    | _, _ => .no
  | _, _ => .no
def extE (o e : E) (S : Sto) : R E := match o, e with
  | .c n, .d x => match S[n]?, seqOf x with
    | some (.lst xs), some ys => if xs.length + ys.length ≤ sizeLine then .ok (.d .none) (S.set n (.lst (xs ++ ys))) else .no
    | _, _ => .no
  | _, _ => .no
def revD : PyData → Option PyData
  | .list xs => some (.list xs.reverse)
  | _ => none
def subE (o i v : E) (S : Sto) : Option Sto :=
  match o, i, v with
  | .c n, .d (.str k), .d x => match S[n]? with
    | some (.dct kvs) => if kvs.length < sizeLine ∧ (kvs.lookup k).isSome then some (S.set n (.dct (putS kvs k x)))
      else if kvs.length < sizeLine ∧ (kvs.lookup k).isNone then some (S.set n (.dct (kvs ++ [(k, x)]))) else none
    | _ => none
  | .c n, .d (.int j), .d x => match S[n]? with
    | some (.lst xs) => (ixN xs.length j).map fun m => S.set n (.lst (xs.set m x))
    | _ => none
  | _, _, _ => none
inductive Flow where
  | nxt (Γ : Gm)
  | ret (e : E)
  | brk (Γ : Gm)
  | cnt (Γ : Gm)
/-- what an except's suite leaves -/
def suR (u : SU) (i : Nat) (y : PyData) (Γ : Gm) (S : Sto) : R Flow :=
  if i < Γ.length then match u with
    | .set j m xs => match suD y m xs with
      | some d => .ok (.nxt ((setG Γ j (.d d)).set i none)) S
      | none => .no
    | .ret m xs => match suD y m xs with
      | some d => .ok (.ret (.d d)) S
      | none => .no
  else .no
def catC (i : Nat) : List (Nat × SU) → Exn → Gm → Sto → R Flow
  | [], x, Γ, S => .err x Γ S
  | h :: hs, x, Γ, S => if x.cls = h.1 then match x.arg with
    | some y => suR h.2 i y Γ S
    | none => .no
    else catC i hs x Γ S
def catR (i : Nat) (hs : List (Nat × SU)) (r : R Flow) : R Flow :=
  match r with
  | .ok fl S => .ok fl S
  | .err x Γ S => catC i hs x Γ S
  | .no => .no
def raisR (c : Nat) (x : E) (Γ : Gm) (S : Sto) : R Flow :=
  match x with
  | .d y => .err ⟨c, some y⟩ Γ S
  | .c _ => .no
/-- a for's turns -/
noncomputable def forR (w : Option Nat) (all : List PyData) (f : PyData → Gm → Sto → R Flow) : List PyData → Gm → Sto → R Flow
  | [], Γ, S => .ok (.nxt Γ) S
  | x :: xs, Γ, S => (f x Γ S).bind fun fl S1 => match fl with
    | .nxt Γ1 => open Classical in if Its.still w all S1 then forR w all f xs Γ1 S1 else .no
    | .cnt Γ1 => open Classical in if Its.still w all S1 then forR w all f xs Γ1 S1 else .no
    | .brk Γ1 => .ok (.nxt Γ1) S1
    | .ret e => .ok (.ret e) S1
/-- a while's turns -/
def whlR (t : Gm → Sto → R Bool) (f : Gm → Sto → R Flow) : Nat → Gm → Sto → R Flow
  | 0, _, _ => .no
  | n + 1, Γ, S => (t Γ S).bind fun b S1 => if b then (f Γ S1).bind fun fl S2 => match fl with
      | .nxt Γ1 => whlR t f n Γ1 S2
      | .cnt Γ1 => whlR t f n Γ1 S2
      | .brk Γ1 => .ok (.nxt Γ1) S2
      | .ret e => .ok (.ret e) S2
    else .ok (.nxt Γ) S1
/-- a place beside all defs: there a call tells how many calls deep it may still go -/
def lvk : Nat := 1000000
def lvlOk (P : Ph) (B : Nat) (S : Sto) : Bool := match P.f lvk [.d (.int B)] S with
  | .ok _ _ => true
  | _ => false
mutual
noncomputable def ev (P : Ph) : CE → Gm → Sto → R E
  | .var i, Γ, S => match Γ[i]? with
    | some (some e) => .ok e S
    | _ => .no
  | .con x, _, S => .ok (.d x) S
  | .glo k, _, S => opt P.con[k]? S
  | .bin op a b, Γ, S => (ev P a Γ S).bind fun x S1 => (ev P b Γ S1).bind fun y S2 => opt2 (binD op) x y S2
  | .neg a, Γ, S => (ev P a Γ S).bind fun x S1 => opt1 negD x S1
  | .cmp op a b, Γ, S => (ev P a Γ S).bind fun x S1 => (ev P b Γ S1).bind fun y S2 => opt2 (fun d e => (cmpD op d e).map .bool) x y S2
  | .chain op op' a b c, Γ, S => (ev P a Γ S).bind fun x S1 => (ev P b Γ S1).bind fun y S2 =>
      match peek x S2, peek y S2 with
      | some d, some e => match cmpD op d e with
        | some true => (ev P c Γ S2).bind fun z S3 => opt2 (fun d e => (cmpD op' d e).map .bool) y z S3
        | some false => .ok (.d (.bool false)) S2
        | none => .no
      | _, _ => .no
  | .not a, Γ, S => (ev P a Γ S).bind fun x S1 => (optB (truE x S1) S1).bind fun b S1 => .ok (.d (.bool (!b))) S1
  | .and a b, Γ, S => (ev P a Γ S).bind fun x S1 => match x with
      | .d (.bool true) => ev P b Γ S1
      | .d (.bool false) => .ok (.d (.bool false)) S1
      | _ => .no
  | .or a b, Γ, S => (ev P a Γ S).bind fun x S1 => match x with
      | .d (.bool false) => ev P b Γ S1
      | .d (.bool true) => .ok (.d (.bool true)) S1
      | _ => .no
  | .ife t a b, Γ, S => (evT P t Γ S).bind fun k S1 => if k then ev P a Γ S1 else ev P b Γ S1
  | .tup es, Γ, S => (evD P es Γ S).bind fun xs S1 => if xs.length ≤ sizeLine then .ok (.d (.tuple xs)) S1 else .no
  | .lst es, Γ, S => (evD P es Γ S).bind fun xs S1 => if xs.length ≤ sizeLine then .ok (.d (.list xs)) S1 else .no
  | .dct ks es, Γ, S => (evD P es Γ S).bind fun xs S1 => match dctK ks xs with
      | some kvs => .ok (.c S1.length) (S1 ++ [.dct kvs])
      | none => .no
  | .idx a i, Γ, S => (ev P a Γ S).bind fun x S1 => (ev P i Γ S1).bind fun y S2 => opt (idxE x y S2) S2
  | .slc a lo hi, Γ, S => (ev P a Γ S).bind fun x S1 => (evO P lo Γ S1).bind fun l S2 => (evO P hi Γ S2).bind fun h S3 => opt1 (fun d => slcD d l h) x S3
  | .call f es, Γ, S => (evs P es Γ S).bind fun xs S1 => match P.f f xs S1 with
      | .ok e S2 => .ok e S2
      | .err x _ S2 => .err x Γ S2
      | .no => .no
  | .blt b es, Γ, S => (evs P es Γ S).bind fun xs S1 => match peeks xs S1 with
      | some ds => opt (bltD b ds) S1
      | none => .no
  | .app o e, Γ, S => (ev P o Γ S).bind fun x S1 => if isLst x S1 then (ev P e Γ S1).bind fun y S2 => appE x y S2 else .no
  | .isi a t, Γ, S => (ev P a Γ S).bind fun x S1 => opt1 (fun d => (isD t d).map .bool) x S1
  | .pop o, Γ, S => (ev P o Γ S).bind fun x S1 => popE x S1
  | .popi o i, Γ, S => (ev P o Γ S).bind fun x S1 => if isLst x S1 then (ev P i Γ S1).bind fun y S2 => popiE x y S2 else .no
  | .lam L e, Γ, S => if lvlOk P L.B S then lamR L (ev P e Γ S) else .no
  | .dzip a b, Γ, S => (ev P a Γ S).bind fun x S1 => (ev P b Γ S1).bind fun y S2 => dzE x y S2
  | .ext o e, Γ, S => (ev P o Γ S).bind fun x S1 => if isLst x S1 then (ev P e Γ S1).bind fun y S2 => extE x y S2 else .no
  | .rev a, Γ, S => (ev P a Γ S).bind fun x S1 => opt1 revD x S1
  | .mk m, Γ, S => (evM P m Γ S).bind fun xs S1 => .ok (.c S1.length) (S1 ++ [.lst xs])
  | .lc elt tg it ts own, Γ, S => (evI P it Γ S).bind fun I S1 => match I.w with
      | some _ => .no
      | none => (lcR (fun x S2 => match putT tg (.d x) (wipeG Γ own) with
          | some Γ1 => ((evC P ts Γ1 S2).bind fun k S3 => if k then (ev P elt Γ1 S3).bind fun y S4 => (dat y S4).bind fun y S5 => .ok (some y) S5 else .ok none S3).calm
          | none => .no) I.xs [] S1).bind fun ys S2 => .ok (.d (.list ys)) S2
  | .lc2 elt tg it ts own tg1 it1 ts1 own1, Γ, S => (evI P it Γ S).bind fun I S1 => match I.w with
      | some _ => .no
      | none => (lcO (fun x acc S2 => match putT tg (.d x) (wipeG Γ own) with
          | some Γ1 => (evC P ts Γ1 S2).calm.bind fun k S3 => if k then (evI P it1 Γ1 S3).calm.bind fun J S4 => match J.w with
              | some _ => .no
              | none => lcR (fun y S5 => match putT tg1 (.d y) (wipeG Γ1 own1) with
                  | some Γ2 => ((evC P ts1 Γ2 S5).bind fun k S6 => if k then (ev P elt Γ2 S6).bind fun y S7 => (dat y S7).bind fun y S8 => .ok (some y) S8 else .ok none S6).calm
                  | none => .no) J.xs acc S4
            else .ok acc S3
          | none => .no) I.xs [] S1).bind fun ys S2 => .ok (.d (.list ys)) S2
noncomputable def evT (P : Ph) : CE → Gm → Sto → R Bool
  | .not a, Γ, S => (evT P a Γ S).bind fun b S1 => .ok (!b) S1
  | .and a b, Γ, S => (evT P a Γ S).bind fun k S1 => if k then evT P b Γ S1 else .ok false S1
  | .or a b, Γ, S => (evT P a Γ S).bind fun k S1 => if k then .ok true S1 else evT P b Γ S1
  | .ife _ _ _, _, _ => .no
  | .cmp op a b, Γ, S => (ev P a Γ S).bind fun x S1 => (ev P b Γ S1).bind fun y S2 => optB (cmpE op x y S2) S2
  | .chain op op' a b c, Γ, S => (ev P a Γ S).bind fun x S1 => (ev P b Γ S1).bind fun y S2 =>
      match peek x S2, peek y S2 with
      | some d, some e => match cmpD op d e with
        | some true => (ev P c Γ S2).bind fun z S3 => match peek y S3, peek z S3 with
          | some d, some e => optB (cmpD op' d e) S3
          | _, _ => .no
        | some false => .ok false S2
        | none => .no
      | _, _ => .no
  | .var i, Γ, S => match Γ[i]? with
    | some (some e) => optB (truE e S) S
    | _ => .no
  | .idx a i, Γ, S => (ev P a Γ S).bind fun x S1 => (ev P i Γ S1).bind fun y S2 => match idxE x y S2 with
    | some d => optB (truD d) S2
    | none => .no
  | .call f es, Γ, S => (evs P es Γ S).bind fun xs S1 => match P.f f xs S1 with
      | .ok e S2 => optB (truE e S2) S2
      | .err x _ S2 => .err x Γ S2
      | .no => .no
  | .blt b es, Γ, S => (evs P es Γ S).bind fun xs S1 => match peeks xs S1 with
      | some ds => match bltD b ds with
        | some d => optB (truD d) S1
        | none => .no
      | none => .no
  | .isi a t, Γ, S => (ev P a Γ S).bind fun x S1 => match peek x S1 with
      | some d => optB (isD t d) S1
      | none => .no
  | _, _, _ => .no
noncomputable def evM (P : Ph) : CM → Gm → Sto → R (List PyData)
  | .lst es, Γ, S => (evD P es Γ S).bind fun xs S1 => if xs.length ≤ sizeLine then .ok xs S1 else .no
  | .lis e, Γ, S => (ev P e Γ S).bind fun x S1 => match peek x S1 with
      | some d => match seqOf d with
        | some xs => .ok xs S1
        | none => .no
      | none => .no
  | .lc elt tg it ts own, Γ, S => (evI P it Γ S).bind fun I S1 => match I.w with
      | some _ => .no
      | none => lcR (fun x S2 => match putT tg (.d x) (wipeG Γ own) with
          | some Γ1 => ((evC P ts Γ1 S2).bind fun k S3 => if k then (ev P elt Γ1 S3).bind fun y S4 => (dat y S4).bind fun y S5 => .ok (some y) S5 else .ok none S3).calm
          | none => .no) I.xs [] S1
noncomputable def evs (P : Ph) : CEs → Gm → Sto → R (List E)
  | .nil, _, S => .ok [] S
  | .cons e es, Γ, S => (ev P e Γ S).bind fun x S1 => (evs P es Γ S1).bind fun xs S2 => .ok (x :: xs) S2
noncomputable def evD (P : Ph) : CEs → Gm → Sto → R (List PyData)
  | .nil, _, S => .ok [] S
  | .cons e es, Γ, S => (ev P e Γ S).bind fun x S1 => (dat x S1).bind fun d S1 => (evD P es Γ S1).bind fun xs S2 => .ok (d :: xs) S2
noncomputable def evO (P : Ph) : CO → Gm → Sto → R (Option Int)
  | .none, _, S => .ok none S
  | .some e, Γ, S => (ev P e Γ S).bind fun x S1 => match x with
      | .d (.int i) => .ok (some i) S1
      | _ => .no
noncomputable def evC (P : Ph) : CO → Gm → Sto → R Bool
  | .none, _, S => .ok true S
  | .some e, Γ, S => evT P e Γ S
noncomputable def evI (P : Ph) : CI → Gm → Sto → R Its
  | .seq e, Γ, S => (ev P e Γ S).bind fun x S1 => seqI x S1
  | .rng1 a, Γ, S => (ev P a Γ S).bind fun x S1 => match x with
      | .d (.int j) => @ite _ (-(2 ^ 62) ≤ j ∧ j < 2 ^ 62) (Classical.propDecidable _) (.ok ⟨rangeD 0 j.toNat, none⟩ S1) .no
      | _ => .no
  | .rng2 a b, Γ, S => (ev P a Γ S).bind fun x S1 => (ev P b Γ S1).bind fun y S2 => match x, y with
      | .d (.int i), .d (.int j) => @ite _ (-(2 ^ 62) ≤ i ∧ i < 2 ^ 62 ∧ -(2 ^ 62) ≤ j ∧ j < 2 ^ 62) (Classical.propDecidable _) (.ok ⟨rangeD i (j - i).toNat, none⟩ S2) .no
      | _, _ => .no
  | .zip a b, Γ, S => (ev P a Γ S).bind fun x S1 => (ev P b Γ S1).bind fun y S2 => match x, y with
      | .d x, .d y => match zipD x y with
        | some xs => .ok ⟨xs, none⟩ S2
        | none => .no
      | _, _ => .no
end
/-- a list just made, to be owned -/
def ownE (e : E) (S : Sto) : R E :=
  match e with
  | .d (.list xs) => .ok (.c S.length) (S ++ [.lst xs])
  | _ => .no
mutual
noncomputable def sv (P : Ph) : CS → Gm → Sto → R Flow
  | .asg t e, Γ, S => (ev P e Γ S).bind fun x S1 => match putT t x Γ with
      | some Γ1 => .ok (.nxt Γ1) S1
      | none => .no
  | .own i e, Γ, S => (ev P e Γ S).bind fun x S1 => (ownE x S1).bind fun y S2 => .ok (.nxt (setG Γ i y)) S2
  | .aug i op e, Γ, S => match Γ[i]? with
      | some (some (.d (.int a))) => (ev P e Γ S).bind fun y S1 => match y with
        | .d (.int b) => match augI op a b with
          | some z => .ok (.nxt (setG Γ i (.d (.int z)))) S1
          | none => .no
        | _ => .no
      | _ => .no
  | .par i j a b, Γ, S => (ev P a Γ S).bind fun x S1 => (ev P b Γ S1).bind fun y S2 => .ok (.nxt (setG (setG Γ i x) j y)) S2
  | .sub o i e, Γ, S => (ev P e Γ S).bind fun v S1 => (ev P o Γ S1).bind fun x S2 => (ev P i Γ S2).bind fun y S3 => match subE x y v S3 with
      | some S4 => .ok (.nxt Γ) S4
      | none => .no
  | .exp e, Γ, S => (ev P e Γ S).bind fun _ S1 => .ok (.nxt Γ) S1
  | .ret e, Γ, S => (ev P e Γ S).bind fun x S1 => .ok (.ret x) S1
  | .ret0, _, S => .ok (.ret (.d .none)) S
  | .ite t a b, Γ, S => (evT P t Γ S).bind fun k S1 => if k then svs P a Γ S1 else svs P b Γ S1
  | .loop t it body, Γ, S => (evI P it Γ S).bind fun I S1 =>
      forR I.w I.xs (fun x Γ1 S2 => match putT t (.d x) Γ1 with
        | some Γ2 => svs P body Γ2 S2
        | none => .no) I.xs Γ S1
  | .whl t body, Γ, S => whlR (fun Γ1 S1 => evT P t Γ1 S1) (fun Γ1 S1 => svs P body Γ1 S1) P.fuel Γ S
  | .par3 i j l a b c, Γ, S => (ev P a Γ S).bind fun x S1 => (ev P b Γ S1).bind fun y S2 => (ev P c Γ S2).bind fun z S3 => .ok (.nxt (setG (setG (setG Γ i x) j y) l z)) S3
  | .rais c e, Γ, S => (ev P e Γ S).bind fun x S1 => raisR c x Γ S1
  | .tryx body i hs, Γ, S => catR i hs (svs P body Γ S)
  | .dead, _, _ => .no
  | .pass, Γ, S => .ok (.nxt Γ) S
  | .brk, Γ, S => .ok (.brk Γ) S
  | .cnt, Γ, S => .ok (.cnt Γ) S
noncomputable def svs (P : Ph) : CSs → Gm → Sto → R Flow
  | .nil, Γ, S => .ok (.nxt Γ) S
  | .cons s ss, Γ, S => (sv P s Γ S).bind fun fl S1 => match fl with
      | .nxt Γ1 => svs P ss Γ1 S1
      | fl => .ok fl S1
end

/-! ### defs -/
/-- what a def hands back: its own things of the store are dropped, a list of its own stands still from then on -/
def fin (L : Nat) (e : E) (S : Sto) : R E :=
  match e with
  | .d x => .ok (.d x) (S.take L)
  | .c n => if n < L then .ok (.c n) (S.take L) else match S[n]? with
    | some (.lst xs) => .ok (.d (.list xs)) (S.take L)
    | some (.dct kvs) => .ok (.c L) (S.take L ++ [.dct kvs])
    | _ => .no
structure FD where
  np : Nat
  nl : Nat
  body : CSs
def finR (L : Nat) (r : R Flow) : R E :=
  match r with
  | .ok (.nxt _) S => fin L (.d .none) S
  | .ok (.ret e) S => fin L e S
  | .ok _ _ => .no
  | .err x _ S => .err x [] (S.take L)
  | .no => .no
def begin_ (F : FD) (es : List E) : Gm := es.map some ++ List.replicate (F.nl - es.length) none
noncomputable def callF (T : List FD) (fuel : Nat) (con : List PyData) : Nat → Nat → List E → Sto → R E
  | 0, _, _, _ => .no
  | n + 1, k, es, S => match T[k]? with
    | none => match es with
      | [.d (.int b)] => if b ≤ n then .ok (.d .none) S else .no
      | _ => .no
    | some F => if es.length = F.np then finR S.length (svs ⟨callF T fuel con n, fuel, con⟩ F.body (begin_ F es) S) else .no
end Ht

set_option maxRecDepth 100000
set_option maxHeartbeats 4000000
/-! HtB: how data and the store lie in the abstract heap. -/
namespace Ht
open PySem L2 Evl

/-! ### data in a growing heap -/
section
variable {K : PySem.W.Frag} {G G' : Hp}
mutual
theorem dp_mono (e : Ex G G') : ∀ {v : V} {x : PyData}, Dp K G v x → Dp K G' v x
  | _, _, .non => .non
  | _, _, .bl b => .bl b
  | _, _, .int i => .int i
  | _, _, .str x => .str x
  | _, _, .lst s a => .lst (ex_l e s) (dpa_mono e a)
  | _, _, .tup s a => .tup (ex_t e s) (dpa_mono e a)
theorem dpa_mono (e : Ex G G') : ∀ {vs : List V} {xs : List PyData}, DpAll K G vs xs → DpAll K G' vs xs
  | _, _, .nil => .nil
  | _, _, .cons h t => .cons (dp_mono e h) (dpa_mono e t)
end
theorem dpa_len : ∀ {vs : List V} {xs : List PyData}, DpAll K G vs xs → vs.length = xs.length
  | _, _, .nil => rfl
  | _, _, .cons _ t => by rw [List.length_cons, List.length_cons, dpa_len t]
theorem dpa_get : ∀ {vs : List V} {xs : List PyData} {i : Nat} {x : PyData}, DpAll K G vs xs → xs[i]? = some x → ∃ v, vs[i]? = some v ∧ Dp K G v x
  | _, _, i, _, .nil, h => by simp at h
  | _, _, 0, _, .cons h t, e => ⟨_, rfl, by
    have e' := Option.some.inj e
    rw [← e']
    exact h⟩
  | _, _, i + 1, _, .cons h t, e => dpa_get (i := i) t (by simpa using e)
theorem dpa_app : ∀ {vs ws : List V} {xs ys : List PyData}, DpAll K G vs xs → DpAll K G ws ys → DpAll K G (vs ++ ws) (xs ++ ys)
  | _, _, _, _, .nil, b => b
  | _, _, _, _, .cons h t, b => .cons h (dpa_app t b)
theorem dpa_take : ∀ (n : Nat) {vs : List V} {xs : List PyData}, DpAll K G vs xs → DpAll K G (vs.take n) (xs.take n)
  | 0, _, _, _ => .nil
  | _ + 1, _, _, .nil => .nil
  | n + 1, _, _, .cons h t => .cons h (dpa_take n t)
theorem dpa_drop : ∀ (n : Nat) {vs : List V} {xs : List PyData}, DpAll K G vs xs → DpAll K G (vs.drop n) (xs.drop n)
  | 0, _, _, a => a
  | _ + 1, _, _, .nil => .nil
  | n + 1, _, _, .cons h t => dpa_drop n t
theorem dpa_set {v : V} {x : PyData} (h0 : Dp K G v x) : ∀ (n : Nat) {vs : List V} {xs : List PyData}, DpAll K G vs xs → DpAll K G (vs.set n v) (xs.set n x)
  | _, _, _, .nil => .nil
  | 0, _, _, .cons h t => .cons h0 t
  | n + 1, _, _, .cons h t => .cons h (dpa_set h0 n t)
theorem dpa_rep {vs : List V} {xs : List PyData} (h : DpAll K G vs xs) : ∀ n : Nat, DpAll K G (List.replicate n vs).flatten (List.replicate n xs).flatten
  | 0 => .nil
  | n + 1 => by
    rw [List.replicate_succ, List.replicate_succ, List.flatten_cons, List.flatten_cons]
    exact dpa_app h (dpa_rep h n)
theorem dpa_rev : ∀ {vs : List V} {xs : List PyData}, DpAll K G vs xs → DpAll K G vs.reverse xs.reverse
  | _, _, .nil => .nil
  | _, _, .cons h t => by
    rw [List.reverse_cons, List.reverse_cons]
    exact dpa_app (dpa_rev t) (.cons h .nil)
theorem dpa_ints : ∀ {vs : List V} {xs : List PyData} {ns : List Int}, DpAll K G vs xs → intsOf xs = some ns → vs = ns.map V.int
  | _, _, _, .nil, e => by
    have e' : some [] = some _ := e
    cases e'
    rfl
  | _, _, _, .cons (.int i) t, e => by
    simp only [intsOf, Option.map_eq_some_iff] at e
    obtain ⟨r, e1, e2⟩ := e
    subst e2
    rw [dpa_ints t e1]
    rfl
  | _, _, _, .cons .non t, e => by simp [intsOf] at e
  | _, _, _, .cons (.bl b) t, e => by simp [intsOf] at e
  | _, _, _, .cons (.str b) t, e => by simp [intsOf] at e
  | _, _, _, .cons (.lst _ _) t, e => by simp [intsOf] at e
  | _, _, _, .cons (.tup _ _) t, e => by simp [intsOf] at e
theorem dpa_bools : ∀ {vs : List V} {xs : List PyData} {ns : List Bool}, DpAll K G vs xs → boolsOf xs = some ns → vs = ns.map V.bl
  | _, _, _, .nil, e => by
    have e' : some [] = some _ := e
    cases e'
    rfl
  | _, _, _, .cons (.bl i) t, e => by
    simp only [boolsOf, Option.map_eq_some_iff] at e
    obtain ⟨r, e1, e2⟩ := e
    subst e2
    rw [dpa_bools t e1]
    rfl
  | _, _, _, .cons .non t, e => by simp [boolsOf] at e
  | _, _, _, .cons (.int b) t, e => by simp [boolsOf] at e
  | _, _, _, .cons (.str b) t, e => by simp [boolsOf] at e
  | _, _, _, .cons (.lst _ _) t, e => by simp [boolsOf] at e
  | _, _, _, .cons (.tup _ _) t, e => by simp [boolsOf] at e
theorem dpa_cut {vs : List V} {xs : List PyData} (h : DpAll K G vs xs) (lo hi : Option Int) : DpAll K G (cutV vs lo hi) (cutA xs lo hi) := by
  unfold cutV cutA
  rw [dpa_len h]
  exact dpa_take _ (dpa_drop _ h)
theorem dpa_at {vs : List V} {xs : List PyData} {i : Int} {x : PyData} (h : DpAll K G vs xs) (e : atI xs i = some x) : ∃ v, atI vs i = some v ∧ Dp K G v x := by
  unfold atI at e ⊢
  rw [dpa_len h]
  cases q : ixN xs.length i with
  | none => rw [q] at e; cases e
  | some j =>
    rw [q] at e
    exact dpa_get h e
end

/-! ### the store -/
/-- the errors' classes; the tables of code objects, with the names of what is made by them -/
structure Xs where
  cls : List (Addr × Option Str)
  tabs : List (Addr × Str)
/-- the heap without the store's things (ad) and those that are being made (xt) -/
def hide (xt ad : List Addr) (H : Hp) : Hp := fun a => if a ∈ xt ∨ a ∈ ad then none else H a
section
variable {xt ad more : List Addr} {H : Hp} {a p : Addr} {o : HO}
theorem hide_ex : Ex (hide xt ad H) H := fun a o h => by
  unfold hide at h
  split at h
  · cases h
  · exact h
theorem hide_of (n : a ∉ xt) (n2 : a ∉ ad) : hide xt ad H a = H a := if_neg fun z => z.elim n n2
theorem hide_app : Ex (hide xt (ad ++ more) H) (hide xt ad H) := fun a o h => by
  unfold hide at h ⊢
  split at h
  · cases h
  · rename_i n
    rw [if_neg (fun z => n (z.imp id (List.mem_append_left _)))]
    exact h
theorem hide_cons : Ex (hide (p :: xt) ad H) (hide xt ad H) := fun a o h => by
  unfold hide at h ⊢
  split at h
  · cases h
  · rename_i n
    rw [if_neg (fun z => n (z.imp (List.mem_cons_of_mem _) id))]
    exact h
theorem hide_upd (h : p ∈ xt ∨ p ∈ ad) : hide xt ad (upd H p o) = hide xt ad H := by
  funext a
  unfold hide
  split
  · rfl
  · rename_i n
    rw [upd_ne (fun z => n (by rw [z]; exact h))]
end
abbrev KvOk (K : PySem.W.Frag) (G : Hp) : List (Key × V) → List (Str × PyData) → Prop := Paired fun p q => p.1 = Sum.inr q.1 ∧ Dp K G p.2 q.2
theorem paired_map {α β : Type} {F F' : α → β → Prop} (i : ∀ a b, F a b → F' a b) : ∀ {xs : List α} {ys : List β}, Paired F xs ys → Paired F' xs ys
  | _, _, .nil => .nil
  | _, _, .cons h t => .cons (i _ _ h) (paired_map i t)
def CellOk (K : PySem.W.Frag) (xt ad : List Addr) (H : Hp) (a : Addr) : Cell → Prop
  | .lst ds => ∃ vs, H a = some (.lst vs) ∧ DpAll K (hide xt ad H) vs ds
  | .dct kvs => ∃ ws, H a = some (.dK ws) ∧ KvOk K (hide xt ad H) ws kvs
  | .tab q => ∃ ps : Array Value, H a = some (.tbl ps) ∧ TriplesOk ps.toList ∧ ∀ (pos : Pos) (cv : Value), codeAmong pos ps.toList = some cv → ∃ c, cv = .ref c ∧ hide xt ad H c = some (LamX.CodeO c q)
structure StOk (K : PySem.W.Frag) (T : Xs) (xt ad : List Addr) (S : Sto) (H : Hp) : Prop where
  nd : ad.Nodup
  len : ad.length = S.length
  at' : ∀ (n : Nat) (c : Cell), S[n]? = some c → ∃ a, ad[n]? = some a ∧ CellOk K xt ad H a c
  xs : ∀ a ∈ xt, H a ≠ none ∧ a ∉ ad
  tb : ∀ (j : Nat) (p : Addr × Str), T.tabs[j]? = some p → ad[j]? = some p.1 ∧ S[j]? = some (.tab p.2)
  tn : ∀ (a : Addr) (ps : Array Value), H a = some (.tbl ps) → ∃ p ∈ T.tabs, p.1 = a
  cx : ∀ a ∈ xt, ∀ q : Str, H a ≠ some (LamX.CodeO a q)
def RdE (K : PySem.W.Frag) (xt ad : List Addr) (H : Hp) (v : V) : E → Prop
  | .d x => Dp K (hide xt ad H) v x
  | .c n => ∃ a, ad[n]? = some a ∧ v = .ref a
inductive RdEs (K : PySem.W.Frag) (xt ad : List Addr) (H : Hp) : List V → List E → Prop
  | nil : RdEs K xt ad H [] []
  | cons {v : V} {vs : List V} {e : E} {es : List E} : RdE K xt ad H v e → RdEs K xt ad H vs es → RdEs K xt ad H (v :: vs) (e :: es)
def EnvOk (K : PySem.W.Frag) (xt ad : List Addr) (Γ : Gm) (σ : L2.St) (H : Hp) : Prop :=
  Γ.length = σ.length ∧ ∀ (i : Nat) (e : E), Γ[i]? = some (some e) → ∃ v, σ[i]? = some (some v) ∧ RdE K xt ad H v e
structure Step (xt ad : List Addr) (H : Hp) (ad' : List Addr) (H' : Hp) : Prop where
  pre : ∃ more, ad' = ad ++ more
  ex : Ex (hide xt ad H) (hide xt ad' H')
  cell : ∀ a ∈ ad, H a ≠ none → H' a ≠ none
  xs : ∀ a ∈ xt, H a ≠ none → H' a = H a
section
variable {K : PySem.W.Frag} {T : Xs} {xt ad ad1 ad2 : List Addr} {H H1 H2 : Hp} {S : Sto} {Γ : Gm} {σ : L2.St}
theorem Step.refl : Step xt ad H ad H := ⟨⟨[], (List.append_nil _).symm⟩, Ex.refl _, fun _ _ h => h, fun _ _ _ => rfl⟩
theorem Step.trans (a : Step xt ad H ad1 H1) (b : Step xt ad1 H1 ad2 H2) : Step xt ad H ad2 H2 := by
  obtain ⟨⟨m1, e1⟩, x1, c1, y1⟩ := a
  obtain ⟨⟨m2, e2⟩, x2, c2, y2⟩ := b
  refine ⟨⟨m1 ++ m2, by rw [e2, e1, List.append_assoc]⟩, x1.trans x2, fun a h n => c2 a ?_ (c1 a h n), fun a h n => ?_⟩
  · rw [e1]
    exact List.mem_append_left _ h
  · have q := y1 a h n
    rw [← q] at n
    rw [y2 a h n, q]
theorem Step.get (a : Step xt ad H ad1 H1) {n : Nat} {p : Addr} (h : ad[n]? = some p) : ad1[n]? = some p := by
  obtain ⟨⟨m, e⟩, _, _⟩ := a
  rw [e, List.getElem?_append_left (List.getElem?_eq_some_iff.mp h).1]
  exact h
theorem rdE_step {v : V} {e : E} (st : Step xt ad H ad1 H1) (r : RdE K xt ad H v e) : RdE K xt ad1 H1 v e := by
  cases e with
  | d x => exact dp_mono st.ex r
  | c n =>
    obtain ⟨a, h1, h2⟩ := r
    exact ⟨a, st.get h1, h2⟩
theorem rdEs_step (st : Step xt ad H ad1 H1) : ∀ {vs : List V} {es : List E}, RdEs K xt ad H vs es → RdEs K xt ad1 H1 vs es
  | _, _, .nil => .nil
  | _, _, .cons h t => .cons (rdE_step st h) (rdEs_step st t)
theorem rdEs_len : ∀ {vs : List V} {es : List E}, RdEs K xt ad H vs es → vs.length = es.length
  | _, _, .nil => rfl
  | _, _, .cons _ t => by rw [List.length_cons, List.length_cons, rdEs_len t]
theorem envOk_step (st : Step xt ad H ad1 H1) (r : EnvOk K xt ad Γ σ H) : EnvOk K xt ad1 Γ σ H1 :=
  ⟨r.1, fun i e h => let ⟨v, h1, h2⟩ := r.2 i e h; ⟨v, h1, rdE_step st h2⟩⟩
theorem StOk.mem (so : StOk K T xt ad S H) {a : Addr} (h : a ∈ ad) : H a ≠ none := by
  obtain ⟨n, hn⟩ := List.getElem?_of_mem h
  have hl : n < S.length := by rw [← so.len]; exact (List.getElem?_eq_some_iff.mp hn).1
  obtain ⟨a', e1, c⟩ := so.at' n S[n] (List.getElem?_eq_getElem hl)
  rw [hn] at e1
  cases e1
  cases q : S[n] with
  | lst ds =>
    rw [q] at c
    obtain ⟨vs, e, _⟩ := c
    rw [e]
    exact fun z => nomatch z
  | dct ds =>
    rw [q] at c
    obtain ⟨vs, e, _⟩ := c
    rw [e]
    exact fun z => nomatch z
  | tab ds =>
    rw [q] at c
    obtain ⟨vs, e, _⟩ := c
    rw [e]
    exact fun z => nomatch z
theorem StOk.new_notin (so : StOk K T xt ad S H) {p : Addr} (h : H p = none) : p ∉ ad := fun z => so.mem z h
theorem StOk.new_notxt (so : StOk K T xt ad S H) {p : Addr} (h : H p = none) : p ∉ xt := fun z => (so.xs p z).1 h
/-- fresh behind is fresh ahead -/
theorem StOk.back (so : StOk K T xt ad S H) (st : Step xt ad H ad1 H1) {p : Addr} (h : H1 p = none) : H p = none := by
  cases q : H p with
  | none => rfl
  | some o =>
    by_cases hp : p ∈ ad
    · exact absurd h (st.cell p hp (by rw [q]; exact fun z => nomatch z))
    · by_cases hx : p ∈ xt
      · have := st.xs p hx (by rw [q]; exact fun z => nomatch z)
        rw [h, q] at this
        cases this
      · have := st.ex p o (by rw [hide_of hx hp]; exact q)
        have := hide_ex p o this
        rw [h] at this
        cases this
/-- cells where the heap behind them grew -/
theorem cellOk_ex {xt1 : List Addr} {a : Addr} {c : Cell} (e : H1 a = H a) (x : Ex (hide xt ad H) (hide xt1 ad1 H1)) (h : CellOk K xt ad H a c) : CellOk K xt1 ad1 H1 a c := by
  cases c with
  | lst ds =>
    obtain ⟨vs, h1, h2⟩ := h
    exact ⟨vs, e.trans h1, dpa_mono x h2⟩
  | dct ds =>
    obtain ⟨vs, h1, h2⟩ := h
    exact ⟨vs, e.trans h1, paired_map (fun p q z => ⟨z.1, dp_mono x z.2⟩) h2⟩
  | tab q =>
    obtain ⟨ps, h1, h2, h3⟩ := h
    exact ⟨ps, e.trans h1, h2, fun pos cv hc => let ⟨c, e1, e2⟩ := h3 pos cv hc; ⟨c, e1, x _ _ e2⟩⟩
theorem not_eq_of {p a : Addr} (hp : p ∉ ad) (ha : a ∈ ad) : a ≠ p := fun z => hp (by rw [← z]; exact ha)
theorem tbl_upd {p : Addr} {o : HO} (h : ∀ (a : Addr) (ps : Array Value), H a = some (.tbl ps) → ∃ q ∈ T.tabs, q.1 = a) (hn : (∀ ps, o ≠ .tbl ps) ∨ ∃ q ∈ T.tabs, q.1 = p) : ∀ (a : Addr) (ps : Array Value), upd H p o a = some (.tbl ps) → ∃ q ∈ T.tabs, q.1 = a := by
  intro a ps e
  by_cases q : a = p
  · subst q
    rw [upd_same] at e
    rcases hn with z | z
    · exact absurd (Option.some.inj e) (z ps)
    · exact z
  · rw [upd_ne q] at e
    exact h a ps e
theorem cx_upd {p : Addr} {o : HO} {xt' : List Addr} (h : ∀ a ∈ xt', ∀ q : Str, H a ≠ some (LamX.CodeO a q)) (hn : p ∉ xt' ∨ ∀ q, o ≠ LamX.CodeO p q) : ∀ a ∈ xt', ∀ q : Str, upd H p o a ≠ some (LamX.CodeO a q) := by
  intro a ha q e
  by_cases z : a = p
  · subst z
    rw [upd_same] at e
    rcases hn with w | w
    · exact w ha
    · exact w q (Option.some.inj e)
  · rw [upd_ne z] at e
    exact h a ha q e
/-- a new thing that stands still -/
theorem step_new {p : Addr} {o : HO} (so : StOk K T xt ad S H) (h : H p = none) (hn : ∀ ps, o ≠ .tbl ps := by intro _ z; cases z) : Step xt ad H ad (upd H p o) ∧ StOk K T xt ad S (upd H p o) := by
  have hp := so.new_notin h
  have hx := so.new_notxt h
  have x : Ex (hide xt ad H) (hide xt ad (upd H p o)) := fun a u e => by
    have ha := hide_ex a u e
    have ne := ne_of_none ha h
    unfold hide at e ⊢
    rw [upd_ne ne]
    exact e
  refine ⟨⟨⟨[], (List.append_nil _).symm⟩, x, fun a ha n => ?_, fun a ha n => upd_ne (not_eq_of hx ha)⟩, so.nd, so.len, fun n c e => ?_, fun a ha => ⟨?_, (so.xs a ha).2⟩, so.tb, tbl_upd so.tn (.inl hn), cx_upd so.cx (.inl hx)⟩
  · rw [upd_ne (not_eq_of hp ha)]
    exact n
  · obtain ⟨a, e1, c1⟩ := so.at' n c e
    exact ⟨a, e1, cellOk_ex (upd_ne (not_eq_of hp (List.mem_of_getElem? e1))) x c1⟩
  · rw [upd_ne (not_eq_of hx ha)]
    exact (so.xs a ha).1
theorem nodup_at {α : Type} {l : List α} (hN : l.Nodup) {i j : Nat} {x : α} (a : l[i]? = some x) (b : l[j]? = some x) : i = j := by
  obtain ⟨h1, e1⟩ := List.getElem?_eq_some_iff.mp a
  obtain ⟨h2, e2⟩ := List.getElem?_eq_some_iff.mp b
  exact (List.getElem_inj hN).mp (e1.trans e2.symm)
/-- a thing of the store changes -/
theorem step_set {n : Nat} {p : Addr} {o : HO} {c : Cell} (so : StOk K T xt ad S H) (h : ad[n]? = some p) (hk : ∀ q, S[n]? ≠ some (.tab q)) (hc : CellOk K xt ad (upd H p o) p c) (hn : ∀ ps, o ≠ .tbl ps := by intro _ z; cases z) :
    Step xt ad H ad (upd H p o) ∧ StOk K T xt ad (S.set n c) (upd H p o) := by
  have hp : p ∈ ad := List.mem_of_getElem? h
  have hx : p ∉ xt := fun z => (so.xs p z).2 hp
  have x : Ex (hide xt ad H) (hide xt ad (upd H p o)) := by
    rw [hide_upd (.inr hp)]
    exact Ex.refl _
  refine ⟨⟨⟨[], (List.append_nil _).symm⟩, x, fun a ha z => ?_, fun a ha n => upd_ne (not_eq_of hx ha)⟩, so.nd, by rw [List.length_set, so.len], fun m c' e => ?_, fun a ha => ⟨?_, (so.xs a ha).2⟩, fun j q hj => ⟨(so.tb j q hj).1, ?_⟩, tbl_upd so.tn (.inl hn), cx_upd so.cx (.inl hx)⟩
  · by_cases q : a = p
    · subst q
      rw [upd_same]
      exact fun z => nomatch z
    · rw [upd_ne q]
      exact z
  · by_cases q : n = m
    · subst q
      have hl : n < S.length := by
        have := (List.getElem?_eq_some_iff.mp e).1
        simpa using this
      rw [List.getElem?_set_self hl] at e
      cases e
      exact ⟨p, h, hc⟩
    · rw [List.getElem?_set_ne q] at e
      obtain ⟨a, e1, c1⟩ := so.at' m c' e
      refine ⟨a, e1, cellOk_ex (upd_ne (fun z => ?_)) x c1⟩
      subst z
      exact q (nodup_at so.nd h e1)
  · rw [upd_ne (not_eq_of hx ha)]
    exact (so.xs a ha).1
  · rw [List.getElem?_set_ne (fun z => hk q.2 (by rw [z]; exact (so.tb j q hj).2))]
    exact (so.tb j q hj).2
theorem hide_new {p : Addr} {o : HO} (h : H p = none) : Ex (hide xt ad H) (hide (p :: xt) ad (upd H p o)) := fun a u e => by
  have ha := hide_ex a u e
  have ne := ne_of_none ha h
  unfold hide at e ⊢
  rw [upd_ne ne]
  split at e
  · cases e
  · rename_i n
    rw [if_neg (fun z => z.elim (fun z => (List.mem_cons.mp z).elim ne fun z => n (.inl z)) fun z => n (.inr z))]
    exact e
/-- a thing that is being made: hidden -/
theorem step_hide {p : Addr} {o : HO} (so : StOk K T xt ad S H) (h : H p = none) (hn : ∀ ps, o ≠ .tbl ps := by intro _ z; cases z) (hcd : ∀ q, o ≠ LamX.CodeO p q := by intro _ z; unfold LamX.CodeO at z; cases z) : StOk K T (p :: xt) ad S (upd H p o) ∧ Ex (hide xt ad H) (hide (p :: xt) ad (upd H p o)) := by
  have hp := so.new_notin h
  have hx := so.new_notxt h
  have x : Ex (hide xt ad H) (hide (p :: xt) ad (upd H p o)) := fun a u e => by
    have ha := hide_ex a u e
    have ne := ne_of_none ha h
    unfold hide at e ⊢
    rw [upd_ne ne]
    split at e
    · cases e
    · rename_i n
      rw [if_neg (fun z => z.elim (fun z => (List.mem_cons.mp z).elim ne fun z => n (.inl z)) fun z => n (.inr z))]
      exact e
  refine ⟨⟨so.nd, so.len, fun n c e => ?_, fun a ha => ?_, so.tb, tbl_upd so.tn (.inl hn), fun a ha q => ?_⟩, x⟩
  · obtain ⟨a, e1, c1⟩ := so.at' n c e
    exact ⟨a, e1, cellOk_ex (upd_ne (not_eq_of hp (List.mem_of_getElem? e1))) x c1⟩
  · rcases List.mem_cons.mp ha with z | z
    · subst z
      refine ⟨?_, hp⟩
      rw [upd_same]
      exact fun z => nomatch z
    · rw [upd_ne (not_eq_of hx z)]
      exact so.xs a z
  · rcases List.mem_cons.mp ha with z | z
    · subst z
      rw [upd_same]
      exact fun z => hcd q (Option.some.inj z)
    · rw [upd_ne (not_eq_of hx z)]
      exact so.cx a z q
/-- it changes while it is hidden -/
theorem step_hidden {p : Addr} {o : HO} (so : StOk K T (p :: xt) ad S H) (hn : ∀ ps, o ≠ .tbl ps := by intro _ z; cases z) (hcd : ∀ q, o ≠ LamX.CodeO p q := by intro _ z; unfold LamX.CodeO at z; cases z) : StOk K T (p :: xt) ad S (upd H p o) ∧ hide (p :: xt) ad (upd H p o) = hide (p :: xt) ad H := by
  have hp := (so.xs p List.mem_cons_self).2
  have e0 : hide (p :: xt) ad (upd H p o) = hide (p :: xt) ad H := hide_upd (.inl List.mem_cons_self)
  refine ⟨⟨so.nd, so.len, fun n c e => ?_, fun a ha => ⟨?_, (so.xs a ha).2⟩, so.tb, tbl_upd so.tn (.inl hn), cx_upd so.cx (.inr hcd)⟩, e0⟩
  · obtain ⟨a, e1, c1⟩ := so.at' n c e
    exact ⟨a, e1, cellOk_ex (upd_ne (not_eq_of hp (List.mem_of_getElem? e1))) (by rw [e0]; exact Ex.refl _) c1⟩
  · by_cases q : a = p
    · subst q
      rw [upd_same]
      exact fun z => nomatch z
    · rw [upd_ne q]
      exact (so.xs a ha).1
/-- made: it stands as data -/
theorem step_show {p : Addr} {vs : List V} {ys : List PyData} (so : StOk K T (p :: xt) ad S H) (hx : p ∉ xt) (e : H p = some (.lst vs)) (d : DpAll K (hide (p :: xt) ad H) vs ys) :
    StOk K T xt ad S H ∧ Dp K (hide xt ad H) (.ref p) (.list ys) := by
  have hp := (so.xs p List.mem_cons_self).2
  refine ⟨⟨so.nd, so.len, fun n c e => ?_, fun a ha => so.xs a (List.mem_cons_of_mem _ ha), so.tb, so.tn, fun a ha => so.cx a (List.mem_cons_of_mem _ ha)⟩, .lst (.inl (.inl ?_)) (dpa_mono hide_cons d)⟩
  · obtain ⟨a, e1, c1⟩ := so.at' n c e
    exact ⟨a, e1, cellOk_ex rfl hide_cons c1⟩
  · rw [hide_of hx hp]
    exact e
/-- made: it is a thing of the store -/
theorem step_keep {p : Addr} {c : Cell} (so : StOk K T (p :: xt) ad S H) (hx : p ∉ xt) (hc : CellOk K (p :: xt) ad H p c) :
    StOk K T xt (ad ++ [p]) (S ++ [c]) H ∧ hide xt (ad ++ [p]) H = hide (p :: xt) ad H := by
  have hp := (so.xs p List.mem_cons_self).2
  have e0 : hide xt (ad ++ [p]) H = hide (p :: xt) ad H := by
    funext a
    unfold hide
    have : (a ∈ xt ∨ a ∈ ad ++ [p]) ↔ (a ∈ p :: xt ∨ a ∈ ad) := by
      rw [List.mem_append, List.mem_singleton, List.mem_cons]
      constructor
      · rintro (h | h | h)
        · exact .inl (.inr h)
        · exact .inr h
        · exact .inl (.inl h)
      · rintro ((h | h) | h)
        · exact .inr (.inr h)
        · exact .inl h
        · exact .inr (.inl h)
    simp only [this]
  have x0 : Ex (hide (p :: xt) ad H) (hide xt (ad ++ [p]) H) := by rw [e0]; exact Ex.refl _
  refine ⟨⟨?_, by rw [List.length_append, List.length_append, so.len]; rfl, fun n c' e => ?_, fun a ha => ⟨(so.xs a (List.mem_cons_of_mem _ ha)).1, fun z => ?_⟩, fun j q hj => ⟨?_, ?_⟩, so.tn, fun a ha => so.cx a (List.mem_cons_of_mem _ ha)⟩, e0⟩
  · refine List.nodup_append.mpr ⟨so.nd, by simp, fun a ha b hb z => ?_⟩
    rw [List.mem_singleton] at hb
    subst hb
    subst z
    exact hp ha
  · by_cases hn : n < S.length
    · rw [List.getElem?_append_left hn] at e
      obtain ⟨a, e1, c1⟩ := so.at' n c' e
      refine ⟨a, ?_, cellOk_ex rfl x0 c1⟩
      rw [List.getElem?_append_left (by rw [so.len]; exact hn)]
      exact e1
    · rw [List.getElem?_append_right (by omega)] at e
      have h0 : n - S.length = 0 := by
        have := (List.getElem?_eq_some_iff.mp e).1
        simp at this
        omega
      rw [h0] at e
      have e' : c = c' := by simpa using e
      subst e'
      refine ⟨p, ?_, cellOk_ex rfl x0 hc⟩
      rw [List.getElem?_append_right (by rw [so.len]; omega), so.len, h0]
      rfl
  · rcases List.mem_append.mp z with z | z
    · exact (so.xs a (List.mem_cons_of_mem _ ha)).2 z
    · rw [List.mem_singleton] at z
      rw [z] at ha
      exact hx ha
  · have := (so.tb j q hj).1
    rw [List.getElem?_append_left (List.getElem?_eq_some_iff.mp this).1]
    exact this
  · have := (so.tb j q hj).2
    rw [List.getElem?_append_left (List.getElem?_eq_some_iff.mp this).1]
    exact this
/-- a new thing of the store, at once -/
theorem step_cell {p : Addr} {o : HO} {c : Cell} (so : StOk K T xt ad S H) (h : H p = none) (hc : CellOk K (p :: xt) ad (upd H p o) p c) (hn : ∀ ps, o ≠ .tbl ps := by intro _ z; cases z) (hcd : ∀ q, o ≠ LamX.CodeO p q := by intro _ z; unfold LamX.CodeO at z; cases z) :
    Step xt ad H (ad ++ [p]) (upd H p o) ∧ StOk K T xt (ad ++ [p]) (S ++ [c]) (upd H p o) := by
  have hp := so.new_notin h
  have hx := so.new_notxt h
  obtain ⟨so1, x1⟩ := step_hide (o := o) so h hn hcd
  obtain ⟨so2, e2⟩ := step_keep so1 hx hc
  refine ⟨⟨⟨[p], rfl⟩, by rw [e2]; exact x1, fun a ha n => ?_, fun a ha n => upd_ne (not_eq_of hx ha)⟩, so2⟩
  rw [upd_ne (not_eq_of hp ha)]
  exact n
/-- behind a def its own things are dropped -/
theorem StOk.room (so : StOk K T xt ad S H) : ∀ (j : Nat) (p : Addr × Str), T.tabs[j]? = some p → j < ad.length := fun j p h => (List.getElem?_eq_some_iff.mp (so.tb j p h).1).1
theorem step_drop (hr : ∀ (j : Nat) (p : Addr × Str), T.tabs[j]? = some p → j < ad.length) (so1 : StOk K T xt ad1 S H1) (st : Step xt ad H ad1 H1) : Step xt ad H ad H1 ∧ StOk K T xt ad (S.take ad.length) H1 := by
  obtain ⟨⟨more, e⟩, x, c, y⟩ := st
  subst e
  refine ⟨⟨⟨[], (List.append_nil _).symm⟩, x.trans hide_app, c, y⟩, (List.nodup_append.mp so1.nd).1, ?_, fun n c' e => ?_, fun a ha => ⟨(so1.xs a ha).1, fun z => (so1.xs a ha).2 (List.mem_append_left _ z)⟩, fun j q hj => ⟨?_, ?_⟩, so1.tn, so1.cx⟩
  · have := so1.len
    rw [List.length_append] at this
    rw [List.length_take]
    omega
  · have hn : n < ad.length := by
      have := (List.getElem?_eq_some_iff.mp e).1
      rw [List.length_take] at this
      omega
    rw [List.getElem?_take_of_lt hn] at e
    obtain ⟨a, e1, c1⟩ := so1.at' n c' e
    refine ⟨a, ?_, cellOk_ex rfl hide_app c1⟩
    rw [List.getElem?_append_left hn] at e1
    exact e1
  · have := (so1.tb j q hj).1
    rw [List.getElem?_append_left (hr j q hj)] at this
    exact this
  · rw [List.getElem?_take_of_lt (hr j q hj)]
    exact (so1.tb j q hj).2
/-- what may be read: data, or a list of the store -/
def Pk (K : PySem.W.Frag) (xt ad : List Addr) (H : Hp) (v : V) (x : PyData) : Prop :=
  Dp K (hide xt ad H) v x ∨ ∃ a vs ds, v = .ref a ∧ H a = some (.lst vs) ∧ DpAll K (hide xt ad H) vs ds ∧ x = .list ds
theorem pk_of {v : V} {e : E} {x : PyData} (so : StOk K T xt ad S H) (r : RdE K xt ad H v e) (h : peek e S = some x) : Pk K xt ad H v x := by
  cases e with
  | d y =>
    have : y = x := Option.some.inj h
    subst this
    exact .inl r
  | c n =>
    obtain ⟨a, h1, h2⟩ := r
    simp only [peek] at h
    split at h
    · rename_i xs q
      obtain ⟨a', e1, vs, e2, e3⟩ := so.at' n _ q
      rw [h1] at e1
      cases e1
      exact .inr ⟨a, vs, xs, h2, e2, e3, (Option.some.inj h).symm⟩
    · cases h
theorem Pk.dp {v : V} {x : PyData} (h : Pk K xt ad H v x) : Dp K H v x := by
  rcases h with h | ⟨a, vs, ds, rfl, h1, h2, rfl⟩
  · exact dp_mono hide_ex h
  · exact .lst (SqL.of h1) (dpa_mono hide_ex h2)
theorem Pk.list {v : V} {xs : List PyData} (h : Pk K xt ad H v (.list xs)) : ∃ a vs, v = .ref a ∧ SqL K H a vs ∧ DpAll K (hide xt ad H) vs xs := by
  rcases h with h | ⟨a, vs, ds, rfl, h1, h2, e⟩
  · cases h with
    | lst s a => exact ⟨_, _, rfl, ex_l hide_ex s, a⟩
  · cases e
    exact ⟨a, vs, rfl, SqL.of h1, h2⟩
theorem Pk.tuple {v : V} {xs : List PyData} (h : Pk K xt ad H v (.tuple xs)) : ∃ a vs, v = .ref a ∧ SqT K H a vs ∧ DpAll K (hide xt ad H) vs xs ∧ Dp K (hide xt ad H) v (.tuple xs) := by
  rcases h with h | ⟨a, vs, ds, rfl, h1, h2, e⟩
  · have h0 := h
    cases h with
    | tup s a => exact ⟨_, _, rfl, ex_t hide_ex s, a, h0⟩
  · cases e
theorem Pk.int {v : V} {i : Int} (h : Pk K xt ad H v (.int i)) : v = .int i := by
  rcases h with h | ⟨a, vs, ds, rfl, h1, h2, e⟩
  · cases h; rfl
  · cases e
theorem Pk.bool {v : V} {i : Bool} (h : Pk K xt ad H v (.bool i)) : v = .bl i := by
  rcases h with h | ⟨a, vs, ds, rfl, h1, h2, e⟩
  · cases h; rfl
  · cases e
theorem Pk.str {v : V} {i : Str} (h : Pk K xt ad H v (.str i)) : v = .str i := by
  rcases h with h | ⟨a, vs, ds, rfl, h1, h2, e⟩
  · cases h; rfl
  · cases e
theorem Pk.non {v : V} (h : Pk K xt ad H v .none) : v = .non := by
  rcases h with h | ⟨a, vs, ds, rfl, h1, h2, e⟩
  · cases h; rfl
  · cases e
/-- a new tuple, a new list as data -/
theorem new_tup {p : Addr} {vs : List V} {xs : List PyData} (so : StOk K T xt ad S H) (h : H p = none) (a : DpAll K (hide xt ad H) vs xs) :
    Step xt ad H ad (upd H p (.tup vs)) ∧ StOk K T xt ad S (upd H p (.tup vs)) ∧ Dp K (hide xt ad (upd H p (.tup vs))) (.ref p) (.tuple xs) := by
  obtain ⟨st, so1⟩ := step_new (o := .tup vs) so h
  refine ⟨st, so1, .tup (.inl (.inl ?_)) (dpa_mono st.ex a)⟩
  rw [hide_of (so.new_notxt h) (so.new_notin h), upd_same]
theorem new_lst {p : Addr} {vs : List V} {xs : List PyData} (so : StOk K T xt ad S H) (h : H p = none) (a : DpAll K (hide xt ad H) vs xs) :
    Step xt ad H ad (upd H p (.lst vs)) ∧ StOk K T xt ad S (upd H p (.lst vs)) ∧ Dp K (hide xt ad (upd H p (.lst vs))) (.ref p) (.list xs) := by
  obtain ⟨st, so1⟩ := step_new (o := .lst vs) so h
  refine ⟨st, so1, .lst (.inl (.inl ?_)) (dpa_mono st.ex a)⟩
  rw [hide_of (so.new_notxt h) (so.new_notin h), upd_same]
end

/-! ### what is wanted behind -/
def ExnOk (K : PySem.W.Frag) (T : Xs) (G : Hp) (x : Exn) (cls : Value) (d : Option Addr) : Prop :=
  ∃ C f, T.cls[x.cls]? = some (C, f) ∧ cls = .ref C ∧ match f, x.arg with
    | some f, some y => ∃ dd v, d = some dd ∧ G dd = some (.xd [(f, v)]) ∧ Dp K G v y
    | none, none => True
    | _, _ => False
def Post {α β : Type} (K : PySem.W.Frag) (T : Xs) (W : WX) (xt ad : List Addr) (H : Hp) (Rel : List Addr → Hp → β → α → Prop) (r : R α) (Q : β → Hp → Prop) : Prop :=
  match r with
  | .ok e S => ∀ v ad' H', Step xt ad H ad' H' → StOk K T xt ad' S H' → Rel ad' H' v e → Q v H'
  | .err x Γ S => ∀ cls d ad' H' σ', Step xt ad H ad' H' → StOk K T xt ad' S H' → EnvOk K xt ad' Γ σ' H' → ExnOk K T (hide xt ad' H') x cls d → W cls d σ' H'
  | .no => False
section
variable {α β γ δ : Type} {K : PySem.W.Frag} {T : Xs} {W : WX} {xt ad ad1 : List Addr} {H H1 : Hp}
  {Rel : List Addr → Hp → β → α → Prop} {Rel' : List Addr → Hp → δ → γ → Prop} {r : R α} {Q Q' : β → Hp → Prop}
theorem Post.step (st : Step xt ad H ad1 H1) (h : Post K T W xt ad H Rel r Q) : Post K T W xt ad1 H1 Rel r Q := by
  cases r with
  | ok e S => exact fun v ad' H' s so re => h v ad' H' (st.trans s) so re
  | err x Γ S => exact fun cls d ad' H' σ' s so en xo => h cls d ad' H' σ' (st.trans s) so en xo
  | no => exact h
theorem Post.bind {k : α → Sto → R γ} {Q2 : δ → Hp → Prop} (h : Post K T W xt ad H Rel' (r.bind k) Q2)
    (hk : ∀ e S v ad1 H1, Step xt ad H ad1 H1 → StOk K T xt ad1 S H1 → Rel ad1 H1 v e → Post K T W xt ad1 H1 Rel' (k e S) Q2 → Q v H1) : Post K T W xt ad H Rel r Q := by
  cases r with
  | ok e S => exact fun v ad' H' s so re => hk e S v ad' H' s so re (Post.step s h)
  | err x Γ S => exact h
  | no => exact h
theorem Post.done {e : α} {S : Sto} {v : β} (h : Post K T W xt ad H Rel (.ok e S) Q) (so : StOk K T xt ad S H) (re : Rel ad H v e) : Q v H := h v ad H Step.refl so re
end
end Ht

set_option maxRecDepth 100000
set_option maxHeartbeats 4000000
/-! HtZ: zip of two rows of any kind (list or tuple), and dict(zip(..)). -/
namespace Ht.ZG
open PySem PySem.Spec PyProof.Rows L2
open PySem.Sem (wp)

/-- a row: a list (false), a tuple (true) -/
def Sq (h : Heap) : Bool → Addr → Array Value → Prop
  | false, a, xs => h.IsList a xs
  | true, a, xs => h.IsTuple a xs
def Si (h : Heap) : Bool → Addr → Addr → Nat → Prop
  | false, i, a, n => h.IsListIter i a n
  | true, i, a, n => h.IsTupleIter i a n
section
variable {h g : Heap} {k : Bool} {a b c : Addr} {n : Nat} {xs : Array Value}
theorem Sq.mv (q : Sq h k a xs) (e : ∀ o, h.get? a = some o → g.get? a = some o) : Sq g k a xs := by
  cases k
  · exact Heap.IsList.at q e
  · exact Heap.IsTuple.at q e
theorem Si.mv (q : Si h k a b n) (e : ∀ o, h.get? a = some o → g.get? a = some o) : Si g k a b n := by
  cases k
  · exact Heap.IsListIter.at q e
  · exact Heap.IsTupleIter.at q e
theorem Sq.but (q : Sq h k a xs) (e : Heap.SameBut c h g) (ne : a ≠ c) : Sq g k a xs := q.mv fun o x => e.extBut a o ne x
theorem Si.but (q : Si h k a b n) (e : Heap.SameBut c h g) (ne : a ≠ c) : Si g k a b n := q.mv fun o x => e.extBut a o ne x
theorem Sq.ex (q : Sq h k a xs) : ∃ o, h.get? a = some o := by
  cases k <;> exact let ⟨o, e, _⟩ := q; ⟨o, e⟩
theorem Si.ex (q : Si h k a b n) : ∃ o, h.get? a = some o := by
  cases k <;> exact let ⟨o, e, _⟩ := q; ⟨o, e⟩
theorem Si.exd (q : Si h k a b n) : ∃ o, h.get? a = some o ∧ ∀ v, o.data ≠ .cell v := by
  cases k <;> exact let ⟨o, e, _, d⟩ := q; ⟨o, e, fun v z => by rw [d] at z; cases z⟩
end
/-- a new iterator over a row -/
def itO : Bool → Addr → Obj
  | false, l => { cls := .type "list_iterator", data := .fields #[.ref l, .int 0 0] }
  | true, l => { cls := .type "tuple_iterator", data := .fields #[.ref l, .int 0 0] }
section
variable {prog : Program} {w : World} {A : Around} {E : Value → Shared → Prop} {s : Shared}
theorem nx_some {k : Bool} {it l : Addr} {i : Nat} {items : Array Value} {x : Value} {Q : Value → Shared → Prop} (q : Si s.heap k it l i) (r : Sq s.heap k l items) (hx : items[i]? = some x)
    (hQ : ∀ g, Si g k it l (i + 1) → Heap.SameBut it s.heap g → Q x { s with heap := g }) : wpAny (model prog w) A (Builtin.SmallTypes.nextOf (.ref it)) Q E s := by
  cases k
  · exact wpAny_nextOf_list_item q r hx hQ
  · exact RZ.nextOf_tuple_item q r hx hQ
theorem nx_none {k : Bool} {it l : Addr} {i : Nat} {items : Array Value} {Q : Value → Shared → Prop} (hh : A.handled = none) (q : Si s.heap k it l i) (r : Sq s.heap k l items) (hx : items[i]? = none)
    (hE : ∀ g e, Heap.ExtBut it s.heap g → (∃ o, g.get? e = some o ∧ o.cls = .type "StopIteration") → E (.ref e) { s with heap := g }) : wpAny (model prog w) A (Builtin.SmallTypes.nextOf (.ref it)) Q E s := by
  cases k
  · exact wpAny_nextOf_list_end hh q r hx hE
  · exact RZ.nextOf_tuple_end hh q r hx hE
theorem it_row {k : Bool} {l : Addr} {items : Array Value} {Q : Value → Shared → Prop} (r : Sq s.heap k l items) (hQ : Q (.ref s.heap.objs.size) { s with heap := s.heap.push (itO k l) }) : wpAny (model prog w) A (pyIter (.ref l)) Q E s := by
  cases k
  · exact wpAny_pyIter_list r hQ
  · exact wpAny_pyIter_tuple r hQ
/-- the next pair, the one that was given out before being gone -/
theorem zg_some {k1 k2 : Bool} {z TI TO i1 i2 l1 l2 : Addr} {n1 n2 : Nat} {xs ys : Array Value} {x y a b : Value} {Q : Value → Shared → Prop} (D : ZipApart z TI TO i1 i2 l1 l2)
    (hz : IsZip s.heap z TI TO .none) (hTI : IsPair s.heap TI (.ref i1) (.ref i2)) (hTO : IsPair s.heap TO a b)
    (p1 : Si s.heap k1 i1 l1 n1) (p2 : Si s.heap k2 i2 l2 n2) (r1 : Sq s.heap k1 l1 xs) (r2 : Sq s.heap k2 l2 ys) (hx : xs[n1]? = some x) (hy : ys[n2]? = some y)
    (hQ : ∀ g, IsZip g z TI TO (rawInt s.heap.objs.size) → IsPair g TO x y → Si g k1 i1 l1 (n1 + 1) → Si g k2 i2 l2 (n2 + 1) → IsPair g s.heap.objs.size x y → g.objs.size = s.heap.objs.size + 1 →
      (∀ c o, c ≠ z → c ≠ TO → c ≠ i1 → c ≠ i2 → s.heap.get? c = some o → g.get? c = some o) → Q (.ref s.heap.objs.size) { s with heap := g }) :
    wpAny (model prog w) A (Builtin.«zip.__next__» ⟨[.ref z], []⟩) (fun fin s' => ∃ v, fin = .done (.ret v) ∧ Q v s') E s := by
  show wpAny _ _ (field (.ref z) 2 >>= _) _ _ s
  refine wpAny_bind (wpAny_field (x := .bool false) hz rfl rfl ?_)
  show wpAny _ _ (field (.ref z) 3 >>= _) _ _ s
  refine wpAny_bind (wpAny_field (x := .ref TI) hz rfl rfl ?_)
  refine wpAny_bind (wpAny_seqItems (n := 0) hTI rfl ?_)
  show wpAny _ _ (Builtin.SmallTypes.ownedTupleIsFree (.ref z) >>= _) _ _ s
  refine wpAny_bind ?_
  unfold Builtin.SmallTypes.ownedTupleIsFree
  refine wpAny_bind (wpAny_field (x := .none) hz rfl rfl (wpAny_pure ?_))
  simp only [if_true]
  refine wpAny_bind (wpAny_rule ?_)
  refine wpAny_bind (wpAny_field (x := .ref TO) hz rfl rfl ?_)
  refine wpAny_bind (wpAny_setField_rec hz (by simp) fun g1 z1 b1 => ?_)
  have z1 : IsZip g1 z TI TO .ellipsis := z1
  refine wpAny_bind ?_
  simp only [List.zipIdx_cons, List.zipIdx_nil, List.forIn_cons, List.forIn_nil]
  refine wpAny_bind (wpAny_bind (wpAny_onRaise ?_))
  show wpAny _ _ (Builtin.SmallTypes.nextOf (.ref i1) >>= _) _ _ _
  refine wpAny_bind (nx_some (p1.but b1 D.i1z) (r1.but b1 D.l1z) hx fun g2 q1 b2 => wpAny_pure ?_)
  have t2 : IsPair g2 TO a b := b2.extBut _ _ D.TOi1 (b1.extBut _ _ D.TOz hTO)
  refine wpAny_bind (wpAny_seqItems (n := 0) t2 rfl ?_)
  refine wpAny_bind (wpAny_updateSeq_pair t2 fun g3 t3 b3 => ?_)
  have t3 : IsPair g3 TO x b := t3
  refine wpAny_bind (wpAny_letGo (wpAny_pure ?_))
  refine wpAny_bind (wpAny_bind (wpAny_onRaise ?_))
  show wpAny _ _ (Builtin.SmallTypes.nextOf (.ref i2) >>= _) _ _ _
  refine wpAny_bind (nx_some (((p2.but b1 D.i2z).but b2 D.i12.symm).but b3 D.TOi2.symm) (((r2.but b1 D.l2z).but b2 D.l2i1).but b3 D.l2TO) hy fun g4 q2 b4 => wpAny_pure ?_)
  have t4 : IsPair g4 TO x b := b4.extBut _ _ D.TOi2 t3
  refine wpAny_bind (wpAny_seqItems (n := 0) t4 rfl ?_)
  refine wpAny_bind (wpAny_updateSeq_pair t4 fun g5 t5 b5 => ?_)
  have t5 : IsPair g5 TO x y := t5
  refine wpAny_bind (wpAny_letGo (wpAny_pure (wpAny_pure ?_)))
  refine wpAny_bind (wpAny_seqItems (n := 0) t5 rfl ?_)
  refine wpAny_bind (wpAny_newTuple ?_)
  have sz : g5.objs.size = s.heap.objs.size := by rw [b5.1, b4.1, b3.1, b2.1, b1.1]
  have z5 : IsZip g5 z TI TO .ellipsis := b5.extBut _ _ D.TOz.symm (b4.extBut _ _ D.i2z.symm (b3.extBut _ _ D.TOz.symm (b2.extBut _ _ D.i1z.symm z1)))
  have keep5 : ∀ c o, c ≠ z → c ≠ TO → c ≠ i1 → c ≠ i2 → s.heap.get? c = some o → g5.get? c = some o := fun c o c1 c2 c3 c4 e =>
    b5.extBut c o c2 (b4.extBut c o c4 (b3.extBut c o c2 (b2.extBut c o c3 (b1.extBut c o c1 e))))
  have q15 : Si g5 k1 i1 l1 (n1 + 1) := ((q1.but b3 D.TOi1.symm).but b4 D.i12).but b5 D.TOi1.symm
  have q25 : Si g5 k2 i2 l2 (n2 + 1) := q2.but b5 D.TOi2.symm
  have zlt : z < g5.objs.size := Heap.lt_size z5
  show wpAny _ _ (Builtin.SmallTypes.ownedTupleHandOut (.ref z) (.ref g5.objs.size) >>= _) _ _ _
  refine wpAny_bind ?_
  unfold Builtin.SmallTypes.ownedTupleHandOut
  have z6 : IsZip (g5.push { cls := .type "tuple", data := .seq #[x, y] }) z TI TO .ellipsis := Heap.get?_push_of_some _ z5
  refine wpAny_bind (wpAny_setField_rec z6 (by simp) fun g7 z7 b7 => ?_)
  have z7 : IsZip g7 z TI TO (rawInt g5.objs.size) := z7
  refine wpAny_setField_rec z7 (by simp) fun g8 z8 b8 => ?_
  have z8 : IsZip g8 z TI TO (rawInt g5.objs.size) := z8
  have up : ∀ c o, c ≠ z → g5.get? c = some o → g8.get? c = some o := fun c o ne e => b8.extBut c o ne (b7.extBut c o ne (Heap.get?_push_of_some _ e))
  have t8 : IsPair g8 g5.objs.size x y := b8.extBut _ _ (Nat.ne_of_gt zlt) (b7.extBut _ _ (Nat.ne_of_gt zlt) (Heap.get?_push_size _ rfl))
  have s8 : g8.objs.size = g5.objs.size + 1 := by rw [b8.1, b7.1, Heap.size_push]
  rw [sz] at z8 t8 s8
  refine wpAny_pure ⟨_, rfl, ?_⟩
  show Q (.ref g5.objs.size) _
  rw [sz]
  exact hQ g8 z8 (up _ _ D.TOz t5) (q15.mv fun o e => up _ o D.i1z e) (q25.mv fun o e => up _ o D.i2z e) t8 s8 fun c o c1 c2 c3 c4 e => up c o c1 (keep5 c o c1 c2 c3 c4 e)
theorem zg_none {k1 k2 : Bool} {z TI TO i1 i2 l1 l2 : Addr} {n1 n2 : Nat} {xs ys : Array Value} {a b : Value} {Q : Fin → Shared → Prop} (hh : A.handled = none) (D : ZipApart z TI TO i1 i2 l1 l2)
    (hz : IsZip s.heap z TI TO .none) (hTI : IsPair s.heap TI (.ref i1) (.ref i2)) (hTO : IsPair s.heap TO a b)
    (p1 : Si s.heap k1 i1 l1 n1) (p2 : Si s.heap k2 i2 l2 n2) (r1 : Sq s.heap k1 l1 xs) (r2 : Sq s.heap k2 l2 ys) (hend : xs[n1]? = none ∨ ys[n2]? = none)
    (hE : ∀ g e, (∀ c o, c ≠ z → c ≠ TO → c ≠ i1 → c ≠ i2 → s.heap.get? c = some o → g.get? c = some o) → (∃ o, g.get? e = some o ∧ o.cls = .type "StopIteration") → E (.ref e) { s with heap := g }) :
    wpAny (model prog w) A (Builtin.«zip.__next__» ⟨[.ref z], []⟩) Q E s := by
  show wpAny _ _ (field (.ref z) 2 >>= _) _ _ s
  refine wpAny_bind (wpAny_field (x := .bool false) hz rfl rfl ?_)
  show wpAny _ _ (field (.ref z) 3 >>= _) _ _ s
  refine wpAny_bind (wpAny_field (x := .ref TI) hz rfl rfl ?_)
  refine wpAny_bind (wpAny_seqItems (n := 0) hTI rfl ?_)
  show wpAny _ _ (Builtin.SmallTypes.ownedTupleIsFree (.ref z) >>= _) _ _ s
  refine wpAny_bind ?_
  unfold Builtin.SmallTypes.ownedTupleIsFree
  refine wpAny_bind (wpAny_field (x := .none) hz rfl rfl (wpAny_pure ?_))
  simp only [if_true]
  refine wpAny_bind (wpAny_rule ?_)
  refine wpAny_bind (wpAny_field (x := .ref TO) hz rfl rfl ?_)
  refine wpAny_bind (wpAny_setField_rec hz (by simp) fun g1 z1 b1 => ?_)
  have z1 : IsZip g1 z TI TO .ellipsis := z1
  refine wpAny_bind ?_
  simp only [List.zipIdx_cons, List.zipIdx_nil, List.forIn_cons, List.forIn_nil]
  refine wpAny_bind (wpAny_bind (wpAny_onRaise ?_))
  show wpAny _ _ (Builtin.SmallTypes.nextOf (.ref i1) >>= _) _ _ _
  cases hx : xs[n1]? with
  | none =>
    refine wpAny_bind (nx_none hh (p1.but b1 D.i1z) (r1.but b1 D.l1z) hx fun g2 e b2 he => ?_)
    obtain ⟨oe, hoe, hce⟩ := he
    have z2 : IsZip g2 z TI TO .ellipsis := b2 _ _ D.i1z.symm z1
    have hez : e ≠ z := fun x => by subst x; rw [z2] at hoe; cases hoe; simp at hce
    refine wpAny_setField_rec z2 (by simp) fun g3 _ b3 => hE g3 e (fun c o c1 _ c3 _ x => b3.extBut c o c1 (b2 c o c3 (b1.extBut c o c1 x))) ⟨oe, b3.extBut _ _ hez hoe, hce⟩
  | some x =>
    have hy : ys[n2]? = none := by
      rcases hend with q | q
      · rw [hx] at q; cases q
      · exact q
    refine wpAny_bind (nx_some (p1.but b1 D.i1z) (r1.but b1 D.l1z) hx fun g2 q1 b2 => wpAny_pure ?_)
    have t2 : IsPair g2 TO a b := b2.extBut _ _ D.TOi1 (b1.extBut _ _ D.TOz hTO)
    refine wpAny_bind (wpAny_seqItems (n := 0) t2 rfl ?_)
    refine wpAny_bind (wpAny_updateSeq_pair t2 fun g3 t3 b3 => ?_)
    refine wpAny_bind (wpAny_letGo (wpAny_pure ?_))
    refine wpAny_bind (wpAny_bind (wpAny_onRaise ?_))
    show wpAny _ _ (Builtin.SmallTypes.nextOf (.ref i2) >>= _) _ _ _
    refine wpAny_bind (nx_none hh (((p2.but b1 D.i2z).but b2 D.i12.symm).but b3 D.TOi2.symm) (((r2.but b1 D.l2z).but b2 D.l2i1).but b3 D.l2TO) hy fun g4 e b4 he => ?_)
    obtain ⟨oe, hoe, hce⟩ := he
    have z4 : IsZip g4 z TI TO .ellipsis := b4 _ _ D.i2z.symm (b3.extBut _ _ D.TOz.symm (b2.extBut _ _ D.i1z.symm z1))
    have hez : e ≠ z := fun x => by subst x; rw [z4] at hoe; cases hoe; simp at hce
    refine wpAny_setField_rec z4 (by simp) fun g5 _ b5 => hE g5 e (fun c o c1 c2 c3 c4 x => b5.extBut c o c1 (b4 c o c4 (b3.extBut c o c2 (b2.extBut c o c3 (b1.extBut c o c1 x))))) ⟨oe, b5.extBut _ _ hez hoe, hce⟩
/-- the next pair while the last one is still held -/
theorem zh_some {k1 k2 : Bool} {z TI TO TT i1 i2 l1 l2 : Addr} {f : Bool} {oT : Obj} {n1 n2 : Nat} {xs ys : Array Value} {x y : Value} {Q : Value → Shared → Prop} (D : ZipApart z TI TO i1 i2 l1 l2)
    (hz : IsZipHeld s.heap z TI TO TT f) (hT : s.heap.get? TT = some oT) (hTI : IsPair s.heap TI (.ref i1) (.ref i2))
    (p1 : Si s.heap k1 i1 l1 n1) (p2 : Si s.heap k2 i2 l2 n2) (r1 : Sq s.heap k1 l1 xs) (r2 : Sq s.heap k2 l2 ys) (hx : xs[n1]? = some x) (hy : ys[n2]? = some y)
    (hQ : ∀ g, IsZipHeld g z TI TO TT true → Si g k1 i1 l1 (n1 + 1) → Si g k2 i2 l2 (n2 + 1) → IsPair g s.heap.objs.size x y → g.objs.size = s.heap.objs.size + 1 →
      (∀ c o, c ≠ z → c ≠ i1 → c ≠ i2 → s.heap.get? c = some o → g.get? c = some o) → Q (.ref s.heap.objs.size) { s with heap := g }) :
    wpAny (model prog w) A (Builtin.«zip.__next__» ⟨[.ref z], []⟩) (fun fin s' => ∃ v, fin = .done (.ret v) ∧ Q v s') E s := by
  show wpAny _ _ (field (.ref z) 2 >>= _) _ _ s
  refine wpAny_bind (wpAny_field (x := .bool false) hz rfl rfl ?_)
  show wpAny _ _ (field (.ref z) 3 >>= _) _ _ s
  refine wpAny_bind (wpAny_field (x := .ref TI) hz rfl rfl ?_)
  refine wpAny_bind (wpAny_seqItems (n := 0) hTI rfl ?_)
  show wpAny _ _ (Builtin.SmallTypes.ownedTupleIsFree (.ref z) >>= _) _ _ s
  refine wpAny_bind (wpAny_tupleHeld_zip hz hT fun g1 z1 b1 => ?_)
  simp only [Bool.false_eq_true, if_false]
  refine wpAny_bind ?_
  rw [← Array.forIn_toList]
  simp only [List.forIn_cons, List.forIn_nil]
  refine wpAny_bind (wpAny_bind (wpAny_holding ?_))
  show wpAny _ _ (Builtin.SmallTypes.nextOf (.ref i1) >>= _) _ _ _
  refine wpAny_bind (nx_some (s := { s with heap := g1 }) (p1.but b1 D.i1z) (r1.but b1 D.l1z) hx fun g2 q1 b2 => wpAny_pure ?_)
  refine wpAny_pure ?_
  refine wpAny_bind (wpAny_bind (wpAny_holding ?_))
  show wpAny _ _ (Builtin.SmallTypes.nextOf (.ref i2) >>= _) _ _ _
  refine wpAny_bind (nx_some (s := { s with heap := g2 }) ((p2.but b1 D.i2z).but b2 D.i12.symm) ((r2.but b1 D.l2z).but b2 D.l2i1) hy fun g3 q2 b3 => wpAny_pure ?_)
  refine wpAny_pure (wpAny_pure ?_)
  show wpAny _ _ (newTuple [x, y] >>= _) _ _ _
  refine wpAny_bind (wpAny_newTuple ?_)
  have sz : g3.objs.size = s.heap.objs.size := by rw [b3.1, b2.1, b1.1]
  have z3 : IsZipHeld g3 z TI TO TT true := b3.extBut _ _ D.i2z.symm (b2.extBut _ _ D.i1z.symm z1)
  have kp : ∀ c o, c ≠ z → c ≠ i1 → c ≠ i2 → s.heap.get? c = some o → g3.get? c = some o := fun c o c1 c2 c3 e => b3.extBut c o c3 (b2.extBut c o c2 (b1.extBut c o c1 e))
  have q13 : Si g3 k1 i1 l1 (n1 + 1) := q1.but b3 D.i12
  refine wpAny_pure ⟨_, rfl, ?_⟩
  show Q (.ref g3.objs.size) _
  have hp : IsPair (g3.push { cls := .type "tuple", data := .seq #[x, y] }) g3.objs.size x y := Heap.get?_push_size _ rfl
  have s4 : (g3.push { cls := .type "tuple", data := .seq #[x, y] }).objs.size = g3.objs.size + 1 := Heap.size_push ..
  rw [sz] at hp s4 ⊢
  exact hQ _ (Heap.get?_push_of_some _ z3) (q13.mv fun o e => Heap.get?_push_of_some _ e) (q2.mv fun o e => Heap.get?_push_of_some _ e) hp s4 fun c o c1 c2 c3 e => Heap.get?_push_of_some _ (kp c o c1 c2 c3 e)
theorem zh_none {k1 k2 : Bool} {z TI TO TT i1 i2 l1 l2 : Addr} {f : Bool} {oT : Obj} {n1 n2 : Nat} {xs ys : Array Value} {Q : Fin → Shared → Prop} (hh : A.handled = none) (D : ZipApart z TI TO i1 i2 l1 l2)
    (hz : IsZipHeld s.heap z TI TO TT f) (hT : s.heap.get? TT = some oT) (hTI : IsPair s.heap TI (.ref i1) (.ref i2))
    (p1 : Si s.heap k1 i1 l1 n1) (p2 : Si s.heap k2 i2 l2 n2) (r1 : Sq s.heap k1 l1 xs) (r2 : Sq s.heap k2 l2 ys) (hend : xs[n1]? = none ∨ ys[n2]? = none)
    (hE : ∀ g e, (∀ c o, c ≠ z → c ≠ i1 → c ≠ i2 → s.heap.get? c = some o → g.get? c = some o) → (∃ o, g.get? e = some o ∧ o.cls = .type "StopIteration") → E (.ref e) { s with heap := g }) :
    wpAny (model prog w) A (Builtin.«zip.__next__» ⟨[.ref z], []⟩) Q E s := by
  show wpAny _ _ (field (.ref z) 2 >>= _) _ _ s
  refine wpAny_bind (wpAny_field (x := .bool false) hz rfl rfl ?_)
  show wpAny _ _ (field (.ref z) 3 >>= _) _ _ s
  refine wpAny_bind (wpAny_field (x := .ref TI) hz rfl rfl ?_)
  refine wpAny_bind (wpAny_seqItems (n := 0) hTI rfl ?_)
  show wpAny _ _ (Builtin.SmallTypes.ownedTupleIsFree (.ref z) >>= _) _ _ s
  refine wpAny_bind (wpAny_tupleHeld_zip hz hT fun g1 z1 b1 => ?_)
  simp only [Bool.false_eq_true, if_false]
  refine wpAny_bind ?_
  rw [← Array.forIn_toList]
  simp only [List.forIn_cons, List.forIn_nil]
  refine wpAny_bind (wpAny_bind (wpAny_holding ?_))
  show wpAny _ _ (Builtin.SmallTypes.nextOf (.ref i1) >>= _) _ _ _
  cases hx : xs[n1]? with
  | none =>
    refine wpAny_bind (nx_none (s := { s with heap := g1 }) hh (p1.but b1 D.i1z) (r1.but b1 D.l1z) hx fun g2 e b2 he => ?_)
    exact hE g2 e (fun c o c1 c2 _ q => b2 c o c2 (b1.extBut c o c1 q)) he
  | some x =>
    have hy : ys[n2]? = none := by
      rcases hend with q | q
      · rw [hx] at q; cases q
      · exact q
    refine wpAny_bind (nx_some (s := { s with heap := g1 }) (p1.but b1 D.i1z) (r1.but b1 D.l1z) hx fun g2 q1 b2 => wpAny_pure ?_)
    refine wpAny_pure ?_
    refine wpAny_bind (wpAny_bind (wpAny_holding ?_))
    show wpAny _ _ (Builtin.SmallTypes.nextOf (.ref i2) >>= _) _ _ _
    refine wpAny_bind (nx_none (s := { s with heap := g2 }) hh ((p2.but b1 D.i2z).but b2 D.i12.symm) ((r2.but b1 D.l2z).but b2 D.l2i1) hy fun g3 e b3 he => ?_)
    exact hE g3 e (fun c o c1 c2 c3 q => b3 c o c3 (b2.extBut c o c2 (b1.extBut c o c1 q))) he
theorem py_some {k1 k2 : Bool} {z TI TO i1 i2 l1 l2 : Addr} {n1 n2 : Nat} {xs ys : Array Value} {x y a b : Value} {Q : Option Value → Shared → Prop} (D : ZipApart z TI TO i1 i2 l1 l2)
    (hz : IsZip s.heap z TI TO .none) (hTI : IsPair s.heap TI (.ref i1) (.ref i2)) (hTO : IsPair s.heap TO a b)
    (p1 : Si s.heap k1 i1 l1 n1) (p2 : Si s.heap k2 i2 l2 n2) (r1 : Sq s.heap k1 l1 xs) (r2 : Sq s.heap k2 l2 ys) (hx : xs[n1]? = some x) (hy : ys[n2]? = some y)
    (hQ : ∀ g, IsZip g z TI TO (rawInt s.heap.objs.size) → IsPair g TO x y → Si g k1 i1 l1 (n1 + 1) → Si g k2 i2 l2 (n2 + 1) → IsPair g s.heap.objs.size x y → g.objs.size = s.heap.objs.size + 1 →
      (∀ c o, c ≠ z → c ≠ TO → c ≠ i1 → c ≠ i2 → s.heap.get? c = some o → g.get? c = some o) → Q (some (.ref s.heap.objs.size)) { s with heap := g }) :
    wpAny (model prog w) A (pyNext (.ref z)) Q E s := by
  have ty : s.TypeIs (.ref z) "zip" := ⟨_, hz, rfl⟩
  unfold pyNext
  refine wpAny_bind (wpAny_attempt (wpAny_callSpecial?_slot (name := Str.ofString "__next__") ty F.slot_zip_next ?_))
  exact wpAny_call_entry F.slot_zip_next ty F.entry_zip_next (zg_some D hz hTI hTO p1 p2 r1 r2 hx hy fun g b1 b2 b3 b4 b5 b6 b7 => wpAny_pure (hQ g b1 b2 b3 b4 b5 b6 b7)) (F.args_zip_next_1 _)
theorem py_none {k1 k2 : Bool} {z TI TO i1 i2 l1 l2 : Addr} {n1 n2 : Nat} {xs ys : Array Value} {a b : Value} {Q : Option Value → Shared → Prop} (hh : A.handled = none) (D : ZipApart z TI TO i1 i2 l1 l2)
    (hz : IsZip s.heap z TI TO .none) (hTI : IsPair s.heap TI (.ref i1) (.ref i2)) (hTO : IsPair s.heap TO a b)
    (p1 : Si s.heap k1 i1 l1 n1) (p2 : Si s.heap k2 i2 l2 n2) (r1 : Sq s.heap k1 l1 xs) (r2 : Sq s.heap k2 l2 ys) (hend : xs[n1]? = none ∨ ys[n2]? = none)
    (hQ : ∀ g, (∀ c o, c ≠ z → c ≠ TO → c ≠ i1 → c ≠ i2 → s.heap.get? c = some o → g.get? c = some o) → Q none { s with heap := g }) : wpAny (model prog w) A (pyNext (.ref z)) Q E s := by
  have ty : s.TypeIs (.ref z) "zip" := ⟨_, hz, rfl⟩
  unfold pyNext
  refine wpAny_bind (wpAny_attempt (wpAny_callSpecial?_slot (name := Str.ofString "__next__") ty F.slot_zip_next ?_))
  refine wpAny_call_entry F.slot_zip_next ty F.entry_zip_next (zg_none hh D hz hTI hTO p1 p2 r1 r2 hend fun g e kp he => ?_) (F.args_zip_next_1 _)
  obtain ⟨o, ho, hc⟩ := he
  refine wpAny_bind (wpAny_isInstance (T := "StopIteration") (b := true) ⟨o, ho, hc⟩ isSubtype_stop ?_)
  exact wpAny_pure (hQ g kp)
theorem ph_some {k1 k2 : Bool} {z TI TO TT i1 i2 l1 l2 : Addr} {f : Bool} {oT : Obj} {n1 n2 : Nat} {xs ys : Array Value} {x y : Value} {Q : Option Value → Shared → Prop} (D : ZipApart z TI TO i1 i2 l1 l2)
    (hz : IsZipHeld s.heap z TI TO TT f) (hT : s.heap.get? TT = some oT) (hTI : IsPair s.heap TI (.ref i1) (.ref i2))
    (p1 : Si s.heap k1 i1 l1 n1) (p2 : Si s.heap k2 i2 l2 n2) (r1 : Sq s.heap k1 l1 xs) (r2 : Sq s.heap k2 l2 ys) (hx : xs[n1]? = some x) (hy : ys[n2]? = some y)
    (hQ : ∀ g, IsZipHeld g z TI TO TT true → Si g k1 i1 l1 (n1 + 1) → Si g k2 i2 l2 (n2 + 1) → IsPair g s.heap.objs.size x y → g.objs.size = s.heap.objs.size + 1 →
      (∀ c o, c ≠ z → c ≠ i1 → c ≠ i2 → s.heap.get? c = some o → g.get? c = some o) → Q (some (.ref s.heap.objs.size)) { s with heap := g }) : wpAny (model prog w) A (pyNext (.ref z)) Q E s := by
  have ty : s.TypeIs (.ref z) "zip" := ⟨_, hz, rfl⟩
  unfold pyNext
  refine wpAny_bind (wpAny_attempt (wpAny_callSpecial?_slot (name := Str.ofString "__next__") ty F.slot_zip_next ?_))
  exact wpAny_call_entry F.slot_zip_next ty F.entry_zip_next (zh_some D hz hT hTI p1 p2 r1 r2 hx hy fun g b1 b2 b3 b4 b5 b6 => wpAny_pure (hQ g b1 b2 b3 b4 b5 b6)) (F.args_zip_next_1 _)
theorem ph_none {k1 k2 : Bool} {z TI TO TT i1 i2 l1 l2 : Addr} {f : Bool} {oT : Obj} {n1 n2 : Nat} {xs ys : Array Value} {Q : Option Value → Shared → Prop} (hh : A.handled = none) (D : ZipApart z TI TO i1 i2 l1 l2)
    (hz : IsZipHeld s.heap z TI TO TT f) (hT : s.heap.get? TT = some oT) (hTI : IsPair s.heap TI (.ref i1) (.ref i2))
    (p1 : Si s.heap k1 i1 l1 n1) (p2 : Si s.heap k2 i2 l2 n2) (r1 : Sq s.heap k1 l1 xs) (r2 : Sq s.heap k2 l2 ys) (hend : xs[n1]? = none ∨ ys[n2]? = none)
    (hQ : ∀ g, (∀ c o, c ≠ z → c ≠ i1 → c ≠ i2 → s.heap.get? c = some o → g.get? c = some o) → Q none { s with heap := g }) : wpAny (model prog w) A (pyNext (.ref z)) Q E s := by
  have ty : s.TypeIs (.ref z) "zip" := ⟨_, hz, rfl⟩
  unfold pyNext
  refine wpAny_bind (wpAny_attempt (wpAny_callSpecial?_slot (name := Str.ofString "__next__") ty F.slot_zip_next ?_))
  refine wpAny_call_entry F.slot_zip_next ty F.entry_zip_next (zh_none hh D hz hT hTI p1 p2 r1 r2 hend fun g e kp he => ?_) (F.args_zip_next_1 _)
  obtain ⟨o, ho, hc⟩ := he
  refine wpAny_bind (wpAny_isInstance (T := "StopIteration") (b := true) ⟨o, ho, hc⟩ isSubtype_stop ?_)
  exact wpAny_pure (hQ g kp)
end
/-! ### a new zip -/
abbrev zh1 (k1 : Bool) (h : Heap) (l1 : Addr) : Heap := h.push (itO k1 l1)
abbrev zh2 (k1 k2 : Bool) (h : Heap) (l1 l2 : Addr) : Heap := (zh1 k1 h l1).push (itO k2 l2)
abbrev zh3 (k1 k2 : Bool) (h : Heap) (l1 l2 : Addr) : Heap := (zh2 k1 k2 h l1 l2).push { cls := .type "tuple", data := .seq #[.ref h.objs.size, .ref (zh1 k1 h l1).objs.size] }
abbrev zh4 (k1 k2 : Bool) (h : Heap) (l1 l2 : Addr) : Heap := (zh3 k1 k2 h l1 l2).push { cls := .type "tuple", data := .seq #[.none, .none] }
abbrev zh5 (k1 k2 : Bool) (h : Heap) (l1 l2 : Addr) : Heap := (zh4 k1 k2 h l1 l2).push { cls := .type "zip", data := .fields #[.none, .bool false, .bool false, .ref (zh2 k1 k2 h l1 l2).objs.size, .ref (zh3 k1 k2 h l1 l2).objs.size] }
theorem new_zip (k1 k2 : Bool) (l1 l2 : Addr) (xs ys : Array Value) :
    Meets (Builtin.«zip.__new__» ⟨[.type "zip", .ref l1, .ref l2], []⟩) (fun _ R s => Sq s.heap k1 l1 xs ∧ Sq s.heap k2 l2 ys ∧ R (.ok (.ret (.ref (zh4 k1 k2 s.heap l1 l2).objs.size))) { s with heap := zh5 k1 k2 s.heap l1 l2 }) :=
  .of_wp fun prog w A R s h => by
    obtain ⟨hp, g, d, tk, os⟩ := s
    obtain ⟨r1, r2, h⟩ := h
    have hsub := sub_zip
    have w1 : Sq (Shared.heap ⟨hp, g, d, tk, os⟩) k1 l1 xs := r1
    have w2 : Sq (Shared.heap ⟨hp.push (itO k1 l1), g, d, tk, os⟩) k2 l2 ys := r2.mv fun o e => Heap.get?_push_of_some _ e
    wp_walk using it_row w1, it_row w2
    exact ⟨_, rfl, h⟩
section
variable {prog : Program} {w : World} {A : Around} {E : Value → Shared → Prop} {s : Shared}
theorem si_new {h : Heap} {k : Bool} {i l : Addr} (e : h.get? i = some (itO k l)) : Si h k i l 0 := by
  cases k
  · exact ⟨_, e, rfl, rfl⟩
  · exact ⟨_, e, rfl, rfl⟩
theorem itO_fr (k : Bool) (l : Addr) : (itO k l).isFreed = false := by cases k <;> rfl
theorem call_zipG {k1 k2 : Bool} {l1 l2 : Addr} {xs ys : Array Value} {Q : Value → Shared → Prop} (r1 : Sq s.heap k1 l1 xs) (r2 : Sq s.heap k2 l2 ys)
    (h : ∀ g, IsZip g (s.heap.objs.size + 4) (s.heap.objs.size + 2) (s.heap.objs.size + 3) .none → IsPair g (s.heap.objs.size + 2) (.ref s.heap.objs.size) (.ref (s.heap.objs.size + 1)) →
      IsPair g (s.heap.objs.size + 3) .none .none → Si g k1 s.heap.objs.size l1 0 → Si g k2 (s.heap.objs.size + 1) l2 0 → g.objs.size = s.heap.objs.size + 5 →
      (∀ c o, s.heap.get? c = some o → g.get? c = some o) → Q (.ref (s.heap.objs.size + 4)) { s with heap := g }) :
    wpAny (model prog w) A (call (.type "zip") [.ref l1, .ref l2]) Q E s := by
  refine callType_new F.called_zip (by decide) (F.typeCall_zip_2 _ _) (F.newCall_zip_2 _ _) (fun obj => F.args_object_init_3 obj _ _) F.entry_zip_new (new_zip k1 k2 l1 l2 xs ys) ⟨r1, r2, ?_⟩
  have z1 : (zh1 k1 s.heap l1).objs.size = s.heap.objs.size + 1 := Heap.size_push ..
  have z2 : (zh2 k1 k2 s.heap l1 l2).objs.size = s.heap.objs.size + 2 := by rw [Heap.size_push, z1]
  have z3 : (zh3 k1 k2 s.heap l1 l2).objs.size = s.heap.objs.size + 3 := by rw [Heap.size_push, z2]
  have z4 : (zh4 k1 k2 s.heap l1 l2).objs.size = s.heap.objs.size + 4 := by rw [Heap.size_push, z3]
  have z5 : (zh5 k1 k2 s.heap l1 l2).objs.size = s.heap.objs.size + 5 := by rw [Heap.size_push, z4]
  have e5 : (zh5 k1 k2 s.heap l1 l2).get? (zh4 k1 k2 s.heap l1 l2).objs.size = some _ := Heap.get?_push_size _ rfl
  have e4 : (zh5 k1 k2 s.heap l1 l2).get? (zh3 k1 k2 s.heap l1 l2).objs.size = some _ := Heap.get?_push_of_some _ (Heap.get?_push_size _ rfl)
  have e3 : (zh5 k1 k2 s.heap l1 l2).get? (zh2 k1 k2 s.heap l1 l2).objs.size = some _ := Heap.get?_push_of_some _ (Heap.get?_push_of_some _ (Heap.get?_push_size _ rfl))
  have e2 : (zh5 k1 k2 s.heap l1 l2).get? (zh1 k1 s.heap l1).objs.size = some (itO k2 l2) := Heap.get?_push_of_some _ (Heap.get?_push_of_some _ (Heap.get?_push_of_some _ (Heap.get?_push_size _ (itO_fr k2 l2))))
  have e1 : (zh5 k1 k2 s.heap l1 l2).get? s.heap.objs.size = some (itO k1 l1) := Heap.get?_push_of_some _ (Heap.get?_push_of_some _ (Heap.get?_push_of_some _ (Heap.get?_push_of_some _ (Heap.get?_push_size _ (itO_fr k1 l1)))))
  show _ ∧ _
  rw [z2, z3, z4] at e5
  rw [z1, z2] at e3
  rw [z3] at e4
  rw [z1] at e2
  rw [z4]
  exact ⟨⟨_, e5, rfl⟩, h _ e5 e3 e4 (si_new e1) (si_new e2) z5 fun c o x => Heap.get?_push_of_some _ (Heap.get?_push_of_some _ (Heap.get?_push_of_some _ (Heap.get?_push_of_some _ (Heap.get?_push_of_some _ x))))⟩
end
/-! ### dict(zip(..)) -/
section
variable {prog : Program} {w : World}
theorem pair_arg (k1 k2 : Bool) (z TI TO i1 i2 l1 l2 : Addr) (D : ZipApart z TI TO i1 i2 l1 l2) (xs ys : Array Value) :
    PairArg prog w "zip" z [z, TI, TO, i1, i2, l1, l2] [z, TO, i1, i2] (min xs.size ys.size) (fun i k v => xs[i]? = some k ∧ ys[i]? = some v)
      (fun h => IsZip h z TI TO .none ∧ IsPair h TI (.ref i1) (.ref i2) ∧ (∃ a b, IsPair h TO a b) ∧ Si h k1 i1 l1 0 ∧ Si h k2 i2 l2 0 ∧ Sq h k1 l1 xs ∧ Sq h k2 l2 ys) where
  type := fun s ok => ⟨_, ok.1, rfl⟩
  notDict := by decide
  keep := fun h g ok kp => by
    obtain ⟨e1, e2, ⟨a, b, e3⟩, q1, q2, r1, r2⟩ := ok
    exact ⟨kp _ _ e1, kp _ _ e2, ⟨a, b, kp _ _ e3⟩, q1.mv (kp _), q2.mv (kp _), r1.mv (kp _), r2.mv (kp _)⟩
  there := fun h ok b hb => by
    obtain ⟨e1, e2, ⟨a, c, e3⟩, q1, q2, r1, r2⟩ := ok
    simp only [List.mem_cons, List.not_mem_nil, or_false] at hb
    rcases hb with rfl | rfl | rfl | rfl | rfl | rfl | rfl
    · exact ⟨_, e1⟩
    · exact ⟨_, e2⟩
    · exact ⟨_, e3⟩
    · exact q1.ex
    · exact q2.ex
    · exact r1.ex
    · exact r2.ex
  sub := fun b hb => by
    simp at hb ⊢
    rcases hb with rfl | rfl | rfl | rfl <;> simp
  noKeys := fun A s Q E hA ok h => getAttrOr_miss_zip ok.1 rfl rfl rfl zip_no_keys (by decide +kernel) hA h
  iter := fun A s d Q E hA ok hd hdf h => by
    obtain ⟨e1, e2, ⟨a, b, e3⟩, q1, q2, r1, r2⟩ := ok
    simp only [List.mem_cons, List.not_mem_nil, or_false, not_or] at hdf
    obtain ⟨d1, d2, d3, d4, d5, d6, d7⟩ := hdf
    refine wpAny_pyIter_zip e1 (h z [z, TO, i1, i2] (fun i g => IsPair g TI (.ref i1) (.ref i2) ∧ Si g k1 i1 l1 i ∧ Si g k2 i2 l2 i ∧ Sq g k1 l1 xs ∧ Sq g k2 l2 ys ∧
      ((IsZip g z TI TO .none ∧ ∃ a b, IsPair g TO a b) ∨ ∃ TT f oT, IsZipHeld g z TI TO TT f ∧ g.get? TT = some oT ∧ TT ≠ z ∧ TT ≠ i1 ∧ TT ≠ i2 ∧ TT ≠ d)) s.heap s.toks ?_
      ⟨e2, q1, q2, r1, r2, .inl ⟨e1, a, b, e3⟩⟩ (fun _ _ e => e) fun b hb => .inl hb)
    refine ⟨fun hm => ?_, fun i g1 g2 st kp => ?_, fun i s1 Q1 E1 hi st hds hQ => ?_, fun s1 Q1 E1 st hQ => ?_⟩
    · simp only [List.mem_cons, List.not_mem_nil, or_false] at hm
      rcases hm with e | e | e | e
      · exact d1 e
      · exact d3 e
      · exact d4 e
      · exact d5 e
    · obtain ⟨e2, q1, q2, r1, r2, hz⟩ := st
      refine ⟨kp _ _ (Ne.symm d2) e2, q1.mv fun o => kp _ o (Ne.symm d4), q2.mv fun o => kp _ o (Ne.symm d5), r1.mv fun o => kp _ o (Ne.symm d6), r2.mv fun o => kp _ o (Ne.symm d7), ?_⟩
      rcases hz with ⟨e1, a, b, e3⟩ | ⟨TT, f, oT, e1, hT, n1, n2, n3, n4⟩
      · exact .inl ⟨kp _ _ (Ne.symm d1) e1, a, b, kp _ _ (Ne.symm d3) e3⟩
      · exact .inr ⟨TT, f, oT, kp _ _ (Ne.symm d1) e1, kp _ _ n4 hT, n1, n2, n3, n4⟩
    · obtain ⟨e2, q1, q2, r1, r2, hz⟩ := st
      have ix : i < xs.size := Nat.lt_of_lt_of_le hi (Nat.min_le_left ..)
      have iy : i < ys.size := Nat.lt_of_lt_of_le hi (Nat.min_le_right ..)
      have ex := Array.getElem?_eq_getElem ix
      have ey := Array.getElem?_eq_getElem iy
      have far : ∀ {c o}, s1.heap.get? c = some o → s1.heap.objs.size ≠ c := fun e => Nat.ne_of_gt (Heap.lt_size e)
      have f1 : s1.heap.objs.size ≠ i1 := let ⟨_, e⟩ := q1.ex; far e
      have f2 : s1.heap.objs.size ≠ i2 := let ⟨_, e⟩ := q2.ex; far e
      rcases hz with ⟨e1, a, b, e3⟩ | ⟨TT, f, oT, e1, hT, n1, n2, n3, n4⟩
      · refine py_some D e1 e2 e3 q1 q2 r1 r2 ex ey fun g a1 a2 a3 a4 a5 a6 kp => ?_
        refine hQ s1.heap.objs.size _ _ g s1.toks ⟨ex, ey⟩ (.inl ⟨_, a5, rfl, _, rfl⟩) ⟨kp _ _ D.TIz D.TITO D.TIi1 D.TIi2 e2, a3, a4, r1.mv fun o => kp _ o D.l1z D.l1TO D.l1i1 D.l1i2, r2.mv fun o => kp _ o D.l2z D.l2TO D.l2i1 D.l2i2, .inr ⟨s1.heap.objs.size, false, _, a1, a5, far e1, f1, f2, Nat.ne_of_gt hds⟩⟩ fun c o hc e => ?_
        simp only [List.mem_cons, List.not_mem_nil, or_false, not_or] at hc
        exact kp c o hc.1 hc.2.1 hc.2.2.1 hc.2.2.2 e
      · refine ph_some D e1 hT e2 q1 q2 r1 r2 ex ey fun g a1 a3 a4 a5 a6 kp => ?_
        refine hQ s1.heap.objs.size _ _ g s1.toks ⟨ex, ey⟩ (.inl ⟨_, a5, rfl, _, rfl⟩) ⟨kp _ _ D.TIz D.TIi1 D.TIi2 e2, a3, a4, r1.mv fun o => kp _ o D.l1z D.l1i1 D.l1i2, r2.mv fun o => kp _ o D.l2z D.l2i1 D.l2i2, .inr ⟨TT, true, oT, a1, kp _ _ n1 n2 n3 hT, n1, n2, n3, n4⟩⟩ fun c o hc e => ?_
        simp only [List.mem_cons, List.not_mem_nil, or_false, not_or] at hc
        exact kp c o hc.1 hc.2.2.1 hc.2.2.2 e
    · obtain ⟨e2, q1, q2, r1, r2, hz⟩ := st
      have over : xs[min xs.size ys.size]? = none ∨ ys[min xs.size ys.size]? = none := by
        by_cases q : xs.size ≤ ys.size
        · exact .inl (Array.getElem?_eq_none (by omega))
        · exact .inr (Array.getElem?_eq_none (by omega))
      rcases hz with ⟨e1, a, b, e3⟩ | ⟨TT, f, oT, e1, hT, n1, n2, n3, n4⟩
      · refine py_none hA D e1 e2 e3 q1 q2 r1 r2 over fun g kp => hQ g s1.toks fun c o hc e => ?_
        simp only [List.mem_cons, List.not_mem_nil, or_false, not_or] at hc
        exact kp c o hc.1 hc.2.1 hc.2.2.1 hc.2.2.2 e
      · refine ph_none hA D e1 hT e2 q1 q2 r1 r2 over fun g kp => hQ g s1.toks fun c o hc e => ?_
        simp only [List.mem_cons, List.not_mem_nil, or_false, not_or] at hc
        exact kp c o hc.1 hc.2.2.1 hc.2.2.2 e
end
/-! ### at the hand layer -/
section
variable {X : Cx}
def Row (K : PySem.W.Frag) (H : Hp) (a : Addr) (vs : List V) : Prop := SqL K H a vs ∨ SqT K H a vs
theorem row_of {pins : List (Addr × Obj)} {σ : L2.St} {H : Hp} {s : Shared} (I : Inv X pins σ H s) {a : Addr} {vs : List V} (h : Row X.K H a vs) : ∃ k its, Vals vs its ∧ Sq s.heap k a its.toArray ∧ a < s.heap.objs.size ∧ vs.length ≤ sizeLine := by
  rcases h with h | h
  · obtain ⟨its, rv, p, z⟩ := I.list h
    exact ⟨false, its, rv, p.isList, p.lt, z⟩
  · obtain ⟨its, rv, p, z⟩ := I.tuple h
    have p' : s.heap.IsTuple a its.toArray := p
    obtain ⟨o, e, _⟩ := id p'
    exact ⟨true, its, rv, p', Heap.lt_size e, z⟩
theorem kv_rel : ∀ {ks : List Key} {ys : List V} {us vs : List Value}, Vals (ks.map kV) us → Vals ys vs → KV (ks.zip ys) (ks.zip vs)
  | [], _, _, _, _, _ => .nil
  | k :: ks, [], _, _, _, h => by cases h; exact .nil
  | k :: ks, y :: ys, _, _, .cons _ t, .cons h2 t2 => .cons ⟨rfl, h2⟩ (kv_rel t t2)
theorem zip_is {P : Program} {w : World} : ∀ {ks : List Key} {us vs : List Value}, Vals (ks.map kV) us → ∀ (i : Nat) (k v : Value), us[i]? = some k → vs[i]? = some v → ∃ c, (ks.zip vs)[i]? = some (c, v) ∧ (mixKind P w).is c k = true
  | [], _, _, h, i, k, v, e, _ => by cases h; simp at e
  | c :: ks, us, [], h, i, k, v, _, e => by simp at e
  | c :: ks, _, b :: vs, .cons h t, 0, k, v, e1, e2 => by
    simp only [List.getElem?_cons_zero, Option.some.injEq] at e1 e2
    subst e1 e2
    exact ⟨c, by simp, kV_is h⟩
  | c :: ks, _, b :: vs, .cons h t, i + 1, k, v, e1, e2 => by
    simp only [List.getElem?_cons_succ] at e1 e2
    obtain ⟨d, g1, g2⟩ := zip_is t i k v e1 e2
    exact ⟨d, by simpa using g1, g2⟩
def tDz (K : PySem.W.Frag) (ta : TA) : TE := fun σ H Q => ta σ H fun vs H1 => ∃ (a b : Addr) (ks : List Key) (ys : List V), vs = [.ref a, .ref b] ∧ Row K H1 a (ks.map kV) ∧ Row K H1 b ys ∧ ∀ p, H1 p = none → Q (.ref p) (upd H1 p (.dK (mergeK [] (ks.zip ys))))
theorem pe_dzip {e e2 : Expr} {ta : TA} {p p2 pos pos2 : Pos} (hc : X.calm = true) (gd : Gl X "dict") (md : X.mg "dict" = none) (gz : Gl X "zip") (mz : X.mg "zip" = none) (ha : PA X [e, e2] ta)
    (hs : starEach [e, e2] X.env = (false, eval e X.env) :: starEach [e2] X.env) (hpl : (backTo pos2 (starEach [e2] X.env)).any (·.1) = false) :
    PE X (.Call (.Name "dict" p) [.Call (.Name "zip" p2) [e, e2] [] pos2] [] pos) (tDz X.K ta) := by
  refine ⟨fun pins s σ H Q I h => ?_⟩
  refine Call_ (ld_blt I gd md PyProof.Rows.boot_dict (PyProof.Rows.callWith_type1 ?_))
  show wpAny _ _ (spliced ((false, eval (.Call (.Name "zip" p2) [e, e2] [] pos2) X.env) :: backTo pos (starEach [] X.env))) _ _ s
  refine Calls.spliced_cons ?_
  refine Call_ (ld_blt I gz mz PyProof.Rows.boot_zip (PyProof.Rows.callWith_type1 (thn (ha.run pos2 pins s σ H _ I h) fun us s1 ⟨vs, H1, I1, r1, q1⟩ => ?_) hs hpl))
  obtain ⟨a, b, ks, ys, ex, ra, rb, q⟩ := q1
  subst ex
  cases r1 with
  | cons ra0 rr =>
    cases rr with
    | cons rb0 rr =>
      cases rr
      cases ra0
      cases rb0
      obtain ⟨k1, its, v1, w1, lt1, z1⟩ := row_of I1 ra
      obtain ⟨k2, its2, v2, w2, lt2, z2⟩ := row_of I1 rb
      refine call_zipG w1 w2 fun g hz hTI hTO h1 h2 hsz hk => ?_
      refine Calls.spliced_nil ?_
      have D := PySem.W.ktu_apart s1.heap.objs.size a b lt1 lt2
      have I2 : Inv X pins σ H1 { s1 with heap := g } := I1.kept (t' := s1.toks) hk
      have rel : KV (ks.zip ys) (ks.zip its2) := kv_rel v1 v2
      have len1 := v1.length
      have len2 := v2.length
      rw [List.length_map] at len1
      refine PySem.call_dict_pairs (knd := mixKind X.prog X.w) (kvs := ks.zip its2) (s := { s1 with heap := g }) (pair_arg k1 k2 (s1.heap.objs.size + 4) (s1.heap.objs.size + 2) (s1.heap.objs.size + 3) s1.heap.objs.size (s1.heap.objs.size + 1) a b D its.toArray its2.toArray) (I2.ok.hd hc)
        ⟨hz, hTI, ⟨_, _, hTO⟩, h1, h2, w1.mv (hk _), w2.mv (hk _)⟩ ⟨by simp [List.length_zip]; omega, fun i k v hr => zip_is v1 i k v (by simpa using hr.1) (by simpa using hr.2)⟩ (by simp; rw [List.length_map] at z1; omega) fun g2 tk hd2 hk2 => ?_
      have hm : (g.objs.size == sysModules) = false := beq_eq_false_iff_ne.mpr (Nat.ne_of_gt I2.big)
      have hlen : (mergeK [] (ks.zip ys)).length ≤ sizeLine := by
        refine Nat.le_trans (length_mergeK _ _) ?_
        rw [List.length_nil, Nat.zero_add, List.length_zip]
        omega
      have fresh : ∀ c, s1.heap.objs.size ≤ c → FpOk X pins H1 c := fun c hle => I1.fpOk hle (I1.hok.fresh hle)
      refine ⟨.ref g.objs.size, upd H1 g.objs.size (.dK (mergeK [] (ks.zip ys))), ?_, rfl, q _ (I2.hok.fresh (Nat.le_refl _))⟩
      refine Inv.turnedNew (s := { s1 with heap := g }) (t' := tk) (ch := [s1.heap.objs.size + 4, s1.heap.objs.size + 3, s1.heap.objs.size, s1.heap.objs.size + 1]) I2 (fun c o hc2 e => hk2 c o hc2 e) (fun c hcm => fresh c ?_) (Nat.le_refl _) ?_
      · simp only [List.mem_cons, List.not_mem_nil, or_false] at hcm
        rcases hcm with q | q | q | q
        · rw [q]; exact Nat.le_add_right _ 4
        · rw [q]; exact Nat.le_add_right _ 3
        · exact Nat.le_of_eq q.symm
        · rw [q]; exact Nat.le_add_right _ 1
      · exact ⟨hlen, hm, merged [] (ks.zip its2), KV.merge rel .nil, hd2⟩
end
/-! ### xs.extend(ys), ys any row -/
section
variable {X : Cx}
theorem ext_lst (l : Addr) (ps : Array Value) (n : Nat) (b : Addr) (qs : Array Value) (m : Nat) (dc : Option Addr) (sl : Array (Option Value)) (h0 : ¬(!ps.isEmpty && Builtin.List.listTooLong (ps.size + qs.size)) = true) (h1 : ps.size ≤ sizeLine) (h2 : ps.size + qs.size ≤ sizeLine + 1) :
    Meets (Builtin.«list.extend» ⟨[.ref l, .ref b], []⟩) (fun _ R s => s.heap.get? l = some { cls := .type "list", dict := none, data := .seq ps n, slots := #[] } ∧ s.heap.get? b = some { cls := .type "list", dict := dc, data := .seq qs m, slots := sl } ∧ R (.ok (.ret Value.none)) { s with heap := s.heap.update l (Obj.mapSeq fun x => x ++ qs), toks := s.toks }) :=
  .of_wp fun prog w A R s h => by
    obtain ⟨hp, g, d, tk, os⟩ := s
    obtain ⟨el, eb, h⟩ := h
    have j1 := AutoSeq1.idx_int
    have j2 := AutoSeq1.sub_tuple_tuple
    have j3 := AutoSeq1.sub_list_list
    have j4 := AutoSeq1.sub_tuple_list
    have j5 := AutoSeq1.sub_list_tuple
    have j6 : (ps ++ qs).size ≤ sizeLine + 1 := by rw [Array.size_append]; exact h2
    wp_walk using (wpAny_updateSeq el rfl (hz := h1) (_hz' := j6)), AutoSeq1.wpAny_loadPart' el, AutoSeq1.wpAny_loadPart' eb
    exact ⟨_, rfl, h⟩
theorem ext_tup (l : Addr) (ps : Array Value) (n : Nat) (b : Addr) (qs : Array Value) (m : Nat) (dc : Option Addr) (sl : Array (Option Value)) (h0 : ¬(!ps.isEmpty && Builtin.List.listTooLong (ps.size + qs.size)) = true) (h1 : ps.size ≤ sizeLine) (h2 : ps.size + qs.size ≤ sizeLine + 1) :
    Meets (Builtin.«list.extend» ⟨[.ref l, .ref b], []⟩) (fun _ R s => s.heap.get? l = some { cls := .type "list", dict := none, data := .seq ps n, slots := #[] } ∧ s.heap.get? b = some { cls := .type "tuple", dict := dc, data := .seq qs m, slots := sl } ∧ R (.ok (.ret Value.none)) { s with heap := s.heap.update l (Obj.mapSeq fun x => x ++ qs), toks := s.toks }) :=
  .of_wp fun prog w A R s h => by
    obtain ⟨hp, g, d, tk, os⟩ := s
    obtain ⟨el, eb, h⟩ := h
    have j1 := AutoSeq1.idx_int
    have j2 := AutoSeq1.sub_tuple_tuple
    have j3 := AutoSeq1.sub_list_list
    have j4 := AutoSeq1.sub_tuple_list
    have j5 := AutoSeq1.sub_list_tuple
    have j6 : (ps ++ qs).size ≤ sizeLine + 1 := by rw [Array.size_append]; exact h2
    wp_walk using (wpAny_updateSeq el rfl (hz := h1) (_hz' := j6)), AutoSeq1.wpAny_loadPart' el, AutoSeq1.wpAny_loadPart' eb
    exact ⟨_, rfl, h⟩
def rExtA (K : PySem.W.Frag) : V → List V → Hp → VK → Prop := fun x vs H Q => ∃ l b xs zs, x = .ref l ∧ vs = [.ref b] ∧ H l = some (.lst xs) ∧ Row K H b zs ∧ xs.length + zs.length ≤ sizeLine ∧ Q .non (upd H l (.lst (xs ++ zs)))
theorem mt_extA : MtM X "list.extend" (rExtA X.K) := by
  intro pins s σ H x vs v us Q I rx rv h
  obtain ⟨l, b, xs, zs, rfl, rfl, hH, hB, hz, q⟩ := h
  cases rx
  obtain ⟨u, rfl, ru⟩ := rv.one
  cases ru
  obtain ⟨z, its, n, r, hl, e⟩ := I.lstM hH
  obtain ⟨k, its2, r2, sq, _, _⟩ := row_of I hB
  have hl2 := r2.length
  have hl1 := r.length
  have hs : its.toArray.size + its2.toArray.size ≤ sizeLine := by rw [List.size_toArray, List.size_toArray]; omega
  have lg : ¬ (!its.toArray.isEmpty && Builtin.List.listTooLong (its.toArray.size + its2.toArray.size)) = true := by
    rw [notLongL hs, Bool.and_false]
    exact Bool.false_ne_true
  have done : ∀ g, g = s.heap.update l (Obj.mapSeq fun x => x ++ its2.toArray) → EP X pins σ Q .none { s with heap := g, toks := s.toks } := fun g eg => by
    subst eg
    exact ⟨.non, _, I.lset (its' := its ++ its2) hH e (by simp) (r.append r2) (by rw [List.length_append]; omega), rfl, q⟩
  cases k
  · obtain ⟨⟨c, dc, dt, sl⟩, eb, hc, m, hd⟩ := (show s.heap.IsList b its2.toArray from sq)
    simp only at hc hd
    subst hc hd
    exact call_meets F.slot_list_extend ⟨_, e, rfl⟩ F.entry_list_extend (F.args_list_extend_2 _ _) (ext_lst l its.toArray n b its2.toArray m dc sl lg (by omega) (by omega)) ⟨e, eb, done _ rfl⟩
  · obtain ⟨⟨c, dc, dt, sl⟩, eb, hc, m, hd⟩ := (show s.heap.IsTuple b its2.toArray from sq)
    simp only at hc hd
    subst hc hd
    exact call_meets F.slot_list_extend ⟨_, e, rfl⟩ F.entry_list_extend (F.args_list_extend_2 _ _) (ext_tup l its.toArray n b its2.toArray m dc sl lg (by omega) (by omega)) ⟨e, eb, done _ rfl⟩
end
end Ht.ZG

set_option maxRecDepth 100000
set_option maxHeartbeats 4000000
/-! HtP: a tuple times one, times nothing. -/
namespace Ht
open PySem L2 PySem.Spec PyProof.Rows
theorem tuple_mul1 (l : Addr) (items : Array Value) (n : Nat) (dd : Option Addr) (sl : Array (Option Value)) (u : Tok) (c1 : (items.isEmpty || (1 : Int) == 1) = true) :
    Meets (Builtin.«tuple.__mul__» ⟨[.ref l, .int 1 u], []⟩) (fun _ R s => s.heap.get? l = some { cls := .type "tuple", dict := dd, data := .seq items n, slots := sl } ∧ R (.ok (.ret (Value.ref l))) s) :=
  .of_wp fun prog w A R s h => by
    obtain ⟨hp, g, d, tk, os⟩ := s
    obtain ⟨hl, h⟩ := h
    have f1 := AutoSeq1.idx_int
    have c0 : (decide ((1 : Int) < -(2 ^ 63)) || decide ((1 : Int) ≥ 2 ^ 63)) = false := by decide
    wp_walk using wpAny_loadPart' hl
    repeat (first
      | (refine wpAny_ite_false (decide_eq_false (by rw [c0]; exact Bool.false_ne_true)) ?_; wp_walk using wpAny_loadPart' hl)
      | (refine wpAny_ite_true (decide_eq_true c1) ?_; wp_walk using wpAny_loadPart' hl))
    exact ⟨_, rfl, h⟩
theorem tuple_mul0 (l : Addr) (items : Array Value) (n : Nat) (dd : Option Addr) (sl : Array (Option Value)) (x : Int) (u : Tok) (c0 : (decide (x < -(2 ^ 63)) || decide (x ≥ 2 ^ 63)) = false) (c1 : (items.isEmpty || x == 1) = false) (c2 : (decide (x ≤ 0) || items.isEmpty) = true) :
    Meets (Builtin.«tuple.__mul__» ⟨[.ref l, .int x u], []⟩) (fun _ R s => s.heap.get? l = some { cls := .type "tuple", dict := dd, data := .seq items n, slots := sl } ∧
      R (.ok (.ret (Value.ref s.heap.objs.size))) { s with heap := s.heap.push { cls := Value.type "tuple", data := Data.seq #[] }, toks := s.toks }) :=
  .of_wp fun prog w A R s h => by
    obtain ⟨hp, g, d, tk, os⟩ := s
    obtain ⟨hl, h⟩ := h
    have f1 := AutoSeq1.idx_int
    wp_walk using wpAny_loadPart' hl
    repeat (first
      | (refine wpAny_ite_false (decide_eq_false (by rw [c0]; exact Bool.false_ne_true)) ?_; wp_walk using wpAny_loadPart' hl)
      | (refine wpAny_ite_false (decide_eq_false (by rw [c1]; exact Bool.false_ne_true)) ?_; wp_walk using wpAny_loadPart' hl)
      | (refine wpAny_ite_true (decide_eq_true c2) ?_; wp_walk using wpAny_loadPart' hl))
    exact ⟨_, rfl, h⟩
section
variable {X : Cx}
def rRepTl (K : PySem.W.Frag) : R2 := fun x y H Q => ∃ l k xs, x = .ref l ∧ y = .int k ∧ SqT K H l xs ∧ xs ≠ [] ∧ -1000 ≤ k ∧ k ≤ 1 ∧ (k = 1 → Q (.ref l) H) ∧ (k ≤ 0 → ∀ p, H p = none → Q (.ref p) (upd H p (.tup [])))
theorem op_repTl : OpR X (binaryOp .Mult) (rRepTl X.K) := by
  intro pins s σ H x y v u Q I rx ry h
  obtain ⟨l, k, xs, rfl, rfl, hT, hne, h1, h2, q1, q0⟩ := h
  cases rx
  obtain ⟨t, rfl⟩ := ry
  obtain ⟨its, r, ⟨⟨cls, dd, data, sl⟩, ho, hc, n, hd⟩, hs⟩ := I.tuple hT
  simp only at hc hd
  subst hc hd
  have hle : its.length = xs.length := r.length.symm
  have hn : its ≠ [] := fun e => hne (by
    rw [e] at hle
    exact List.eq_nil_of_length_eq_zero hle.symm)
  have hi : its.toArray.isEmpty = false := by
    cases its with
    | nil => exact absurd rfl hn
    | cons a b => rfl
  by_cases hk : k = 1
  · subst hk
    refine wpAny_binaryOp_repeat_ref (T := "tuple") (U := "int") (by decide) ⟨_, ho, rfl⟩ (fun s' => typeIs_int s' 1 t) noFill_tuple_mul F.fills_int_mul F.slot_int_rmul repeat_tuple F.slot_int_index.lookup
      (call_meets F.slot_int_rmul (typeIs_int s 1 t) F.entry_int_rmul (F.args_int_rmul_2 _ _) (int_rmul_tuple 1 t l its.toArray n dd sl)
        ⟨ho, rfl, ⟨_, ho, rfl⟩, call_meets F.slot_tuple_mul ⟨_, ho, rfl⟩ F.entry_tuple_mul (F.args_tuple_mul_2 _ _) (tuple_mul1 l its.toArray n dd sl t (by rw [hi]; rfl)) ⟨ho, ?_⟩⟩)
    exact ⟨.ref l, H, I, rfl, q1 rfl⟩
  · have hk0 : k ≤ 0 := by omega
    have c0 : (decide (k < -(2 ^ 63)) || decide (k ≥ 2 ^ 63)) = false := by
      rw [decide_eq_false (by omega), decide_eq_false (by omega)] <;> rfl
    have c1 : (its.toArray.isEmpty || k == 1) = false := by
      rw [hi, Bool.false_or]
      exact beq_eq_false_iff_ne.mpr (by omega)
    have c2 : (decide (k ≤ 0) || its.toArray.isEmpty) = true := by
      rw [decide_eq_true hk0, Bool.true_or]
    refine wpAny_binaryOp_repeat_ref (T := "tuple") (U := "int") (by decide) ⟨_, ho, rfl⟩ (fun s' => typeIs_int s' k t) noFill_tuple_mul F.fills_int_mul F.slot_int_rmul repeat_tuple F.slot_int_index.lookup
      (call_meets F.slot_int_rmul (typeIs_int s k t) F.entry_int_rmul (F.args_int_rmul_2 _ _) (int_rmul_tuple k t l its.toArray n dd sl)
        ⟨ho, rfl, ⟨_, ho, rfl⟩, call_meets F.slot_tuple_mul ⟨_, ho, rfl⟩ F.entry_tuple_mul (F.args_tuple_mul_2 _ _) (tuple_mul0 l its.toArray n dd sl k t c0 c1 c2) ⟨ho, ?_⟩⟩)
    refine ⟨.ref s.heap.objs.size, _, I.laid (t' := s.toks) (o := .tup []) (fun b ob q => Heap.get?_push_of_some _ q) (Nat.le_refl _) ?_, rfl, q0 hk0 _ (I.hok.fresh (Nat.le_refl _))⟩
    exact ⟨by show 0 ≤ sizeLine; exact Nat.zero_le _, [], .nil, IsTup.new _ _⟩
end
end Ht

set_option maxRecDepth 100000
set_option maxHeartbeats 4000000
/-! HtC: the operators by data. -/
namespace Ht
open PySem L2 Evl PySem.SeqAt

/-- what an operator's answer z is wanted to be -/
def rD (T : Xs) (K : PySem.W.Frag) (g : PyData → PyData → Option PyData) : R2 := fun x y H Q =>
  ∃ xt ad S d e r, StOk K T xt ad S H ∧ Pk K xt ad H x d ∧ Pk K xt ad H y e ∧ g d e = some r ∧ ∀ z H', Step xt ad H ad H' → StOk K T xt ad S H' → Dp K (hide xt ad H') z r → Q z H'
section
variable {X : Cx} {T : Xs}
theorem some_inj {α : Type} {a b : α} (h : some a = some b) : a = b := Option.some.inj h
theorem list_cat {pins : List (Addr × Obj)} {s : Shared} {σ : L2.St} {H : Hp} {a b : Addr} {xs ys : List V} {Q : VK} (I : Inv X pins σ H s)
    (ha : SqL X.K H a xs) (hb : SqL X.K H b ys) (hz : xs.length + ys.length ≤ sizeLine) (q : ∀ p, H p = none → Q (.ref p) (upd H p (.lst (xs ++ ys)))) :
    wpAny (model X.prog X.w) X.A (binaryOp .Add (.ref a) (.ref b)) (EP X pins σ Q) X.xe s := by
  obtain ⟨its, r, ⟨⟨c1, d1, dd1, sl1⟩, n1, ho, hc, hd, hda⟩, _⟩ := I.list ha
  obtain ⟨its2, r2, ⟨⟨c2, d2, dd2, sl2⟩, n2, ho2, hc2, hd2, hda2⟩, _⟩ := I.list hb
  simp only at hc hd hda hc2 hd2 hda2
  subst hc hd hda hc2 hd2 hda2
  have l1 := r.length
  have l2 := r2.length
  have hs : its.toArray.size + its2.toArray.size ≤ sizeLine := by
    rw [List.size_toArray, List.size_toArray]
    omega
  refine concat_meets ⟨_, ho, rfl⟩ ⟨_, ho2, rfl⟩ noFill_list_add seq_list_add PySem.F.slot_list_add PySem.F.entry_list_add (PySem.F.args_list_add_2 _ _)
    (PyProof.Rows.list_addW a b its.toArray its2.toArray n1 n2 none none sl1 sl2 hs) ⟨ho, ho2, ?_⟩
  have e : its.toArray ++ its2.toArray = (its ++ its2).toArray := by simp
  rw [e]
  exact ⟨.ref _, _, I.lnew (t' := s.toks) (r.append r2) (by rw [List.length_append]; omega), rfl, q _ I.fresh⟩
theorem list_rep {pins : List (Addr × Obj)} {s : Shared} {σ : L2.St} {H : Hp} {a : Addr} {k : Int} {t : Tok} {xs : List V} {Q : VK} (I : Inv X pins σ H s)
    (ha : SqL X.K H a xs) (h1 : -(2 ^ 63 : Int) ≤ k) (h2 : k < 2 ^ 63) (hz : xs.length * k.toNat ≤ sizeLine) (q : ∀ p, H p = none → Q (.ref p) (upd H p (.lst (List.replicate k.toNat xs).flatten))) :
    wpAny (model X.prog X.w) X.A (binaryOp .Mult (.ref a) (.int k t)) (EP X pins σ Q) X.xe s := by
  obtain ⟨its, r, ⟨⟨c1, d1, dd1, sl1⟩, n1, ho, hc, hd, hda⟩, _⟩ := I.list ha
  simp only at hc hd hda
  subst hc hd hda
  have hlen := r.length
  have hs : its.toArray.size * k.toNat ≤ 2 ^ 24 := by
    rw [List.size_toArray, ← hlen]
    exact hz
  refine wpAny_binaryOp_repeat_ref (T := "list") (U := "int") (by decide) ⟨_, ho, rfl⟩ (fun s' => typeIs_int s' k t) noFill_list_mul F.fills_int_mul F.slot_int_rmul repeat_list F.slot_int_index.lookup
    (call_meets F.slot_int_rmul (typeIs_int s k t) F.entry_int_rmul (F.args_int_rmul_2 _ _) (lm_int_rmul_list_any k t a its.toArray n1 none sl1)
      ⟨ho, rfl, ⟨_, ho, rfl⟩, call_meets F.slot_list_mul ⟨_, ho, rfl⟩ F.entry_list_mul (F.args_list_mul_2 _ _)
        (lm_list_mul_any a its.toArray n1 none sl1 k t (by simp [Builtin.List.listFitsIndex]; omega) (by omega) (by simp [Builtin.List.listTooLong, sizeLine]; omega)) ⟨ho, ?_⟩⟩)
  have hnew : List.foldl (fun x1 x2 => x1 ++ x2) #[] (List.replicate (if its.toArray.isEmpty = true then 0 else k.toNat) its.toArray) = (List.replicate k.toNat its).flatten.toArray := by
    have f0 : ∀ m : Nat, List.foldl (fun x1 x2 => x1 ++ x2) #[] (List.replicate m its.toArray) = (List.replicate m its).flatten.toArray := size_rep its
    rw [f0]
    cases its with
    | nil => simp
    | cons b r' => rw [if_neg (by simp)]
  rw [hnew]
  refine ⟨.ref _, _, I.lnew (t' := s.toks) (r.rep k.toNat) ?_, rfl, q _ I.fresh⟩
  rw [PyProof.Rows.lm_len_rep_flat, Nat.mul_comm]
  exact hz
theorem op_binD (op : Operator) : OpR X (binaryOp op) (rD T X.K (binD op)) := by
  intro pins s σ H x y v u Q I rx ry h
  obtain ⟨xt, ad, S, d, e, r, so, px, py, hg, k⟩ := h
  have done : ∀ z, Dp X.K (hide xt ad H) z r → Q z H := fun z hz => k z H Step.refl so hz
  unfold binD at hg
  split at hg
  · rename_i i j
    have er := some_inj hg
    subst er
    exact op_add pins s σ H x y v u Q I rx ry ⟨i, j, px.int, py.int, done _ (.int _)⟩
  · rename_i i j
    split at hg
    · rename_i hz
      have er := some_inj hg
      subst er
      exact op_add_str pins s σ H x y v u Q I rx ry ⟨i, j, px.str, py.str, hz, done _ (.str _)⟩
    · cases hg
  · rename_i xs ys
    split at hg
    · rename_i hz
      have er := some_inj hg
      subst er
      obtain ⟨a, vs, rfl, ha, da⟩ := px.list
      obtain ⟨b, ws, rfl, hb, db⟩ := py.list
      cases rx
      cases ry
      refine list_cat I ha hb (by rw [dpa_len da, dpa_len db]; exact hz) fun p hp => ?_
      obtain ⟨st, so1, dp⟩ := new_lst so hp (dpa_app da db)
      exact k _ _ st so1 dp
    · cases hg
  · rename_i xs ys
    split at hg
    · rename_i hz
      have er := some_inj hg
      subst er
      obtain ⟨a, vs, rfl, ha, da, dx⟩ := px.tuple
      obtain ⟨b, ws, rfl, hb, db, dy⟩ := py.tuple
      refine op_catA pins s σ H _ _ v u Q I rx ry ⟨a, b, vs, ws, rfl, rfl, ha, hb, by rw [dpa_len da, dpa_len db]; exact hz, fun e => ?_, fun n e => ?_, fun n n2 p hp => ?_⟩
      · have : xs = [] := List.eq_nil_of_length_eq_zero (by rw [← dpa_len da, e]; rfl)
        subst this
        exact done _ dy
      · have : ys = [] := List.eq_nil_of_length_eq_zero (by rw [← dpa_len db, e]; rfl)
        subst this
        rw [List.append_nil] at done
        exact done _ dx
      · obtain ⟨st, so1, dp⟩ := new_tup so hp (dpa_app da db)
        exact k _ _ st so1 dp
    · cases hg
  · rename_i i j
    have er := some_inj hg
    subst er
    exact op_sub pins s σ H x y v u Q I rx ry ⟨i, j, px.int, py.int, done _ (.int _)⟩
  · rename_i i j
    split at hg
    · rename_i hz
      have er := some_inj hg
      subst er
      have e1 := px.int
      have e2 := py.int
      subst e1 e2
      obtain ⟨t, rfl⟩ := rx
      obtain ⟨t', rfl⟩ := ry
      exact PyProof.Rows.mul_int ⟨.int _, H, I.tok _, ⟨_, rfl⟩, done _ (.int _)⟩ hz
    · cases hg
  · rename_i xs j
    split at hg
    · rename_i hz
      have er := some_inj hg
      subst er
      obtain ⟨a, vs, rfl, ha, da⟩ := px.list
      have e2 := py.int
      subst e2
      cases rx
      obtain ⟨t', rfl⟩ := ry
      refine list_rep I ha (by omega) (by omega) (by rw [dpa_len da]; exact hz.2.2) fun p hp => ?_
      obtain ⟨st, so1, dp⟩ := new_lst so hp (dpa_rep da j.toNat)
      exact k _ _ st so1 dp
    · cases hg
  · rename_i xs j
    split at hg
    · rename_i hz
      have er := some_inj hg
      subst er
      obtain ⟨a, vs, rfl, ha, da, dx⟩ := px.tuple
      have e2 := py.int
      subst e2
      have hl := dpa_len da
      have hne : vs ≠ [] := fun e => hz.1 (List.eq_nil_of_length_eq_zero (by rw [← hl, e]; rfl))
      by_cases h2 : 2 ≤ j
      · refine op_repT pins s σ H _ _ v u Q I rx ry ⟨a, j, vs, rfl, rfl, ha, hne, h2, hz.2.2.1, by rw [hl]; exact hz.2.2.2, fun p hp => ?_⟩
        obtain ⟨st, so1, dp⟩ := new_tup so hp (dpa_rep da j.toNat)
        exact k _ _ st so1 dp
      · refine op_repTl pins s σ H _ _ v u Q I rx ry ⟨a, j, vs, rfl, rfl, ha, hne, hz.2.1, by omega, fun e1 => ?_, fun e0 p hp => ?_⟩
        · subst e1
          have e : (List.replicate (1 : Int).toNat xs).flatten = xs := by
            rw [show (1 : Int).toNat = 1 from rfl, List.replicate_succ, List.replicate_zero, List.flatten_cons, List.flatten_nil, List.append_nil]
          have k' := k (.ref a) H Step.refl so
          rw [e] at k'
          exact k' dx
        · have e : (List.replicate j.toNat xs).flatten = [] := by
            rw [show j.toNat = 0 by omega, List.replicate_zero, List.flatten_nil]
          rw [e] at k
          obtain ⟨st, so1, dp⟩ := new_tup so hp .nil
          exact k _ _ st so1 dp
    · cases hg
  · rename_i i j
    split at hg
    · rename_i hz
      have er := some_inj hg
      subst er
      have e1 := px.int
      have e2 := py.int
      subst e1 e2
      obtain ⟨t, rfl⟩ := rx
      obtain ⟨t', rfl⟩ := ry
      exact PyProof.Rows.floordiv_int hz.1 ⟨.int _, H, I.tok _, ⟨_, rfl⟩, done _ (.int _)⟩ (.inl (PyProof.noPylong_of_log2 hz.2))
    · cases hg
  · rename_i i j
    split at hg
    · rename_i hz
      have er := some_inj hg
      subst er
      exact op_modN pins s σ H x y v u Q I rx ry ⟨i, j, px.int, py.int, hz, done _ (.int _)⟩
    · cases hg
  · rename_i i j
    split at hg
    · rename_i hz
      have er := some_inj hg
      subst er
      exact op_shl pins s σ H x y v u Q I rx ry ⟨i, j, px.int, py.int, hz, done _ (.int _)⟩
    · cases hg
  · rename_i i j
    split at hg
    · rename_i hz
      have er := some_inj hg
      subst er
      exact op_pow pins s σ H x y v u Q I rx ry ⟨i, j, px.int, py.int, hz, done _ (.int _)⟩
    · cases hg
  · cases hg

/-! ### comparisons -/
def rB (K : PySem.W.Frag) (g : PyData → PyData → Option Bool) : R2 := fun x y H Q =>
  ∃ xt ad d e r, Pk K xt ad H x d ∧ Pk K xt ad H y e ∧ g d e = some r ∧ Q (.bl r) H
theorem flat_V {K : PySem.W.Frag} {G : Hp} {v : V} {x : PyData} (h : Dp K G v x) (f : flatD x = true) : flatV v = true := by
  cases h <;> first | rfl | (simp [flatD] at f)
theorem flats_V {K : PySem.W.Frag} {G : Hp} : ∀ {vs : List V} {xs : List PyData}, DpAll K G vs xs → xs.all flatD = true → vs.all flatV = true
  | _, _, .nil, _ => rfl
  | _, _, .cons h t, f => by
    rw [List.all_cons, Bool.and_eq_true] at f
    rw [List.all_cons, flat_V h f.1, flats_V t f.2]
    rfl
theorem eqV_of {K : PySem.W.Frag} {G : Hp} {v w : V} {x y : PyData} (h : Dp K G v x) (h' : Dp K G w y) (f : flatD x = true) (f' : flatD y = true) : eqV w v = PyData.eqv y x := by
  cases h <;> cases h' <;> first | rfl | (simp [flatD] at f) | (simp [flatD] at f') | simp [eqV, PyData.eqv]
theorem inV_of {K : PySem.W.Frag} {G : Hp} {v : V} {x : PyData} (h : Dp K G v x) (f : flatD x = true) :
    ∀ {vs : List V} {xs : List PyData}, DpAll K G vs xs → xs.all flatD = true → inV v vs = xs.any fun z => PyData.eqv z x
  | _, _, .nil, _ => rfl
  | _, _, .cons h1 t, fs => by
    rw [List.all_cons, Bool.and_eq_true] at fs
    have := inV_of h f t fs.2
    unfold inV at this ⊢
    rw [List.any_cons, List.any_cons, this, eqV_of h h1 f fs.1]
theorem flat_dp {K : PySem.W.Frag} {xt ad : List Addr} {H : Hp} {v : V} {x : PyData} (h : Pk K xt ad H v x) (f : flatD x = true) : Dp K (hide xt ad H) v x := by
  rcases h with h | ⟨a, vs, ds, _, _, _, e⟩
  · exact h
  · subst e
    simp [flatD] at f
theorem seq_of {K : PySem.W.Frag} {xt ad : List Addr} {H : Hp} {v : V} {x : PyData} {xs : List PyData} (h : Pk K xt ad H v x) (e : seqOf x = some xs) :
    ∃ a vs, v = .ref a ∧ (SqL K H a vs ∨ SqT K H a vs) ∧ DpAll K (hide xt ad H) vs xs := by
  cases x with
  | list ys =>
    have e' := some_inj e
    subst e'
    obtain ⟨a, vs, h1, h2, h3⟩ := h.list
    exact ⟨a, vs, h1, .inl h2, h3⟩
  | tuple ys =>
    have e' := some_inj e
    subst e'
    obtain ⟨a, vs, h1, h2, h3, _⟩ := h.tuple
    exact ⟨a, vs, h1, .inr h2, h3⟩
  | _ => cases e
theorem op_inD (hu : X.A.units + 200 < cLine) : OpR X (compareOp .In) (rB X.K inD) := by
  intro pins s σ H x y v u Q I rx ry h
  obtain ⟨xt, ad, d, e, r, px, py, hg, q⟩ := h
  unfold inD at hg
  split at hg
  · split at hg
    · rename_i a b c
      have er := some_inj hg
      subst er
      exact op_in_str pins s σ H x y v u Q I rx ry ⟨_, _, px.str, py.str, q⟩
    · cases hg
  · split at hg
    · rename_i ys hs
      split at hg
      · rename_i hf
        rw [Bool.and_eq_true, Bool.and_eq_true, decide_eq_true_eq] at hf
        have er := some_inj hg
        subst er
        obtain ⟨as, r1⟩ := Dp.reads I _ x v px.dp rx
        obtain ⟨bs, r2⟩ := Dp.reads I _ y u py.dp ry
        unfold seqOf at hs
        split at hs
        · cases (some_inj hs)
          exact SeqAt.in_list_data r2 r1 hf.1.1 hf.1.2 (by have := hf.2; omega) ⟨.bl _, H, I, rfl, q⟩
        · cases (some_inj hs)
          exact SeqAt.in_tuple_data r2 r1 hf.1.1 hf.1.2 (by have := hf.2; omega) ⟨.bl _, H, I, rfl, q⟩
        · cases hs
      · cases hg
    · cases hg
theorem op_notInD (hu : X.A.units + 200 < cLine) : OpR X (compareOp .NotIn) (rB X.K fun a b => (inD a b).map (!·)) := by
  intro pins s σ H x y v u Q I rx ry h
  obtain ⟨xt, ad, d, e, r, px, py, hg, q⟩ := h
  obtain ⟨b, hg', hb⟩ := Option.map_eq_some_iff.mp hg
  clear hg
  subst hb
  have hg := hg'
  unfold inD at hg
  split at hg
  · split at hg
    · rename_i a b c
      have er := some_inj hg
      subst er
      exact op_notIn_str pins s σ H x y v u Q I rx ry ⟨_, _, px.str, py.str, q⟩
    · cases hg
  · split at hg
    · rename_i ys hs
      split at hg
      · rename_i hf
        rw [Bool.and_eq_true, Bool.and_eq_true, decide_eq_true_eq] at hf
        have er := some_inj hg
        subst er
        obtain ⟨as, r1⟩ := Dp.reads I _ x v px.dp rx
        obtain ⟨bs, r2⟩ := Dp.reads I _ y u py.dp ry
        unfold seqOf at hs
        split at hs
        · cases (some_inj hs)
          exact SeqAt.notIn_list_data r2 r1 hf.1.1 hf.1.2 (by have := hf.2; omega) ⟨.bl _, H, I, rfl, q⟩
        · cases (some_inj hs)
          exact SeqAt.notIn_tuple_data r2 r1 hf.1.1 hf.1.2 (by have := hf.2; omega) ⟨.bl _, H, I, rfl, q⟩
        · cases hs
      · cases hg
    · cases hg
theorem non_iff {K : PySem.W.Frag} {xt ad : List Addr} {H : Hp} {v : V} {x : PyData} (h : Pk K xt ad H v x) : decide (v = .non) = isNon x := by
  rcases h with h | ⟨a, vs, ds, rfl, _, _, e⟩
  · cases h <;> rfl
  · subst e
    rfl
theorem op_cmpD (hu : X.A.units + 200 < cLine) (op : CmpOp) : OpR X (compareOp op) (rB X.K (cmpD op)) := by
  intro pins s σ H x y v u Q I rx ry h
  have h0 := h
  obtain ⟨xt, ad, d, e, r, px, py, hg, q⟩ := h
  unfold cmpD at hg
  split at hg
  · split at hg
    · rename_i ho
      unfold eqOk at ho
      rw [Bool.and_eq_true, Bool.and_eq_true, decide_eq_true_eq] at ho
      have er := some_inj hg
      subst er
      obtain ⟨as, r1⟩ := Dp.reads I _ x v px.dp rx
      obtain ⟨bs, r2⟩ := Dp.reads I _ y u py.dp ry
      exact SeqAt.eq_plain r1 r2 ho.1.1 ho.1.2 (by have := ho.2; omega) ⟨.bl _, H, I, rfl, q⟩
    · cases hg
  · split at hg
    · rename_i ho
      unfold eqOk at ho
      rw [Bool.and_eq_true, Bool.and_eq_true, decide_eq_true_eq] at ho
      have er := some_inj hg
      subst er
      obtain ⟨as, r1⟩ := Dp.reads I _ x v px.dp rx
      obtain ⟨bs, r2⟩ := Dp.reads I _ y u py.dp ry
      exact SeqAt.ne_plain r1 r2 ho.1.1 ho.1.2 (by have := ho.2; omega) ⟨.bl _, H, I, rfl, q⟩
    · cases hg
  · rename_i i j
    have er := some_inj hg
    subst er
    exact op_lt pins s σ H x y v u Q I rx ry ⟨i, j, px.int, py.int, q⟩
  · rename_i i j
    have er := some_inj hg
    subst er
    exact op_le pins s σ H x y v u Q I rx ry ⟨i, j, px.int, py.int, q⟩
  · rename_i i j
    have er := some_inj hg
    subst er
    exact op_gt pins s σ H x y v u Q I rx ry ⟨i, j, px.int, py.int, q⟩
  · rename_i i j
    have er := some_inj hg
    subst er
    exact op_ge pins s σ H x y v u Q I rx ry ⟨i, j, px.int, py.int, q⟩
  · exact op_inD hu pins s σ H x y v u Q I rx ry ⟨xt, ad, _, _, r, px, py, hg, q⟩
  · exact op_notInD hu pins s σ H x y v u Q I rx ry ⟨xt, ad, _, _, r, px, py, hg, q⟩
  · have er := some_inj hg
    subst er
    refine op_isN pins s σ H x y v u Q I rx ry ⟨py.non, ?_⟩
    rw [non_iff px]
    exact q
  · have er := some_inj hg
    subst er
    refine op_notN pins s σ H x y v u Q I rx ry ⟨py.non, ?_⟩
    rw [non_iff px]
    exact q
  · cases hg
end
end Ht

set_option maxRecDepth 100000
set_option maxHeartbeats 4000000
/-! HtD: places, slices, built-ins, methods by data. -/
namespace Ht
open PySem L2 Evl PySem.SeqAt

section
variable {K : PySem.W.Frag} {xt ad : List Addr} {G H : Hp} {S : Sto}
/-! ### dicts with texts as keys -/
theorem kv_lookup {ws : List (Key × V)} {kvs : List (Str × PyData)} (r : KvOk K G ws kvs) {k : Str} {d : PyData} (e : kvs.lookup k = some d) : ∃ v, valV ws (.inr k) = some v ∧ Dp K G v d := by
  induction r with
  | nil => cases e
  | @cons p q ps qs h t ih =>
    obtain ⟨k', v'⟩ := p
    obtain ⟨k2, d2⟩ := q
    obtain ⟨h1, h2⟩ := h
    simp only at h1 h2
    subst h1
    rw [List.lookup_cons] at e
    by_cases hk : k = k2
    · subst hk
      simp only [beq_self_eq_true] at e
      cases e
      refine ⟨v', ?_, h2⟩
      unfold valV
      rw [List.find?_cons_of_pos (by simp)]
      rfl
    · have : (k == k2) = false := by simpa using hk
      rw [this] at e
      obtain ⟨v, hv, hd⟩ := ih e
      refine ⟨v, ?_, hd⟩
      unfold valV at hv ⊢
      rw [List.find?_cons_of_neg (by simpa using fun z => hk z.symm)]
      exact hv
theorem kv_some {ws : List (Key × V)} {kvs : List (Str × PyData)} (r : KvOk K G ws kvs) {k : Str} (e : (kvs.lookup k).isSome = true) : (ws.any fun kv => decide (kv.1 = (.inr k : Key))) = true := by
  obtain ⟨d, hd⟩ := Option.isSome_iff_exists.mp e
  obtain ⟨v, hv, _⟩ := kv_lookup r hd
  unfold valV at hv
  obtain ⟨p, hp, _⟩ := Option.map_eq_some_iff.mp hv
  have hq := List.find?_some hp
  exact List.any_eq_true.mpr ⟨p, List.mem_of_find?_eq_some hp, hq⟩
theorem kv_put {v : V} {d : PyData} (hd : Dp K G v d) {k : Str} : ∀ {ws : List (Key × V)} {kvs : List (Str × PyData)}, KvOk K G ws kvs →
    KvOk K G (ws.map fun kv => if kv.1 = (.inr k : Key) then (kv.1, v) else kv) (putS kvs k d)
  | _, _, .nil => .nil
  | (k', v') :: ps, (k2, d2) :: qs, .cons h t => by
    obtain ⟨h1, h2⟩ := h
    simp only at h1 h2
    subst h1
    unfold putS
    rw [List.map_cons, List.map_cons]
    refine .cons ?_ (kv_put hd t)
    by_cases hk : k2 = k
    · subst hk
      rw [if_pos rfl, if_pos rfl]
      exact ⟨rfl, hd⟩
    · rw [if_neg (fun z => hk (Sum.inr.inj z)), if_neg hk]
      exact ⟨rfl, h2⟩
theorem kv_len : ∀ {ws : List (Key × V)} {kvs : List (Str × PyData)}, KvOk K G ws kvs → ws.length = kvs.length
  | _, _, .nil => rfl
  | _, _, .cons _ t => by rw [List.length_cons, List.length_cons, kv_len t]
theorem putK_new {kvs : List (Key × V)} {k : Key} {v : V} (h : ∀ p ∈ kvs, p.1 ≠ k) : L2.putK kvs k v = kvs ++ [(k, v)] := by
  unfold L2.putK
  rw [if_neg]
  intro z
  obtain ⟨p, hp, e⟩ := List.any_eq_true.mp z
  exact h p hp (of_decide_eq_true e)
theorem mergeK_new : ∀ (more kvs : List (Key × V)), (kvs ++ more).Pairwise (fun a b => a.1 ≠ b.1) → mergeK kvs more = kvs ++ more
  | [], kvs, _ => (List.append_nil _).symm
  | p :: r, kvs, h => by
    have h1 : ∀ q ∈ kvs, q.1 ≠ p.1 := fun q hq => (List.pairwise_append.mp h).2.2 q hq p List.mem_cons_self
    show mergeK (L2.putK kvs p.1 p.2) r = _
    rw [putK_new h1]
    have e : kvs ++ p :: r = (kvs ++ [p]) ++ r := by simp
    rw [e] at h ⊢
    exact mergeK_new r _ h
/-- the pairs of a display -/
theorem kv_zip : ∀ {ks : List Str} {vs : List V} {xs : List PyData}, ks.length = xs.length → DpAll K G vs xs → KvOk K G ((ks.map Sum.inr).zip vs) (ks.zip xs)
  | [], _, _, _, _ => .nil
  | k :: ks, _, _, e, .nil => by simp at e
  | k :: ks, _, _, e, .cons h t => .cons ⟨rfl, h⟩ (kv_zip (by simpa using e) t)
theorem zip_pw : ∀ {ks : List Str} {vs : List V}, ks.Nodup → ((ks.map (Sum.inr : Str → Key)).zip vs).Pairwise (fun a b => a.1 ≠ b.1)
  | [], _, _ => .nil
  | k :: ks, [], _ => .nil
  | k :: ks, v :: vs, h => by
    have h' := List.nodup_cons.mp h
    refine .cons (fun q hq e => ?_) (zip_pw h'.2)
    obtain ⟨q1, q2⟩ := q
    have hm := (List.of_mem_zip hq).1
    obtain ⟨k2, hk2, e2⟩ := List.mem_map.mp hm
    have e : (Sum.inr k : Key) = q1 := e
    rw [← e2] at e
    have := Sum.inr.inj e
    subst this
    exact h'.1 hk2
end

theorem kv_isSome {K : PySem.W.Frag} {G : Hp} {ws : List (Key × V)} {kvs : List (Str × PyData)} (r : KvOk K G ws kvs) {k : Str} : (valV ws (.inr k)).isSome = (kvs.lookup k).isSome := by
  induction r with
  | nil => rfl
  | @cons p q ps qs h t ih =>
    obtain ⟨k', v'⟩ := p
    obtain ⟨k2, d2⟩ := q
    obtain ⟨h1, h2⟩ := h
    simp only at h1 h2
    subst h1
    rw [List.lookup_cons]
    by_cases hk : k = k2
    · subst hk
      simp only [beq_self_eq_true]
      unfold valV
      rw [List.find?_cons_of_pos (by simp)]
      rfl
    · have : (k == k2) = false := by simpa using hk
      rw [this]
      unfold valV at ih ⊢
      rw [List.find?_cons_of_neg (by simpa using fun z => hk z.symm)]
      exact ih
theorem kv_new {K : PySem.W.Frag} {G : Hp} {ws : List (Key × V)} {kvs : List (Str × PyData)} (r : KvOk K G ws kvs) {k : Str} (e : (kvs.lookup k).isNone = true) : ∀ p ∈ ws, p.1 ≠ (.inr k : Key) := by
  intro p hp he
  have h1 : (valV ws (.inr k)).isSome = false := by
    rw [kv_isSome r]
    simpa using e
  unfold valV at h1
  have : (ws.find? fun kv => decide (kv.1 = (.inr k : Key))).isSome = true := List.find?_isSome.mpr ⟨p, hp, by simpa using he⟩
  rw [Option.isSome_map, this] at h1
  cases h1
theorem kv_app {K : PySem.W.Frag} {G : Hp} {v : V} {d : PyData} {k : Str} (hd : Dp K G v d) : ∀ {ws : List (Key × V)} {kvs : List (Str × PyData)}, KvOk K G ws kvs → KvOk K G (ws ++ [(.inr k, v)]) (kvs ++ [(k, d)])
  | _, _, .nil => .cons ⟨rfl, hd⟩ .nil
  | _, _, .cons h t => .cons h (kv_app hd t)
/-! ### places -/
/-- x[y] -/
def rIdx (T : Xs) (K : PySem.W.Frag) : R2 := fun x y H Q => ∃ xt ad S ex ey r, StOk K T xt ad S H ∧ RdE K xt ad H x ex ∧ RdE K xt ad H y ey ∧ idxE ex ey S = some r ∧ ∀ z, Dp K (hide xt ad H) z r → Q z H
section
variable {X : Cx} {T : Xs}
theorem ix_dict (hu : X.A.units + 1 < cLine) : IxR X (fun x y H Q => ∃ a v, x = .ref a ∧ DGet H a y (some v) ∧ Q v H) := by
  intro value slice pins s σ H x y v u Q I rx ry h hs
  obtain ⟨a, z, rfl, g, q⟩ := h
  cases rx
  exact PyProof.Rows.tail_any (dict_typeIs I g) PySem.F.slot_dict_getitem.lookup (d_getItem hu I g ry fun w' s3 I3 rw' => ⟨z, H, I3, rw', q⟩) hs
theorem ix_all (hu : X.A.units + 1 < cLine) : IxR X (rIdx T X.K) := by
  intro value slice pins s σ H x y v u Q I rx ry h hs
  obtain ⟨xt, ad, S, ex, ey, r, so, hx, hy, hg, q⟩ := h
  unfold idxE at hg
  split at hg
  · rename_i n k
    split at hg
    · rename_i kvs hn
      obtain ⟨a, e1, e2⟩ := hx
      obtain ⟨a', e3, ws, e4, kv⟩ := so.at' n _ hn
      rw [e1] at e3
      cases e3
      cases hy
      obtain ⟨z, hz, hd⟩ := kv_lookup kv hg
      refine ix_dict hu value slice pins s σ H x _ v u Q I rx ry ⟨a, z, e2, ?_, q z hd⟩ hs
      rw [← hz]
      exact DGet.k (k := .inr k) e4
    · cases hg
  · split at hg
    · rename_i d e p1 p2
      have px := pk_of so hx p1
      have py := pk_of so hy p2
      unfold idxD at hg
      split at hg
      · rename_i xs i
        obtain ⟨a, vs, rfl, ha, da⟩ := px.list
        obtain ⟨z, hz, hd⟩ := dpa_at da hg
        exact ix_seq value slice pins s σ H _ _ v u Q I rx ry (.inl ⟨a, vs, i, z, rfl, py.int, ha, hz, q z hd⟩) hs
      · rename_i xs i
        obtain ⟨a, vs, rfl, ha, da, _⟩ := px.tuple
        obtain ⟨z, hz, hd⟩ := dpa_at da hg
        exact ix_seq value slice pins s σ H _ _ v u Q I rx ry (.inr (.inl ⟨a, vs, i, z, rfl, py.int, ha, hz, q z hd⟩)) hs
      · rename_i z i
        split at hg
        · rename_i hz
          obtain ⟨c, hc, e⟩ := Option.map_eq_some_iff.mp hg
          subst e
          exact ix_seq value slice pins s σ H _ _ v u Q I rx ry (.inr (.inr ⟨z, i, c, px.str, py.int, hz, hc, q _ (.str _)⟩)) hs
        · cases hg
      · cases hg
    · cases hg
/-! ### comparisons with dicts of the store too -/
def rBE (T : Xs) (K : PySem.W.Frag) (op : CmpOp) : R2 := fun x y H Q => ∃ xt ad S ex ey r, StOk K T xt ad S H ∧ RdE K xt ad H x ex ∧ RdE K xt ad H y ey ∧ cmpE op ex ey S = some r ∧ Q (.bl r) H
theorem op_cmpE (hu : X.A.units + 200 < cLine) (op : CmpOp) : OpR X (compareOp op) (rBE T X.K op) := by
  intro pins s σ H x y v u Q I rx ry h
  obtain ⟨xt, ad, S, ex, ey, r, so, hx, hy, hg, q⟩ := h
  unfold cmpE at hg
  split at hg
  · rename_i d e p1 p2
    exact op_cmpD hu op pins s σ H x y v u Q I rx ry ⟨xt, ad, d, e, r, pk_of so hx p1, pk_of so hy p2, hg, q⟩
  · have key : ∀ {k : Str} {n : Nat} {kvs : List (Str × PyData)}, ex = .d (.str k) → ey = .c n → S[n]? = some (.dct kvs) → ∃ a o, y = .ref a ∧ DGet H a x o ∧ o.isSome = (kvs.lookup k).isSome := by
      intro k n kvs e1 e2 hn
      subst e1 e2
      obtain ⟨a, e1, e2⟩ := hy
      obtain ⟨a', e3, ws, e4, kv⟩ := so.at' n _ hn
      rw [e1] at e3
      cases e3
      have hx : Dp X.K (hide xt ad H) x (.str k) := hx
      cases hx
      exact ⟨a, _, e2, DGet.k (k := .inr k) e4, kv_isSome kv⟩
    unfold kinE at hg
    split at hg
    · rename_i k n
      split at hg
      · rename_i kvs hn
        obtain ⟨a, o, rfl, g, e⟩ := key rfl rfl hn
        have er := some_inj hg
        subst er
        cases ry
        rw [← e] at q
        exact d_in (by omega) I g rx fun s3 I3 => ⟨.bl o.isSome, H, I3, rfl, q⟩
      · cases hg
    · rename_i k n
      split at hg
      · rename_i kvs hn
        obtain ⟨a, o, rfl, g, e⟩ := key rfl rfl hn
        have er := some_inj hg
        subst er
        cases ry
        rw [← e] at q
        exact d_notIn (by omega) I g rx fun s3 I3 => ⟨.bl (!o.isSome), H, I3, rfl, q⟩
      · cases hg
    · cases hg
/-! ### slices -/
def rSl (T : Xs) (K : PySem.W.Frag) : V → Option Int → Option Int → Hp → VK → Prop := fun x lo hi H Q => ∃ xt ad S d r, StOk K T xt ad S H ∧ Pk K xt ad H x d ∧ slcD d lo hi = some r ∧
  ∀ z H', Step xt ad H ad H' → StOk K T xt ad S H' → Dp K (hide xt ad H') z r → Q z H'
theorem cut_whole {α : Type} (xs : List α) (lo hi : Option Int) (h : HT.sIx xs.length 0 lo = 0 ∧ HT.sIx xs.length xs.length hi = xs.length) : cutA xs lo hi = xs := by
  unfold cutA
  rw [h.1, h.2]
  simp
theorem sl_all : SlR X (rSl T X.K) := by
  intro pins s σ H x v vl vu lo hi sl Q I rx hs pl pu h
  obtain ⟨xt, ad, S, d, r, so, px, hg, k⟩ := h
  unfold slcD at hg
  split at hg
  · rename_i xs
    have er := some_inj hg
    subst er
    obtain ⟨a, vs, rfl, ha, da⟩ := px.list
    refine sl_list pins s σ H _ v vl vu lo hi sl Q I rx hs pl pu ⟨a, vs, rfl, ha, fun p hp => ?_⟩
    obtain ⟨st, so1, dp⟩ := new_lst so hp (dpa_cut da lo hi)
    exact k _ _ st so1 dp
  · rename_i xs
    have er := some_inj hg
    subst er
    obtain ⟨a, vs, rfl, ha, da, dx⟩ := px.tuple
    refine sl_tupA pins s σ H _ v vl vu lo hi sl Q I rx hs pl pu ⟨a, vs, rfl, ha, fun e => ?_, fun e p hp => ?_⟩
    · rw [dpa_len da] at e
      rw [cut_whole xs lo hi e] at k
      exact k _ _ Step.refl so dx
    · obtain ⟨st, so1, dp⟩ := new_tup so hp (dpa_cut da lo hi)
      exact k _ _ st so1 dp
  · cases hg

/-! ### built-ins -/
inductive Pks (K : PySem.W.Frag) (xt ad : List Addr) (H : Hp) : List V → List PyData → Prop
  | nil : Pks K xt ad H [] []
  | cons {v : V} {vs : List V} {d : PyData} {ds : List PyData} : Pk K xt ad H v d → Pks K xt ad H vs ds → Pks K xt ad H (v :: vs) (d :: ds)
theorem pks_of {K : PySem.W.Frag} {T : Xs} {xt ad : List Addr} {H : Hp} {S : Sto} (so : StOk K T xt ad S H) : ∀ {vs : List V} {es : List E} {ds : List PyData}, RdEs K xt ad H vs es → peeks es S = some ds → Pks K xt ad H vs ds
  | _, _, _, .nil, e => by
    have e' := some_inj e
    subst e'
    exact .nil
  | _, _, _, .cons (e := e1) (es := es1) h t, e => by
    simp only [peeks] at e
    split at e
    · rename_i x xs p1 p2
      have e' := some_inj e
      subst e'
      exact .cons (pk_of so h p1) (pks_of so t p2)
    · cases e
def rBlt (T : Xs) (K : PySem.W.Frag) (b : Blt) : List V → Hp → VK → Prop := fun vs H Q => ∃ xt ad S ds r, StOk K T xt ad S H ∧ Pks K xt ad H vs ds ∧ bltD b ds = some r ∧
  ∀ z H', Step xt ad H ad H' → StOk K T xt ad S H' → Dp K (hide xt ad H') z r → Q z H'
def bltV : Blt → Value
  | .len => .builtin "len" | .sum => .builtin "sum" | .max => .builtin "max" | .min => .builtin "min" | .max2 => .builtin "max" | .min2 => .builtin "min"
  | .abs => .builtin "abs" | .int => .type "int" | .repr => .builtin "repr" | .tuple => .type "tuple" | .list => .type "list" | .all => .builtin "all" | .any => .builtin "any"
theorem foldl_max : ∀ (ns : List Int) (n : Int), (ns.foldl (fun a b => if b > a then b else a) n ∈ n :: ns) ∧ ∀ y ∈ n :: ns, y ≤ ns.foldl (fun a b => if b > a then b else a) n
  | [], n => ⟨List.mem_cons_self, fun y hy => by
    rw [List.mem_singleton] at hy
    exact Int.le_of_eq hy⟩
  | m :: ns, n => by
    rw [List.foldl_cons]
    obtain ⟨h1, h2⟩ := foldl_max ns (if m > n then m else n)
    have hb := h2 _ List.mem_cons_self
    refine ⟨?_, fun y hy => ?_⟩
    · rcases List.mem_cons.mp h1 with z | z
      · rw [z]
        by_cases q : m > n
        · rw [if_pos q]
          simp
        · rw [if_neg q]
          simp
      · exact List.mem_cons_of_mem _ (List.mem_cons_of_mem _ z)
    · rcases List.mem_cons.mp hy with z | z
      · subst z
        by_cases q : m > y
        · rw [if_pos q] at hb ⊢
          omega
        · rw [if_neg q] at hb ⊢
          omega
      · rcases List.mem_cons.mp z with z | z
        · subst z
          by_cases q : y > n
          · rw [if_pos q] at hb ⊢
            omega
          · rw [if_neg q] at hb ⊢
            omega
        · exact h2 y (List.mem_cons_of_mem _ z)
theorem foldl_min : ∀ (ns : List Int) (n : Int), (ns.foldl (fun a b => if b < a then b else a) n ∈ n :: ns) ∧ ∀ y ∈ n :: ns, ns.foldl (fun a b => if b < a then b else a) n ≤ y
  | [], n => ⟨List.mem_cons_self, fun y hy => by
    rw [List.mem_singleton] at hy
    exact Int.le_of_eq hy.symm⟩
  | m :: ns, n => by
    rw [List.foldl_cons]
    obtain ⟨h1, h2⟩ := foldl_min ns (if m < n then m else n)
    have hb := h2 _ List.mem_cons_self
    refine ⟨?_, fun y hy => ?_⟩
    · rcases List.mem_cons.mp h1 with z | z
      · rw [z]
        by_cases q : m < n
        · rw [if_pos q]
          simp
        · rw [if_neg q]
          simp
      · exact List.mem_cons_of_mem _ (List.mem_cons_of_mem _ z)
    · rcases List.mem_cons.mp hy with z | z
      · subst z
        by_cases q : m < y
        · rw [if_pos q] at hb ⊢
          omega
        · rw [if_neg q] at hb ⊢
          omega
      · rcases List.mem_cons.mp z with z | z
        · subst z
          by_cases q : y < n
          · rw [if_pos q] at hb ⊢
            omega
          · rw [if_neg q] at hb ⊢
            omega
        · exact h2 y (List.mem_cons_of_mem _ z)
theorem call_reprD (hg : X.A.guards = some []) (hu : X.A.units + 200 < cLine) {pins : List (Addr × Obj)} {s : Shared} {σ : L2.St} {H : Hp} {x : V} {v : Value} {d : PyData} {Q : VK} (I : L2.Inv X pins σ H s) (rx : RelV x v)
    (hd : Dp X.K H x d) (h1 : d.showable = true) (h2 : d.hasDict = false) (h3 : d.depth ≤ 180) (h4 : d.shown.length ≤ sizeLine) (q : Q (.str d.shown) H) :
    wpAny (model X.prog X.w) X.A (call (.builtin "repr") [v]) (EP X pins σ Q) X.xe s := by
  have hd0 := hd
  obtain ⟨as, r⟩ := Dp.reads I d x v hd rx
  cases hd with
  | non =>
    cases rx
    exact PySem.P.repr_of_none ⟨.str _, H, I.tok _, ⟨_, rfl⟩, by simpa only [PyData.shown] using q⟩
  | bl b =>
    cases rx
    exact PySem.P.repr_of_bool ⟨.str _, H, I.tok _, ⟨_, rfl⟩, by simpa only [PyData.shown] using q⟩
  | int i =>
    obtain ⟨t, rfl⟩ := rx
    exact PySem.P.repr_of_int (by simpa [PyData.showable] using h1) ⟨.str _, H, I.tok _, ⟨_, rfl⟩, by simpa only [PyData.shown] using q⟩
  | str z =>
    obtain ⟨t, rfl⟩ := rx
    exact PySem.P.repr_of_str ⟨.str _, H, I.tok _, ⟨_, rfl⟩, by simpa only [PyData.shown] using q⟩ (by simpa only [PyData.shown] using h4)
  | lst s1 s2 =>
    cases rx
    exact PySem.repr_of_reads' r h1 (fun z => by rw [h2] at z; cases z) hg (by omega) (fun _ _ e => e) (fun h' u tk hk => ⟨.str _, H, I.kept hk, ⟨_, rfl⟩, q⟩) h4
  | tup s1 s2 =>
    cases rx
    exact PySem.repr_of_reads' r h1 (fun z => by rw [h2] at z; cases z) hg (by omega) (fun _ _ e => e) (fun h' u tk hk => ⟨.str _, H, I.kept hk, ⟨_, rfl⟩, q⟩) h4
theorem call_blt (hc : X.calm = true) (hg : X.A.guards = some []) (hu : X.A.units + 200 < cLine) (b : Blt) : CallR X (bltV b) (rBlt T X.K b) := by
  intro pins s σ H vs us Q I r h
  obtain ⟨xt, ad, S, ds, d, so, ps, hb, k⟩ := h
  have done : ∀ z, Dp X.K (hide xt ad H) z d → Q z H := fun z hz => k z H Step.refl so hz
  unfold bltD at hb
  split at hb
  · have e := some_inj hb
    subst e
    cases ps with
    | cons p t =>
      cases t
      obtain ⟨a, ws, rfl, ha, da⟩ := p.list
      refine call_len_seq pins s σ H _ us Q I r ⟨a, ws, rfl, .inl ha, ?_⟩
      rw [dpa_len da]
      exact done _ (.int _)
  · have e := some_inj hb
    subst e
    cases ps with
    | cons p t =>
      cases t
      obtain ⟨a, ws, rfl, ha, da, _⟩ := p.tuple
      refine call_len_seq pins s σ H _ us Q I r ⟨a, ws, rfl, .inr ha, ?_⟩
      rw [dpa_len da]
      exact done _ (.int _)
  · split at hb
    · rename_i hz
      have e := some_inj hb
      subst e
      cases ps with
      | cons p t =>
        cases t
        have e1 := p.str
        subst e1
        exact call_len_str pins s σ H _ us Q I r ⟨_, rfl, hz, done _ (.int _)⟩
    · cases hb
  · obtain ⟨ns, hn, e⟩ := Option.map_eq_some_iff.mp hb
    subst e
    cases ps with
    | cons p t =>
      cases t
      obtain ⟨a, ws, rfl, ha, da⟩ := p.list
      have ew := dpa_ints da hn
      subst ew
      exact cr_sum hc pins s σ H _ us Q I r ⟨a, ns, rfl, ha, done _ (.int _)⟩
  · split at hb
    · rename_i n ns hn
      have e := some_inj hb
      subst e
      cases ps with
      | cons p t =>
        cases t
        obtain ⟨a, ws, rfl, ha, da⟩ := p.list
        have ew := dpa_ints da hn
        subst ew
        refine cr_max hc pins s σ H _ us Q I r ⟨a, n :: ns, rfl, ha, Nat.zero_lt_succ _, fun m h1 h2 => ?_⟩
        obtain ⟨g1, g2⟩ := foldl_max ns n
        have : m = ns.foldl (fun a b => if b > a then b else a) n := Int.le_antisymm (g2 m h1) (h2 _ g1)
        rw [this]
        exact done _ (.int _)
    · cases hb
  · split at hb
    · rename_i n ns hn
      have e := some_inj hb
      subst e
      cases ps with
      | cons p t =>
        cases t
        obtain ⟨a, ws, rfl, ha, da⟩ := p.list
        have ew := dpa_ints da hn
        subst ew
        refine cr_min hc pins s σ H _ us Q I r ⟨a, n :: ns, rfl, ha, Nat.zero_lt_succ _, fun m h1 h2 => ?_⟩
        obtain ⟨g1, g2⟩ := foldl_min ns n
        have : m = ns.foldl (fun a b => if b < a then b else a) n := Int.le_antisymm (h2 _ g1) (g2 m h1)
        rw [this]
        exact done _ (.int _)
    · cases hb
  · have e := some_inj hb
    subst e
    cases ps with
    | cons p t =>
      cases t with
      | cons p2 t =>
        cases t
        have e1 := p.int
        have e2 := p2.int
        subst e1 e2
        exact call_max2 hc pins s σ H _ us Q I r ⟨_, _, rfl, done _ (.int _)⟩
  · have e := some_inj hb
    subst e
    cases ps with
    | cons p t =>
      cases t with
      | cons p2 t =>
        cases t
        have e1 := p.int
        have e2 := p2.int
        subst e1 e2
        exact call_min2 hc pins s σ H _ us Q I r ⟨_, _, rfl, done _ (.int _)⟩
  · have e := some_inj hb
    subst e
    cases ps with
    | cons p t =>
      cases t
      have e1 := p.int
      subst e1
      exact call_abs pins s σ H _ us Q I r ⟨_, rfl, done _ (.int _)⟩
  · have e := some_inj hb
    subst e
    cases ps with
    | cons p t =>
      cases t
      have e1 := p.int
      subst e1
      exact call_int1 pins s σ H _ us Q I r (.inl ⟨_, rfl, done _ (.int _)⟩)
  · have e := some_inj hb
    subst e
    cases ps with
    | cons p t =>
      cases t
      have e1 := p.bool
      subst e1
      exact call_int1 pins s σ H _ us Q I r (.inr ⟨_, rfl, done _ (.int _)⟩)
  · split at hb
    · rename_i ho
      rw [Bool.and_eq_true, Bool.and_eq_true, Bool.and_eq_true, decide_eq_true_eq, decide_eq_true_eq] at ho
      have e := some_inj hb
      subst e
      cases ps with
      | cons p t =>
        cases t
        cases r with
        | cons r1 r2 =>
          cases r2
          exact call_reprD hg hu I r1 p.dp ho.1.1.1 (by simpa using ho.1.1.2) ho.1.2 ho.2 (done _ (.str _))
    · cases hb
  · have e := some_inj hb
    subst e
    cases ps with
    | cons p t =>
      cases t
      obtain ⟨a, ws, rfl, ha, da⟩ := p.list
      refine call_tuple_of pins s σ H _ us Q I r ⟨a, ws, rfl, .inl ⟨ha, fun l hl => ?_⟩⟩
      obtain ⟨st, so1, dp⟩ := new_tup so hl da
      exact k _ _ st so1 dp
  · have e := some_inj hb
    subst e
    cases ps with
    | cons p t =>
      cases t
      obtain ⟨a, ws, rfl, ha, da, dx⟩ := p.tuple
      exact call_tuple_of pins s σ H _ us Q I r ⟨a, ws, rfl, .inr ⟨ha, done _ dx⟩⟩
  · have e := some_inj hb
    subst e
    cases ps with
    | cons p t =>
      cases t
      obtain ⟨a, ws, rfl, ha, da⟩ := p.list
      refine call_list_of pins s σ H _ us Q I r ⟨a, ws, rfl, .inl ha, fun l hl => ?_⟩
      obtain ⟨st, so1, dp⟩ := new_lst so hl da
      exact k _ _ st so1 dp
  · have e := some_inj hb
    subst e
    cases ps with
    | cons p t =>
      cases t
      obtain ⟨a, ws, rfl, ha, da, dx⟩ := p.tuple
      refine call_list_of pins s σ H _ us Q I r ⟨a, ws, rfl, .inr ha, fun l hl => ?_⟩
      obtain ⟨st, so1, dp⟩ := new_lst so hl da
      exact k _ _ st so1 dp
  · obtain ⟨ns, hn, e⟩ := Option.map_eq_some_iff.mp hb
    subst e
    cases ps with
    | cons p t =>
      cases t
      obtain ⟨a, ws, rfl, ha, da⟩ := p.list
      have ew := dpa_bools da hn
      subst ew
      exact cr_all hc pins s σ H _ us Q I r ⟨a, ns, rfl, ha, done _ (.bl _)⟩
  · obtain ⟨ns, hn, e⟩ := Option.map_eq_some_iff.mp hb
    subst e
    cases ps with
    | cons p t =>
      cases t
      obtain ⟨a, ws, rfl, ha, da⟩ := p.list
      have ew := dpa_bools da hn
      subst ew
      exact cr_any hc pins s σ H _ us Q I r ⟨a, ns, rfl, ha, done _ (.bl _)⟩
  · cases hb
/-! ### truth -/
theorem tru_of {T : Xs} {xt ad : List Addr} {H : Hp} {S : Sto} {v : V} {e : E} {b : Bool} (so : StOk X.K T xt ad S H) (r : RdE X.K xt ad H v e) (h : truE e S = some b) : TruV X.K v H b := by
  unfold truE at h
  split at h
  · rename_i x hx
    have p := pk_of so r hx
    cases x with
    | none =>
      have e1 := p.non
      subst e1
      exact (some_inj h).symm
    | bool c =>
      have e1 := p.bool
      subst e1
      exact (some_inj h).symm
    | int c =>
      have e1 := p.int
      subst e1
      exact (some_inj h).symm
    | str c =>
      have e1 := p.str
      subst e1
      simp only [truD] at h
      split at h
      · rename_i hz
        exact ⟨hz, (some_inj h).symm⟩
      · cases h
    | list xs =>
      obtain ⟨a, vs, rfl, ha, da⟩ := p.list
      refine .inl ⟨vs, ha, ?_⟩
      have := some_inj h
      rw [← this]
      cases da <;> rfl
    | tuple xs =>
      obtain ⟨a, vs, rfl, ha, da, _⟩ := p.tuple
      refine .inr (.inl ⟨vs, ha, ?_⟩)
      have := some_inj h
      rw [← this]
      cases da <;> rfl
    | dict xs => cases h
  · cases h
end
end Ht

set_option maxRecDepth 100000
set_option maxHeartbeats 8000000
/-! HtE: the text and the small language: a check, and what an expression is worth. -/
namespace Ht
open PySem L2 Evl PySem.SeqAt

/-! ### the check -/
structure Gt where
  fns : List Str
  blts : List Str
  cons : List Str
  excs : List (Str × Str)
  lams : List (Str × List Str × Stmt)
  lv : Nat
def Gt.bare (G : Gt) : Gt := ⟨G.fns, G.blts, G.cons, G.excs, [], 0⟩
def okE : Expr → Bool
  | .Starred _ _ => false
  | .Set _ _ _ => false
  | .Slice _ _ _ _ => false
  | _ => true
def visB (sc : Scope) (x : Str) : Bool := match sc.names.lookup x with
  | some .local => true
  | some .cell => true
  | some .free => true
  | _ => false
def glB (sc : Scope) (x : Str) : Bool := match sc.names.lookup x with
  | some .globalImplicit => !(x == ("__debug__" : Str)) && !(x == ("__name__" : Str))
  | _ => false
def locB (sc : Scope) (fnB : Str → Bool) (x : Str) : Bool := match sc.names.lookup x with
  | some .local => true
  | some .cell => fnB x
  | _ => false
def nameOk (N : List Str) (sc : Scope) (i : Nat) (x : Str) : Bool := decide (N[i]? = some x) && visB sc x && !(x == ("__debug__" : Str)) && !(x == ("__classdict__" : Str))
def conOk : PyData → Const → Bool
  | .int i, .int j => decide (i = j)
  | .bool i, .bool j => decide (i = j)
  | .str i, .str j => decide (i = j)
  | .none, .none => true
  | _, _ => false
def bltN : Blt → Str
  | .len => "len" | .sum => "sum" | .max => "max" | .min => "min" | .max2 => "max" | .min2 => "min"
  | .abs => "abs" | .int => "int" | .repr => "repr" | .tuple => "tuple" | .list => "list" | .all => "all" | .any => "any"
def ctyN : Cty → Str
  | .int => "int" | .str => "str" | .tuple => "tuple" | .bool => "bool" | .list => "list"
def keyB (k : Str) : Option Expr → Bool
  | some (.Constant (.str x) _ _) => decide (k = x)
  | _ => false
def keysB : List Str → List (Option Expr) → Bool
  | [], [] => true
  | k :: ks, e :: es => keyB k e && keysB ks es
  | _, _ => false
def ownL (N : List Str) (own : List Nat) : List (Str × Nat) := own.map fun k => (N.getD k "", k)
mutual
def subT (own : List Nat) : CT → Bool
  | .nam i => own.contains i
  | .tup ts => subTs own ts
def subTs (own : List Nat) : CTs → Bool
  | .nil => true
  | .cons t ts => subT own t && subTs own ts
end
mutual
def chkT (N : List Str) (sc : Scope) (fnB : Str → Bool) : CT → Expr → Bool
  | .nam i, .Name x _ => decide (N[i]? = some x) && locB sc fnB x
  | .tup ts, .Tuple es _ _ => chkTs N sc fnB ts es
  | _, _ => false
def chkTs (N : List Str) (sc : Scope) (fnB : Str → Bool) : CTs → List Expr → Bool
  | .nil, [] => true
  | .cons t ts, e :: es => chkT N sc fnB t e && chkTs N sc fnB ts es
  | _, _ => false
end
def noComp : Expr → Bool
  | .ListComp _ _ _ _ => false
  | .SetComp _ _ _ _ => false
  | .DictComp _ _ _ _ _ => false
  | _ => true
/-! an except's suite -/
def chkX (n f : Str) : SX → Expr → Bool
  | .fld, .Attribute (.Name m _) g _ => decide (m = n) && decide (g = f)
  | .con d, .Constant c _ _ => conOk d c
  | _, _ => false
def chkXs (n f : Str) : List SX → List Expr → Bool
  | [], [] => true
  | x :: xs, e :: es => okE e && chkX n f x e && chkXs n f xs es
  | _, _ => false
def chkM (n f : Str) : Mk → List SX → Expr → Bool
  | .one, [x], e => chkX n f x e
  | .tup, xs, .Tuple es _ _ => chkXs n f xs es
  | .lst, xs, .List es _ => chkXs n f xs es
  | _, _, _ => false
def chkU (N : List Str) (sc : Scope) (n f : Str) (i : Nat) : SU → List Stmt → Bool
  | .set j m xs, [.Assign [.Name v _] e _] => decide (N[j]? = some v) && !decide (i = j) && locB sc (fun _ => true) v && noComp e && chkM n f m xs e
  | .ret m xs, [.Return (some e) _] => chkM n f m xs e
  | _, _ => false
/-- the clauses of a try: each names what it caught n, which stands in slot i -/
def clsB (N : List Str) (sc : Scope) (n : Str) (i : Nat) : Bool := decide (N[i]? = some n) && (match sc.names.lookup n with | some .local => true | _ => false) && !(n == ("__debug__" : Str)) && !(n == ("__classdict__" : Str))
def chkH (G : Gt) (N : List Str) (sc : Scope) (n : Str) (i : Nat) (h : Nat × SU) : ExceptHandler → Bool
  | .ExceptHandler (some (.Name x _)) (some m) su _ => glB sc x && decide (m = n) && !su.isEmpty && (match G.excs[h.1]? with | some y => decide (y.1 = x) && chkU N sc n y.2 i h.2 su | none => false)
  | _ => false
def chkHs (G : Gt) (N : List Str) (sc : Scope) (n : Str) (i : Nat) : List (Nat × SU) → List ExceptHandler → Bool
  | [], [] => true
  | h :: hs, e :: es => chkH G N sc n i h e && chkHs G N sc n i hs es
  | _, _ => false
/-! a def that tries what it is handed -/
def chkX0 (a : Str) : SX → Expr → Bool
  | .fld, .Call (.Name m _) [] [] _ => decide (m = a)
  | .con d, .Constant c _ _ => conOk d c
  | _, _ => false
def chkXs0 (a : Str) : List SX → List Expr → Bool
  | [], [] => true
  | x :: xs, e :: es => okE e && chkX0 a x e && chkXs0 a xs es
  | _, _ => false
def chkM0 (a : Str) : Mk → List SX → Expr → Bool
  | .one, [x], e => chkX0 a x e
  | .tup, xs, .Tuple es _ _ => chkXs0 a xs es
  | .lst, xs, .List es _ => chkXs0 a xs es
  | _, _, _ => false
def isFld : SX → Bool
  | .fld => true
  | _ => false
def one0 (xs : List SX) : Bool := (xs.filter isFld).length == 1
/-- its body; slot i holds the error, slot j what was found -/
def chkLD (G : Gt) (N : List Str) (sc : Scope) (i j : Nat) (L : LD) : List Stmt → Bool
  | [.Try [.Assign [.Name v _] e0 _] (.ExceptHandler t (some n) su p :: r) [] [] _, .Return (some (.Name w _)) _] => clsB N sc n i && decide (N[j]? = some v) && decide (w = v) && nameOk N sc j v && locB sc (fun _ => true) v && noComp e0 && !decide (i = j) && !decide (j = 0) && !decide (i = 0) &&
      nameOk N sc 0 (N.getD 0 "") && one0 L.xs && chkM0 (N.getD 0 "") L.m L.xs e0 && chkHs G N sc n i (L.hs.map fun h => (h.1, .set j h.2.1 h.2.2)) (.ExceptHandler t (some n) su p :: r)
  | [.Assign [.Name v0 _] (.Constant .none _ _) _, .Try [.Assign [.Name v _] e0 _] (.ExceptHandler t (some n) su p :: r) [] [] _, .Return (some (.Name w _)) _] => decide (v0 = v) && clsB N sc n i && decide (N[j]? = some v) && decide (w = v) && nameOk N sc j v && locB sc (fun _ => true) v && noComp e0 && !decide (i = j) && !decide (j = 0) && !decide (i = 0) &&
      nameOk N sc 0 (N.getD 0 "") && one0 L.xs && chkM0 (N.getD 0 "") L.m L.xs e0 && chkHs G N sc n i (L.hs.map fun h => (h.1, .set j h.2.1 h.2.2)) (.ExceptHandler t (some n) su p :: r)
  | [.Try [.Return (some e0) _] (.ExceptHandler t (some n) su p :: r) [] [] _] => clsB N sc n i && !decide (i = 0) &&
      nameOk N sc 0 (N.getD 0 "") && one0 L.xs && chkM0 (N.getD 0 "") L.m L.xs e0 && chkHs G N sc n i (L.hs.map fun h => (h.1, .ret h.2.1 h.2.2)) (.ExceptHandler t (some n) su p :: r)
  | _ => false
def noArgs (a : Arguments) : Bool := a.posonlyargs.isEmpty && a.args.isEmpty && a.vararg.isNone && a.kwonlyargs.isEmpty && a.kw_defaults.isEmpty && a.kwarg.isNone && a.defaults.isEmpty
mutual
def chkE (G : Gt) (N : List Str) (sc : Scope) : CE → Expr → Bool
  | .var i, .Name x _ => nameOk N sc i x
  | .con d, .Constant c _ _ => conOk d c
  | .glo k, .Name x _ => glB sc x && decide (G.cons[k]? = some x)
  | .bin op a b, .BinOp x o y _ => decide (op = o) && chkE G N sc a x && chkE G N sc b y
  | .neg a, .UnaryOp .USub x _ => chkE G N sc a x
  | .cmp op a b, .Compare x [o] [y] _ => decide (op = o) && okE y && chkE G N sc a x && chkE G N sc b y
  | .chain op op' a b c, .Compare x [o, o'] [y, z] _ => decide (op = o) && decide (op' = o') && okE y && okE z && chkE G N sc a x && chkE G N sc b y && chkE G N sc c z
  | .not a, .UnaryOp .Not x _ => chkE G N sc a x
  | .and a b, .BoolOp .And (x :: y :: r) pos => chkE G N sc a x && (match r with
      | [] => chkE G N sc b y
      | z :: r => chkE G N sc b (.BoolOp .And (y :: z :: r) pos))
  | .or a b, .BoolOp .Or (x :: y :: r) pos => chkE G N sc a x && (match r with
      | [] => chkE G N sc b y
      | z :: r => chkE G N sc b (.BoolOp .Or (y :: z :: r) pos))
  | .ife t a b, .IfExp x y z _ => chkE G N sc t x && chkE G N sc a y && chkE G N sc b z
  | .tup es, .Tuple xs _ _ => chkEs G N sc es xs
  | .lst es, .List xs _ => chkEs G N sc es xs
  | .dct ks es, .Dict keys vals _ => keysB ks keys && chkEs G N sc es vals && decide (keys.length = vals.length) && decide (keys.length ≤ 15)
  | .idx a i, .Subscript x y _ => okE y && chkE G N sc a x && chkE G N sc i y
  | .slc a lo hi, .Subscript x (.Slice l h none _) _ => chkE G N sc a x && chkO G N sc lo l && chkO G N sc hi h
  | .call f .nil, .Call (.Name x _) [] [] _ => glB sc x && decide (G.fns[f]? = some x)
  | .isi a t, .Call (.Name x _) [y, .Name z _] [] _ => decide (x = "isinstance") && glB sc x && G.blts.contains x && decide (z = ctyN t) && glB sc z && G.blts.contains z && okE y && chkE G N sc a y
  | .pop o, .Call (.Attribute (.Name x p) nm apos) [] [] cpos => decide (nm = "pop") && (apos.endLine == cpos.line) && chkE G N sc o (.Name x p)
  | .popi o i, .Call (.Attribute (.Name x p) nm apos) [a] [] cpos => decide (nm = "pop") && (apos.endLine == cpos.line) && okE a && chkE G N sc o (.Name x p) && chkE G N sc i a
  | .lam L e, .Call (.Name x _) [.Lambda ps b scope _] [] _ => glB sc x && noArgs ps && LamX.lamSB sc scope && chkE G.bare N scope e b &&
      (match G.lams[L.k]? with | some (y, Nl, st) => decide (L.B = G.lv) && decide (y = x) && chkLD G Nl (defScope st) L.i L.j L (defBody st) | none => false)
  | .dzip a b, .Call (.Name x _) [.Call (.Name y _) [u, v] [] _] [] _ => decide (x = "dict") && glB sc x && G.blts.contains x && decide (y = "zip") && glB sc y && G.blts.contains y && okE u && okE v && chkE G N sc a u && chkE G N sc b v
  | .mk m, x => chkM0' G N sc m x
  | .rev a, .Subscript x (.Slice none none (some (.UnaryOp .USub (.Constant (.int i) _ _) _)) _) _ => decide (i = 1) && chkE G N sc a x
  | .ext o e, .Call (.Attribute (.Name x p) nm apos) [a] [] cpos => decide (nm = "extend") && (apos.endLine == cpos.line) && okE a && chkE G N sc o (.Name x p) && chkE G N sc e a
  | .call f es, .Call (.Name x _) (a :: as) [] _ => glB sc x && decide (G.fns[f]? = some x) && chkEs G N sc es (a :: as)
  | .blt b es, .Call (.Name x _) (a :: as) [] _ => glB sc x && G.blts.contains x && decide (x = bltN b) && chkEs G N sc es (a :: as)
  | .app o e, .Call (.Attribute (.Name x p) nm apos) [a] [] cpos => decide (nm = "append") && (apos.endLine == cpos.line) && okE a && chkE G N sc o (.Name x p) && chkE G N sc e a
  | .lc elt tg it ts own, .ListComp e [⟨t, i, ifs, z⟩] scope _ => decide (z = 0) && blkC N sc scope (ownL N own) && chkI G N sc it t i && chkT N (relS scope sc) (fun x => scope.names.lookup x == some .cell) tg t &&
      subT own tg && chkC G N (relS scope sc) ts ifs && chkE G N (relS scope sc) elt e
  | .lc2 elt tg it ts own tg1 it1 ts1 own1, .ListComp e [⟨t, i, ifs, z⟩, ⟨t1, i1, ifs1, z1⟩] scope _ => decide (z = 0) && decide (z1 = 0) && (blkC N sc scope (ownL N own) && (own1.all fun k => own.contains k) && chkI G N sc it t i && chkT N (relS scope sc) (fun x => scope.names.lookup x == some .cell) tg t &&
      subT own tg && chkC G N (relS scope sc) ts ifs && chkI G N (relS scope sc) it1 t1 i1 && chkT N (relS scope sc) (fun x => scope.names.lookup x == some .cell) tg1 t1 && subT own1 tg1 && chkC G N (relS scope sc) ts1 ifs1 && chkE G N (relS scope sc) elt e)
  | _, _ => false
def chkM0' (G : Gt) (N : List Str) (sc : Scope) : CM → Expr → Bool
  | .lst es, .List xs _ => chkEs G N sc es xs
  | .lis e, .Call (.Name x _) [a] [] _ => decide (x = "list") && glB sc x && G.blts.contains x && okE a && chkE G N sc e a
  | .lc elt tg it ts own, .ListComp e [⟨t, i, ifs, z⟩] scope _ => decide (z = 0) && (blkC N sc scope (ownL N own) && chkI G N sc it t i && chkT N (relS scope sc) (fun x => scope.names.lookup x == some .cell) tg t &&
      subT own tg && chkC G N (relS scope sc) ts ifs && chkE G N (relS scope sc) elt e)
  | _, _ => false
def chkEs (G : Gt) (N : List Str) (sc : Scope) : CEs → List Expr → Bool
  | .nil, [] => true
  | .cons e es, x :: xs => okE x && chkE G N sc e x && chkEs G N sc es xs
  | _, _ => false
def chkO (G : Gt) (N : List Str) (sc : Scope) : CO → Option Expr → Bool
  | .none, none => true
  | .some e, some x => chkE G N sc e x
  | _, _ => false
def chkC (G : Gt) (N : List Str) (sc : Scope) : CO → List Expr → Bool
  | .none, [] => true
  | .some e, [x] => chkE G N sc e x
  | _, _ => false
def chkI (G : Gt) (N : List Str) (sc : Scope) : CI → Expr → Expr → Bool
  | .seq e, _, x => okE x && chkE G N sc e x
  | .rng1 a, _, .Call (.Name x _) [y] [] _ => decide (x = "range") && glB sc x && G.blts.contains x && okE y && chkE G N sc a y
  | .zip a b, .Tuple _ _ _, .Call (.Name x _) [y, z] [] _ => decide (x = "zip") && glB sc x && G.blts.contains x && okE y && okE z && chkE G N sc a y && chkE G N sc b z
  | .rng2 a b, _, .Call (.Name x _) [y, z] [] _ => decide (x = "range") && glB sc x && G.blts.contains x && okE y && okE z && chkE G N sc a y && chkE G N sc b z
  | _, _, _ => false
end

/-! ### side conditions -/
theorem star_ok {e : Expr} {es : List Expr} {env : Env} (h : okE e = true) : starEach (e :: es) env = (false, eval e env) :: starEach es env := by
  cases e <;> first | rfl | cases h
theorem marks_ok {e : Expr} {op : CmpOp} (h : okE e = true) : behindInMarks op e = false := by
  cases e <;> first | rfl | cases h
theorem plain_ix {e : Expr} (h : okE e = true) : PlainIx e := by
  cases e <;> first | (intro _ _; rfl) | cases h
theorem fold_ok {e : Expr} {env : Env} (h : okE e = true) (x : Value) : foldedSetIterable e env x = pure x := by
  cases e <;> first | rfl | cases h
theorem vis_of {sc : Scope} {x : Str} (h : visB sc x = true) : Vis sc x := by
  unfold visB at h
  split at h <;> first | (rename_i e; exact .inl e) | (rename_i e; exact .inr (.inl e)) | (rename_i e; exact .inr (.inr e)) | cases h
theorem gl_of {X : Cx} {sc : Scope} {x : Str} (e : X.env.scope = sc) (h : glB sc x = true) : Gl X x ∧ (x == ("__debug__" : Str)) = false ∧ x ≠ "__name__" := by
  unfold glB at h
  split at h
  · rename_i q
    rw [Bool.and_eq_true] at h
    refine ⟨?_, by simpa using h.1, by simpa using h.2⟩
    show X.env.scope.names.lookup x = _
    rw [e]
    exact q
  · cases h
theorem plainstar : ∀ {es : List Expr} {env : Env} {pos : Pos}, (∀ e ∈ es, okE e = true) → (backTo pos (starEach es env)).any (·.1) = false
  | [], _, _, _ => rfl
  | e :: es, env, pos, h => by
    rw [star_ok (h e List.mem_cons_self)]
    show (backTo pos (starEach es env)).any (·.1) = false
    exact plainstar fun e' he => h e' (List.mem_cons_of_mem _ he)
theorem okEs_of {G : Gt} {N : List Str} {sc : Scope} : ∀ {es : CEs} {xs : List Expr}, chkEs G N sc es xs = true → ∀ e ∈ xs, okE e = true
  | .nil, [], _ => fun e he => nomatch he
  | .cons c cs, x :: xs, h => by
    simp only [chkEs, Bool.and_eq_true] at h
    intro e he
    rcases List.mem_cons.mp he with z | z
    · rw [z]; exact h.1.1
    · exact okEs_of h.2 e z
  | .nil, x :: xs, h => by simp [chkEs] at h
  | .cons c cs, [], h => by simp [chkEs] at h

/-! ### a def's worth -/
structure FnG (P : Program) (w : World) (K : PySem.W.Frag) (mg : Str → Option Value) (base : Heap) (T : Xs) (n : Nat) (f : Addr) (F : List E → Sto → R E) : Prop where
  run : ∀ (A : Around) (outer : List Env) (s : Shared) (H : Hp) (us : List Value) (vs : List V) (es : List E) (S : Sto) (xt ad : List Addr) (Q : VK) (Ex : XK),
    A.guards = some [] → Room n A → Env0 P w K mg base A outer s H → Vals vs us → RdEs K xt ad H vs es → StOk K T xt ad S H →
    Post K T (fun c d _ H' => Ex c d H') xt ad H (RdE K xt) (F es S) Q → codeAny (model P w) A (.call (.ref f) ⟨us, []⟩) (CR (L2.CX P w) outer P w H s Q Ex) s
/-- an error's class: its one field is given by its own __init__ -/
structure ExcT (P : Program) (w : World) (K : PySem.W.Frag) (mg : Str → Option Value) (T : Xs) (c : Nat) (x f : Str) (C : Addr) : Prop where
  gC : mg x = some (.ref C)
  oex : OexC K C
  ga : PySem.W.findIn K (.ref C) "__getattribute__" = some (some (.builtin "BaseException.__getattribute__"))
  gg : PySem.W.findIn K (.ref C) "__getattr__" = some none
  no : PySem.W.findIn K (.ref C) f = some none
  hd : PySem.W.hasDictIn K C = true
  exm : ∀ (c' : Nat) (C' : Addr) (f' : Option Str), T.cls[c']? = some (C', f') → PySem.W.exmOne K (.ref C') (.ref C) = some (decide (c' = c))
  ini : ∃ (fI : Addr) (fd : FuncData) (q : Str) (st : Stmt) (p1 p2 p3 p4 : Pos), PySem.W.findIn K (.ref C) "__init__" = some (some (.ref fI)) ∧ PySem.W.typeIn K (.ref fI) = some (.type "function") ∧
    Fun K "__init__" q st fI fd ∧ FnScope ([("self" : Str), f]) ([("self" : Str), f]) (defScope st) ∧ defBody st = [.Assign [.Attribute (.Name "self" p1) f p2] (.Name f p3) p4] ∧ f ≠ "__debug__" ∧ f ≠ "__classdict__" ∧
    (∀ (kV doc pm : Value) (an : Option Addr) (cdv ct : Value) (us : List Value), us.length = 2 → bindArgs (PySem.W.fnOf "__init__" q (defArgs st) (defBody st) (defScope st) .none kV doc pm an cdv ct) ⟨us, []⟩ = pure (([("self" : Str), f]).zip us))
def Callee (T : Xs) (X : Cx) (r : Nat) (f : Addr) (F : List E → Sto → R E) : Prop := ∃ n, Room (n + r) X.A ∧ FnG X.prog X.w X.K X.mg X.base T n f F
/-- a def that tries what it is handed -/
structure LamT (K : PySem.W.Frag) (mg : Str → Option Value) (x : Str) (Nl : List Str) (st : Stmt) : Prop where
  ex : ∃ (f : Addr) (fd : FuncData) (a : Str), mg x = some (.ref f) ∧ Fun K x x st f fd ∧ FnScope Nl [a] (defScope st) ∧
    (∀ (kV doc pm : Value) (an : Option Addr) (cdv ct : Value) (us : List Value), us.length = 1 → bindArgs (PySem.W.fnOf x x (defArgs st) (defBody st) (defScope st) .none kV doc pm an cdv ct) ⟨us, []⟩ = pure (([a] : List Str).zip us))
structure XOk (T : Xs) (P : Ph) (G : Gt) (N : List Str) (X : Cx) (W : WX) (sc : Scope) : Prop where
  nm : X.N = N
  sc : X.env.scope = sc
  nd : N.Nodup
  units : X.A.units + 200 < cLine
  grd : X.A.guards = some []
  tk : Takes X W
  calm : X.calm = true
  blt : ∀ x, G.blts.contains x = true → X.mg x = none
  con : ∀ (k : Nat) x, G.cons[k]? = some x → ∃ d u v, P.con[k]? = some d ∧ X.mg x = some u ∧ RelV v u ∧ ∀ H, Dp X.K H v d
  fn : ∀ (k : Nat) x, G.fns[k]? = some x → ∃ f, X.mg x = some (.ref f) ∧ PySem.W.keepIn X.K (.ref f) = true ∧ Callee T X 0 f (P.f k)
  rm : Room 2 X.A
  lrm : G.lams ≠ [] → ∀ S, lvlOk P G.lv S = true → Room 4 X.A ∧ ∀ (k : Nat) x, G.fns[k]? = some x → ∃ f, X.mg x = some (.ref f) ∧ PySem.W.keepIn X.K (.ref f) = true ∧ Callee T X 2 f (P.f k)
  exc : ∀ (c : Nat) (x f : Str), G.excs[c]? = some (x, f) → ∃ C, T.cls[c]? = some (C, some f) ∧ ExcT X.prog X.w X.K X.mg T c x f C
  lam : ∀ (k : Nat) x Nl st, G.lams[k]? = some (x, Nl, st) → LamT X.K X.mg x Nl st
  cod : G.lams ≠ [] → ∃ c Pt, X.env.code = .ref c ∧ LamX.TabB X.base X.mg c Pt ∧ (Pt, X.env.qual ++ "<lambda>") ∈ T.tabs
  tnd : (T.tabs.map (·.1)).Nodup
theorem XOk.rm2 {T : Xs} {P : Ph} {G : Gt} {N : List Str} {X : Cx} {W : WX} {sc : Scope} (o : XOk T P G N X W sc) : Room 2 X.A := o.rm

/-! ### readings -/
section
variable (K : PySem.W.Frag) (T : Xs) (W : WX) (P : Ph)
def tE (c : CE) : TE := fun σ H Q => ∃ xt ad Γ S, EnvOk K xt ad Γ σ H ∧ StOk K T xt ad S H ∧ Post K T (fun c d σ' H' => σ' = σ → W c d σ H') xt ad H (RdE K xt) (ev P c Γ S) Q
def tT (c : CE) : TT := fun σ H Q => ∃ xt ad Γ S, EnvOk K xt ad Γ σ H ∧ StOk K T xt ad S H ∧ Post K T (fun c d σ' H' => σ' = σ → W c d σ H') xt ad H (fun _ _ b e => b = e) (evT P c Γ S) Q
def tAs (c : CEs) : TA := fun σ H Q => ∃ xt ad Γ S, EnvOk K xt ad Γ σ H ∧ StOk K T xt ad S H ∧ Post K T (fun c d σ' H' => σ' = σ → W c d σ H') xt ad H (RdEs K xt) (evs P c Γ S) Q
def tDs (c : CEs) : TA := fun σ H Q => ∃ xt ad Γ S, EnvOk K xt ad Γ σ H ∧ StOk K T xt ad S H ∧ Post K T (fun c d σ' H' => σ' = σ → W c d σ H') xt ad H (fun ad H vs xs => DpAll K (hide xt ad H) vs xs) (evD P c Γ S) Q
def tOo (c : CO) : TO := fun σ H Q => ∃ xt ad Γ S, EnvOk K xt ad Γ σ H ∧ StOk K T xt ad S H ∧ Post K T (fun c d σ' H' => σ' = σ → W c d σ H') xt ad H (fun _ _ b e => b = e) (evO P c Γ S) Q
def tCc (c : CO) : TT := fun σ H Q => ∃ xt ad Γ S, EnvOk K xt ad Γ σ H ∧ StOk K T xt ad S H ∧ Post K T (fun c d σ' H' => σ' = σ → W c d σ H') xt ad H (fun _ _ b e => b = e) (evC P c Γ S) Q
/-- an iterator goes through data -/
def ItD (xt0 ad0 : List Addr) (H0 : Hp) (J : It) (I : Its) : Prop := ∀ xt ad H S, (∃ more, ad = ad0 ++ more) → Ex (hide xt0 ad0 H0) (hide xt ad H) → StOk K T xt ad S H → Its.still I.w I.xs S → ∀ i,
  (∀ x, I.xs[i]? = some x → J.go i H ∧ ∀ v H2, J.yld i H v H2 → Step xt ad H ad H2 ∧ StOk K T xt ad S H2 ∧ Dp K (hide xt ad H2) v x) ∧ (I.xs.length ≤ i → J.stop i H)
def tIt (c : CI) : TI := fun σ H Q => ∃ xt ad Γ S, EnvOk K xt ad Γ σ H ∧ StOk K T xt ad S H ∧ Post K T (fun c d σ' H' => σ' = σ → W c d σ H') xt ad H (fun ad H J I => ItD K T xt ad H J I) (evI P c Γ S) Q
end
section
variable {X : Cx} {e : Expr} {es : List Expr} {o : Option Expr}
theorem pe_imp {t t' : TE} (p : PE X e t) (i : ∀ σ H Q, t' σ H Q → t σ H Q) : PE X e t' := ⟨fun pins s σ H Q I h => p.run pins s σ H Q I (i σ H Q h)⟩
theorem pt_imp {t t' : TT} (p : PT X e t) (i : ∀ σ H Q, t' σ H Q → t σ H Q) : PT X e t' := ⟨fun pins s σ H Q I h => p.run pins s σ H Q I (i σ H Q h)⟩
theorem pw_imp {t t' : TT} (p : PW X e t) (i : ∀ σ H Q, t' σ H Q → t σ H Q) : PW X e t' := ⟨fun wh pins s σ H Q I h => p.run wh pins s σ H Q I (i σ H Q h)⟩
theorem pa_imp {t t' : TA} (p : PA X es t) (i : ∀ σ H Q, t' σ H Q → t σ H Q) : PA X es t' := ⟨fun pos pins s σ H Q I h => p.run pos pins s σ H Q I (i σ H Q h)⟩
theorem po_imp {t t' : TO} (p : PO X o t) (i : ∀ σ H Q, t' σ H Q → t σ H Q) : PO X o t' := ⟨fun pins s σ H Q I h => p.run pins s σ H Q I (i σ H Q h)⟩
theorem pi_imp {tg : Expr} {t t' : TI} (p : PI X tg e t) (i : ∀ σ H Q, t' σ H Q → t σ H Q) : PI X tg e t' := ⟨fun pins s σ H Q I h => p.run pins s σ H Q I (i σ H Q h)⟩
end
/-- one of a list and a tuple, walked -/
def iSq (K : PySem.W.Frag) (tl : TE) : TI := fun σ H R => tl σ H fun x H1 => (∃ z, x = .str z ∧ R (L2.Its z) H1) ∨ ∃ a, x = .ref a ∧ (((∃ xs, SqL K H1 a xs) ∧ R (Itl K a) H1) ∨ ((∃ xs, SqT K H1 a xs) ∧ R (Itt K a) H1))
theorem pi_seq {X : Cx} {tg l : Expr} {tl : TE} (hl : PE X l tl) : PI X tg l (iSq X.K tl) := by
  refine ⟨fun pins s σ H R I h => thn (hl.run pins s σ H _ I h) fun v s1 ⟨x, H1, I1, r1, q0⟩ => ?_⟩
  rcases q0 with ⟨z, e, q⟩ | ⟨a, e, q⟩
  · subst e
    obtain ⟨t, rfl⟩ := r1
    cases hz : z.cps.all (· < 128)
    · exact wpAny_pyIter_wide hz (pi_one (tk := s1.toks) I1 _ (turn_str _ z t "str_iterator" (.inr rfl)) ⟨_, Heap.get?_push_size _ rfl, rfl, rfl⟩ q)
    · exact wpAny_pyIter_ascii hz (pi_one (tk := s1.toks) I1 _ (turn_str _ z t "str_ascii_iterator" (.inl rfl)) ⟨_, Heap.get?_push_size _ rfl, rfl, rfl⟩ q)
  subst e
  cases r1
  have fresh : ∀ b ∈ [s1.heap.objs.size], FpOk X pins H1 b := fun b hb => by
    have e : b = s1.heap.objs.size := by simpa using hb
    rw [e]
    exact I1.fpOk (Nat.le_refl _) (I1.hok.fresh (Nat.le_refl _))
  rcases q with ⟨⟨xs, hq⟩, q⟩ | ⟨⟨xs, hq⟩, q⟩
  · obtain ⟨its, rv, p, hz⟩ := I1.list hq
    exact wpAny_pyIter_list p.isList ⟨_, _, _, _, H1, rfl, I1.kept (t' := s1.toks) (fun b o e => Heap.get?_push_of_some _ e), turn_list a _, ⟨_, Heap.get?_push_size _ rfl, rfl, rfl⟩, fresh, q⟩
  · obtain ⟨its, rv, p, hz⟩ := I1.tuple hq
    exact wpAny_pyIter_tuple p ⟨_, _, _, _, H1, rfl, I1.kept (t' := s1.toks) (fun b o e => Heap.get?_push_of_some _ e), turn_tuple a _, ⟨_, Heap.get?_push_size _ rfl, rfl, rfl⟩, fresh, q⟩
/-! ### posts of the last step -/
section
variable {K : PySem.W.Frag} {T : Xs} {W : WX} {xt ad : List Addr} {H : Hp} {S : Sto} {Q : VK}
theorem opt_post {o : Option PyData} (h : Post K T W xt ad H (RdE K xt) (opt o S) Q) : ∃ r, o = some r ∧ ∀ z ad' H', Step xt ad H ad' H' → StOk K T xt ad' S H' → Dp K (hide xt ad' H') z r → Q z H' := by
  cases o with
  | none => exact h.elim
  | some r => exact ⟨r, rfl, h⟩
theorem opt2_post {g : PyData → PyData → Option PyData} {x y : E} (h : Post K T W xt ad H (RdE K xt) (opt2 g x y S) Q) :
    ∃ d e r, peek x S = some d ∧ peek y S = some e ∧ g d e = some r ∧ ∀ z ad' H', Step xt ad H ad' H' → StOk K T xt ad' S H' → Dp K (hide xt ad' H') z r → Q z H' := by
  unfold opt2 at h
  split at h
  · rename_i d e h1 h2
    obtain ⟨r, h3, k⟩ := opt_post h
    exact ⟨d, e, r, h1, h2, h3, k⟩
  · exact h.elim
theorem opt1_post {g : PyData → Option PyData} {x : E} (h : Post K T W xt ad H (RdE K xt) (opt1 g x S) Q) :
    ∃ d r, peek x S = some d ∧ g d = some r ∧ ∀ z ad' H', Step xt ad H ad' H' → StOk K T xt ad' S H' → Dp K (hide xt ad' H') z r → Q z H' := by
  unfold opt1 at h
  split at h
  · rename_i d h1
    obtain ⟨r, h3, k⟩ := opt_post h
    exact ⟨d, r, h1, h3, k⟩
  · exact h.elim
theorem optB_post {o : Option Bool} {Q : Bool → Hp → Prop} (h : Post K T W xt ad H (fun _ _ b e => b = e) (optB o S) Q) (so : StOk K T xt ad S H) : ∃ b, o = some b ∧ Q b H := by
  cases o with
  | none => exact h.elim
  | some b => exact ⟨b, rfl, h b ad H Step.refl so rfl⟩
end
end Ht

set_option maxRecDepth 100000
set_option maxHeartbeats 16000000
/-! HtF: what expressions are worth. -/
namespace Ht
open PySem L2 Evl PySem.SeqAt PyProof.Rows

section
variable {K : PySem.W.Frag} {T : Xs} {W : WX} {xt ad ad1 : List Addr} {H H1 : Hp} {S : Sto} {p : Addr} {o : HO}
theorem so_unhide (so : StOk K T (p :: xt) ad S H) : StOk K T xt ad S H := ⟨so.nd, so.len, fun n c e => by
  obtain ⟨a, e1, c1⟩ := so.at' n c e
  exact ⟨a, e1, cellOk_ex rfl hide_cons c1⟩, fun a ha => so.xs a (List.mem_cons_of_mem _ ha), so.tb, so.tn, fun a ha => so.cx a (List.mem_cons_of_mem _ ha)⟩
theorem st_under (so : StOk K T xt ad S H) (h : H p = none) (st : Step (p :: xt) ad (upd H p o) ad1 H1) : Step xt ad H ad1 H1 := by
  have hp := so.new_notin h
  have hx := so.new_notxt h
  refine ⟨st.pre, ((hide_new (o := o) h).trans st.ex).trans hide_cons, fun a ha n => st.cell a ha ?_, fun a ha n => ?_⟩
  · rw [upd_ne (not_eq_of hp ha)]
    exact n
  · have ne := not_eq_of hx ha
    have q := st.xs a (List.mem_cons_of_mem _ ha) (by rw [upd_ne ne]; exact n)
    rw [q, upd_ne ne]
theorem rdE_unhide {v : V} {e : E} (r : RdE K (p :: xt) ad H v e) : RdE K xt ad H v e := by
  cases e with
  | d x => exact dp_mono hide_cons r
  | c n => exact r
theorem env_unhide {Γ : Gm} {σ : L2.St} (r : EnvOk K (p :: xt) ad Γ σ H) : EnvOk K xt ad Γ σ H := ⟨r.1, fun i e h => let ⟨v, h1, h2⟩ := r.2 i e h; ⟨v, h1, rdE_unhide h2⟩⟩
theorem exn_unhide {x : Exn} {c : Value} {d : Option Addr} (h : ExnOk K T (hide (p :: xt) ad H) x c d) : ExnOk K T (hide xt ad H) x c d := by
  obtain ⟨C, f, h1, h2, h3⟩ := h
  refine ⟨C, f, h1, h2, ?_⟩
  split at h3
  · obtain ⟨dd, v, e1, e2, e3⟩ := h3
    exact ⟨dd, v, e1, hide_cons _ _ e2, dp_mono hide_cons e3⟩
  · trivial
  · exact h3.elim
/-- something is being made at p while the first part runs -/
theorem Post.under {α β γ δ : Type} {Rel : List Addr → Hp → β → α → Prop} {Rel2 : List Addr → Hp → δ → γ → Prop} {r : R α} {k : α → Sto → R γ} {Q : δ → Hp → Prop} {Q' : β → Hp → Prop}
    (so : StOk K T xt ad S H) (hp : H p = none) (po : Post K T W xt ad H Rel2 (r.bind k) Q)
    (hk : ∀ e S1 v ad1 H1, Step xt ad H ad1 H1 → Step (p :: xt) ad (upd H p o) ad1 H1 → StOk K T (p :: xt) ad1 S1 H1 → Rel ad1 H1 v e → Post K T W xt ad H Rel2 (k e S1) Q → Q' v H1) :
    Post K T W (p :: xt) ad (upd H p o) Rel r Q' := by
  cases r with
  | ok e S1 => exact fun v ad1 H1 st so1 re => hk e S1 v ad1 H1 (st_under so hp st) st so1 re po
  | err x Γ S1 => exact fun cls d ad1 H1 σ1 st so1 en xo => po cls d ad1 H1 σ1 (st_under so hp st) (so_unhide so1) (env_unhide en) (exn_unhide xo)
  | no => exact po
theorem env_hide {Γ : Gm} {σ : L2.St} (so : StOk K T xt ad S H) (hp : H p = none) (r : EnvOk K xt ad Γ σ H) : EnvOk K (p :: xt) ad Γ σ (upd H p o) :=
  ⟨r.1, fun i e h => by
    obtain ⟨v, h1, h2⟩ := r.2 i e h
    refine ⟨v, h1, ?_⟩
    cases e with
    | d x => exact dp_mono (hide_new hp) h2
    | c n => exact h2⟩
end

/-! ### targets -/
section
variable {K : PySem.W.Frag} {xt ad : List Addr} {H : Hp}
theorem wipe_set {σ : L2.St} {i : Nat} {v : Option V} : ∀ {own : List Nat}, i ∈ own → wipe (σ.set i v) own = wipe σ own
  | [], h => by cases h
  | j :: own, h => by
    unfold wipe
    by_cases hi : i ∈ own
    · rw [wipe_set hi]
    · have e : i = j := by
        rcases List.mem_cons.mp h with z | z
        · exact z
        · exact absurd z hi
      subst e
      have : ∀ (own : List Nat) (σ : L2.St), (wipe (σ.set i v) own).set i none = (wipe σ own).set i none := by
        intro own
        induction own with
        | nil => intro σ; unfold wipe; rw [List.set_set]
        | cons k own ih =>
          intro σ
          unfold wipe
          by_cases e : i = k
          · subst e
            rw [List.set_set, List.set_set, ih]
          · rw [List.set_comm _ _ (Ne.symm e), ih, List.set_comm _ _ e]
      exact this own σ
theorem env_wipe {Γ : Gm} {σ : L2.St} (r : EnvOk K xt ad Γ σ H) : ∀ own : List Nat, EnvOk K xt ad (wipeG Γ own) (wipe σ own) H
  | [] => r
  | j :: own => by
    have ih := env_wipe r own
    unfold wipeG wipe
    refine ⟨by rw [List.length_set, List.length_set, ih.1], fun i e h => ?_⟩
    by_cases q : j = i
    · subst q
      by_cases hl : j < (wipeG Γ own).length
      · rw [List.getElem?_set_self hl] at h
        cases h
      · rw [List.getElem?_eq_none (by simpa using hl)] at h
        cases h
    · rw [List.getElem?_set_ne q] at h ⊢
      exact ih.2 i e h
theorem env_set {Γ : Gm} {σ : L2.St} {i : Nat} {v : V} {e : E} (r : EnvOk K xt ad Γ σ H) (re : RdE K xt ad H v e) : EnvOk K xt ad (setG Γ i e) (σ.set i (some v)) H := by
  refine ⟨by unfold setG; rw [List.length_set, List.length_set, r.1], fun j e' h => ?_⟩
  unfold setG at h
  by_cases q : i = j
  · subst q
    have hl : i < Γ.length := by
      have := (List.getElem?_eq_some_iff.mp h).1
      simpa using this
    rw [List.getElem?_set_self hl] at h
    cases h
    refine ⟨v, ?_, re⟩
    rw [List.getElem?_set_self (by rw [← r.1]; exact hl)]
  · rw [List.getElem?_set_ne q] at h ⊢
    exact r.2 j e' h
end
def gT (K : PySem.W.Frag) (t : CT) : TG := fun v σ H Q => ∃ xt ad Γ e Γ1, EnvOk K xt ad Γ σ H ∧ RdE K xt ad H v e ∧ putT t e Γ = some Γ1 ∧
  ∀ σ1, EnvOk K xt ad Γ1 σ1 H → (∀ own, subT own t = true → wipe σ1 own = wipe σ own) → Q σ1 H
def gTs (K : PySem.W.Frag) (t : CTs) : TGs := fun vs σ H Q => ∃ xt ad Γ ds Γ1, EnvOk K xt ad Γ σ H ∧ DpAll K (hide xt ad H) vs ds ∧ putTs t ds Γ = some Γ1 ∧
  ∀ σ1, EnvOk K xt ad Γ1 σ1 H → (∀ own, subTs own t = true → wipe σ1 own = wipe σ own) → Q σ1 H
theorem pg_imp {X : Cx} {e : Expr} {t t' : TG} (p : PG X e t) (i : ∀ v σ H Q, t' v σ H Q → t v σ H Q) : PG X e t' := ⟨fun pins s σ H v u Q I r h => p.run pins s σ H v u Q I r (i v σ H Q h)⟩
theorem pgs_imp {X : Cx} {e : List Expr} {t t' : TGs} (p : PGs X e t) (i : ∀ v σ H Q, t' v σ H Q → t v σ H Q) : PGs X e t' := ⟨fun pins s σ H v u Q I r h => p.run pins s σ H v u Q I r (i v σ H Q h)⟩
theorem each_len {env : Env} : ∀ es : List Expr, (assignEach es env).length = es.length
  | [] => rfl
  | e :: es => by
    cases e <;> (show (assignEach es env).length + 1 = es.length + 1; rw [each_len es])
theorem chkTs_len {N : List Str} {sc : Scope} {fnB : Str → Bool} : ∀ {ts : CTs} {es : List Expr}, chkTs N sc fnB ts es = true → ∀ env : Env, (assignEach es env).findIdx? (·.1) = none
  | .nil, [], _, env => rfl
  | .cons t ts, e :: es, h, env => by
    simp only [chkTs, Bool.and_eq_true] at h
    have ih := chkTs_len h.2 env
    have : assignEach (e :: es) env = (false, assign e env) :: assignEach es env := by
      have := h.1
      cases e <;> first | rfl | (exfalso; cases t <;> simp [chkT] at this)
    rw [this, List.findIdx?_cons]
    show (if false = true then some 0 else _) = none
    rw [if_neg Bool.false_ne_true, ih]
    rfl
  | .nil, e :: es, h, env => by simp [chkTs] at h
  | .cons t ts, [], h, env => by simp [chkTs] at h
theorem putTs_len : ∀ {ts : CTs} {ds : List PyData} {Γ Γ1 : Gm} {N : List Str} {sc : Scope} {fnB : Str → Bool} {es : List Expr}, putTs ts ds Γ = some Γ1 → chkTs N sc fnB ts es = true → ds.length = es.length
  | .nil, [], _, _, _, _, _, [], _, _ => rfl
  | .cons t ts, d :: ds, Γ, Γ1, N, sc, fnB, e :: es, h, hc => by
    simp only [chkTs, Bool.and_eq_true] at hc
    simp only [putTs] at h
    obtain ⟨Γ2, _, h2⟩ := Option.bind_eq_some_iff.mp h
    rw [List.length_cons, List.length_cons, putTs_len h2 hc.2]
  | .nil, d :: ds, _, _, _, _, _, _, h, _ => by simp [putTs] at h
  | .cons t ts, [], _, _, _, _, _, _, h, _ => by simp [putTs] at h
  | .nil, [], _, _, _, _, _, e :: es, _, h => by simp [chkTs] at h
  | .cons t ts, _, _, _, _, _, _, [], _, h => by simp [chkTs] at h
theorem loc_of {X : Cx} {sc : Scope} {fnB : Str → Bool} {x : Str} (e : X.env.scope = sc) (hf : ∀ x, fnB x = true → X.fn x = true) (h : locB sc fnB x = true) :
    Loc X.env.scope x ∧ (X.fn x = true ∨ X.env.scope.names.lookup x = some .local) := by
  rw [e]
  unfold locB at h
  split at h
  · rename_i q
    exact ⟨.inl q, .inr q⟩
  · rename_i q
    exact ⟨.inr q, .inl (hf _ h)⟩
  · cases h
mutual
theorem sndG {N : List Str} {sc : Scope} {fnB : Str → Bool} {X : Cx} (hn : X.N = N) (hs : X.env.scope = sc) (hd : N.Nodup) (hcm : X.calm = true) (hf : ∀ x, fnB x = true → X.fn x = true) :
    ∀ (t : CT) (e : Expr), chkT N sc fnB t e = true → PG X e (gT X.K t)
  | .nam i, .Name x pos, h => by
    simp only [chkT, Bool.and_eq_true, decide_eq_true_eq] at h
    obtain ⟨hl, hl2⟩ := loc_of hs hf h.2
    refine pg_imp (pg_name (i := i) (by rw [hn]; exact hd) (by rw [hn]; exact h.1) hl hl2) fun v σ H Q q => ?_
    obtain ⟨xt, ad, Γ, e, Γ1, en, re, hp, k⟩ := q
    simp only [putT] at hp
    have ep := some_inj hp
    subst ep
    refine k _ (env_set en re) fun own ho => ?_
    simp only [subT] at ho
    exact wipe_set (by simpa using ho)
  | .tup ts, .Tuple es kk pos, h => by
    simp only [chkT] at h
    refine pg_imp (pg_tup (n := es.length) hcm (sndGs hn hs hd hcm hf ts es h) (each_len es) (chkTs_len h _)) fun v σ H Q q => ?_
    obtain ⟨xt, ad, Γ, e, Γ1, en, re, hp, k⟩ := q
    cases e with
    | c n => simp [putT] at hp
    | d x =>
      cases x with
      | tuple ds =>
        simp only [putT] at hp
        cases re with
        | tup s da =>
          refine ⟨_, _, rfl, ex_t hide_ex s, ?_, xt, ad, Γ, ds, Γ1, en, da, hp, fun σ1 h1 h2 => k σ1 h1 fun own ho => h2 own (by simpa [subT] using ho)⟩
          rw [dpa_len da]
          exact putTs_len hp h
      | _ => simp [putT] at hp
  | .nam i, .BoolOp .., h => by simp [chkT] at h
  | .nam i, .NamedExpr .., h => by simp [chkT] at h
  | .nam i, .BinOp .., h => by simp [chkT] at h
  | .nam i, .UnaryOp .., h => by simp [chkT] at h
  | .nam i, .Lambda .., h => by simp [chkT] at h
  | .nam i, .IfExp .., h => by simp [chkT] at h
  | .nam i, .Dict .., h => by simp [chkT] at h
  | .nam i, .Set .., h => by simp [chkT] at h
  | .nam i, .ListComp .., h => by simp [chkT] at h
  | .nam i, .SetComp .., h => by simp [chkT] at h
  | .nam i, .DictComp .., h => by simp [chkT] at h
  | .nam i, .GeneratorExp .., h => by simp [chkT] at h
  | .nam i, .Await .., h => by simp [chkT] at h
  | .nam i, .Yield .., h => by simp [chkT] at h
  | .nam i, .YieldFrom .., h => by simp [chkT] at h
  | .nam i, .Compare .., h => by simp [chkT] at h
  | .nam i, .Call .., h => by simp [chkT] at h
  | .nam i, .FormattedValue .., h => by simp [chkT] at h
  | .nam i, .JoinedStr .., h => by simp [chkT] at h
  | .nam i, .Constant .., h => by simp [chkT] at h
  | .nam i, .Attribute .., h => by simp [chkT] at h
  | .nam i, .Subscript .., h => by simp [chkT] at h
  | .nam i, .Starred .., h => by simp [chkT] at h
  | .nam i, .List .., h => by simp [chkT] at h
  | .nam i, .Tuple .., h => by simp [chkT] at h
  | .nam i, .Slice .., h => by simp [chkT] at h
  | .tup ts, .BoolOp .., h => by simp [chkT] at h
  | .tup ts, .NamedExpr .., h => by simp [chkT] at h
  | .tup ts, .BinOp .., h => by simp [chkT] at h
  | .tup ts, .UnaryOp .., h => by simp [chkT] at h
  | .tup ts, .Lambda .., h => by simp [chkT] at h
  | .tup ts, .IfExp .., h => by simp [chkT] at h
  | .tup ts, .Dict .., h => by simp [chkT] at h
  | .tup ts, .Set .., h => by simp [chkT] at h
  | .tup ts, .ListComp .., h => by simp [chkT] at h
  | .tup ts, .SetComp .., h => by simp [chkT] at h
  | .tup ts, .DictComp .., h => by simp [chkT] at h
  | .tup ts, .GeneratorExp .., h => by simp [chkT] at h
  | .tup ts, .Await .., h => by simp [chkT] at h
  | .tup ts, .Yield .., h => by simp [chkT] at h
  | .tup ts, .YieldFrom .., h => by simp [chkT] at h
  | .tup ts, .Compare .., h => by simp [chkT] at h
  | .tup ts, .Call .., h => by simp [chkT] at h
  | .tup ts, .FormattedValue .., h => by simp [chkT] at h
  | .tup ts, .JoinedStr .., h => by simp [chkT] at h
  | .tup ts, .Constant .., h => by simp [chkT] at h
  | .tup ts, .Attribute .., h => by simp [chkT] at h
  | .tup ts, .Subscript .., h => by simp [chkT] at h
  | .tup ts, .Starred .., h => by simp [chkT] at h
  | .tup ts, .Name .., h => by simp [chkT] at h
  | .tup ts, .List .., h => by simp [chkT] at h
  | .tup ts, .Slice .., h => by simp [chkT] at h
theorem sndGs {N : List Str} {sc : Scope} {fnB : Str → Bool} {X : Cx} (hn : X.N = N) (hs : X.env.scope = sc) (hd : N.Nodup) (hcm : X.calm = true) (hf : ∀ x, fnB x = true → X.fn x = true) :
    ∀ (ts : CTs) (es : List Expr), chkTs N sc fnB ts es = true → PGs X es (gTs X.K ts)
  | .nil, [], _ => pgs_imp pgs_nil fun v σ H Q q => by
    obtain ⟨xt, ad, Γ, ds, Γ1, en, da, hp, k⟩ := q
    cases ds with
    | cons d ds => simp [putTs] at hp
    | nil =>
      cases da
      have e := some_inj hp
      subst e
      exact ⟨rfl, k σ en fun _ _ => rfl⟩
  | .cons t ts, e :: es, h => by
    simp only [chkTs, Bool.and_eq_true] at h
    have hst : (assignEach (e :: es) X.env).map (·.2) = assign e X.env :: (assignEach es X.env).map (·.2) := by
      have := h.1
      cases e <;> first | rfl | (exfalso; cases t <;> simp [chkT] at this)
    refine pgs_imp (pgs_cons (sndG hn hs hd hcm hf t e h.1) (sndGs hn hs hd hcm hf ts es h.2) hst) fun v σ H Q q => ?_
    obtain ⟨xt, ad, Γ, ds, Γ1, en, da, hp, k⟩ := q
    cases da with
    | nil => simp [putTs] at hp
    | @cons v vs d ds h1 t1 =>
      simp only [putTs] at hp
      obtain ⟨Γ2, e1, e2⟩ := Option.bind_eq_some_iff.mp hp
      refine ⟨v, vs, rfl, xt, ad, Γ, .d d, Γ2, en, h1, e1, fun σ1 en1 w1 => ?_⟩
      refine ⟨xt, ad, Γ2, ds, Γ1, en1, t1, e2, fun σ2 en2 w2 => k σ2 en2 fun own ho => ?_⟩
      simp only [subTs, Bool.and_eq_true] at ho
      rw [w2 own ho.2, w1 own ho.1]
  | .nil, e :: es, h => by simp [chkTs] at h
  | .cons t ts, [], h => by simp [chkTs] at h
end
end Ht

set_option maxRecDepth 100000
set_option maxHeartbeats 16000000
/-! HtG: an expression of the text is worth what the small language says. -/
namespace Ht
open PySem L2 Evl PySem.SeqAt PyProof.Rows

section
variable {T : Xs} {P : Ph} {G : Gt} {N : List Str} {X : Cx} {W : WX} {sc : Scope}
theorem XOk.blk (o : XOk T P G N X W sc) (s : Shared) (H : Hp) (C : Addr) (cl : List (Str × Addr)) (fp : List Addr) (scope : Scope) :
    XOk T P G N (X.blk s H scope (compEnvC scope cl C X.env) fp) (fun _ _ _ _ => False) (relS scope sc) := by
  refine ⟨o.nm, ?_, o.nd, o.units, o.grd, takes0, o.calm, o.blt, o.con, o.fn, o.rm, o.lrm, o.exc, o.lam, o.cod, o.tnd⟩
  show relS scope X.env.scope = _
  rw [o.sc]

/-! ### the parts -/
theorem con_snd {c : Const} {d : PyData} {k : Nat} {pos : Pos} (h : conOk d c = true) : PE X (.Constant c k pos) (tE X.K T W P (.con d)) := by
  have fin : ∀ {σ : L2.St} {H : Hp} {Q : VK} {v : V}, (∀ G, Dp X.K G v d) → tE X.K T W P (.con d) σ H Q → Q v H := fun {σ H Q v} hd q => by
    obtain ⟨xt, ad, Γ, S, en, so, po⟩ := q
    simp only [ev] at po
    exact po v ad H Step.refl so (hd _)
  unfold conOk at h
  split at h
  · rename_i i j
    have e := of_decide_eq_true h
    subst e
    exact pe_imp pe_int fun σ H Q q => fin (fun _ => .int _) q
  · rename_i i j
    have e := of_decide_eq_true h
    subst e
    exact pe_imp pe_bl fun σ H Q q => fin (fun _ => .bl _) q
  · rename_i i j
    have e := of_decide_eq_true h
    subst e
    exact pe_imp pe_str fun σ H Q q => fin (fun _ => .str _) q
  · exact pe_imp pe_non fun σ H Q q => fin (fun _ => .non) q
  · cases h
/-- a call of a def, by the worth of the def -/
theorem call_snd (o : XOk T P G N X W sc) {x : Str} {p pos : Pos} {a : Expr} {as : List Expr} {f : Nat} {es : CEs} (hg : glB sc x = true) (hf : G.fns[f]? = some x) (hok : ∀ e ∈ a :: as, okE e = true)
    (ha : PA X (a :: as) (tAs X.K T W P es)) : PE X (.Call (.Name x p) (a :: as) [] pos) (tE X.K T W P (.call f es)) := by
  obtain ⟨g1, g2, g3⟩ := gl_of o.sc hg
  obtain ⟨fa, hm, hk, n, hr, F⟩ := o.fn f x hf
  refine ⟨fun pins s σ H Q I h => ?_⟩
  obtain ⟨xt, ad, Γ, S, en, so, po⟩ := h
  simp only [ev] at po
  refine wpAny_Call_Name_kw (ld_glob I g1 hm ?_ g2)
  have hargs : tAs X.K T W P es σ H (fun vs H1 => ∃ es' S1 ad1, Step xt ad H ad1 H1 ∧ StOk X.K T xt ad1 S1 H1 ∧ RdEs X.K xt ad1 H1 vs es' ∧
      Post X.K T (fun c d σ' H' => σ' = σ → W c d σ H') xt ad1 H1 (RdE X.K xt) (match P.f f es' S1 with
        | .ok e S2 => .ok e S2
        | .err x _ S2 => .err x Γ S2
        | .no => .no) Q) := ⟨xt, ad, Γ, S, en, so, Post.bind po fun e S1 v ad1 H1 st so1 re po1 => ⟨e, S1, ad1, st, so1, re, po1⟩⟩
  refine PySem.W.callWith_K (h₀ := X.base) I.ok.mod.kin hk (thn (ha.run pos pins s σ H _ I hargs) fun us s1 ⟨vs, H1, I1, r, es', S1, ad1, st, so1, re, po1⟩ => ⟨I1.kIn, ?_⟩) (star_ok (hok a List.mem_cons_self)) (plainstar fun e he => hok e (List.mem_cons_of_mem _ he))
  refine wpAny_call (codeAny_mono (F.run X.A X.stack s1 H1 us vs es' S1 xt ad1 Q (L2.WE W σ) o.grd (hr.mono (by omega)) I1.env0 r re so1 ?_) fun r s' hq => ?_)
  · revert po1
    cases P.f f es' S1 with
    | ok e S2 => exact fun q => q
    | err x Γ0 S2 => exact fun q cls d ad2 H2 σ2 st2 so2 _ xo => q cls d ad2 H2 σ st2 so2 (envOk_step (st.trans st2) en) xo rfl
    | no => exact fun q => q
  · cases r with
    | error e => exact passAt o.tk σ pins H1 s1 e s' I1 hq
    | ok fl =>
      cases fl with
      | ret u => exact I1.after hq
      | next => exact False.elim hq
      | brk => exact False.elim hq
      | cont => exact False.elim hq
/-- a call without arguments -/
theorem call0_snd (o : XOk T P G N X W sc) {x : Str} {p pos : Pos} {f : Nat} (hg : glB sc x = true) (hf : G.fns[f]? = some x) : PE X (.Call (.Name x p) [] [] pos) (tE X.K T W P (.call f .nil)) := by
  obtain ⟨g1, g2, g3⟩ := gl_of o.sc hg
  obtain ⟨fa, hm, hk, n, hr, F⟩ := o.fn f x hf
  refine ⟨fun pins s σ H Q I h => ?_⟩
  obtain ⟨xt, ad, Γ, S, en, so, po⟩ := h
  simp only [ev, evs, R.bind_ok] at po
  refine wpAny_Call_Name_kw (ld_glob I g1 hm ?_ g2)
  refine PySem.W.callWith_K0 I.kIn hk (wpAny_call (codeAny_mono (F.run X.A X.stack s H [] [] [] S xt ad Q (L2.WE W σ) o.grd (hr.mono (by omega)) I.env0 .nil .nil so ?_) fun r s' hq => ?_))
  · revert po
    cases P.f f [] S with
    | ok e S2 => exact fun q => q
    | err x Γ0 S2 => exact fun q cls d ad2 H2 σ2 st2 so2 _ xo => q cls d ad2 H2 σ st2 so2 (envOk_step st2 en) xo rfl
    | no => exact fun q => q
  · cases r with
    | error e => exact passAt o.tk σ pins H s e s' I hq
    | ok fl =>
      cases fl with
      | ret u => exact I.after hq
      | next => exact False.elim hq
      | brk => exact False.elim hq
      | cont => exact False.elim hq
/-- a value as a test -/
theorem tru_snd {c : CE} {e : Expr} (he : ∀ whole, isTrue e X.env whole = (do let v ← whole; standAt e.pos; holding [v] (truthy v))) (p : PE X e (tE X.K T W P c))
    (hev : ∀ Γ S, evT P c Γ S = (ev P c Γ S).bind fun x S1 => optB (truE x S1) S1) : PT X e (tT X.K T W P c) := by
  refine pt_imp (pt_truth p he) fun σ H Q q => ?_
  obtain ⟨xt, ad, Γ, S, en, so, po⟩ := q
  rw [hev] at po
  refine ⟨xt, ad, Γ, S, en, so, Post.bind po fun x S1 v ad1 H1 st so1 re po1 => ?_⟩
  obtain ⟨b, hb, q⟩ := optB_post po1 so1
  exact ⟨b, tru_of so1 re hb, q⟩
theorem pt_no {c : CE} {e : Expr} (h : ∀ Γ S, evT P c Γ S = .no) : PT X e (tT X.K T W P c) := ⟨fun pins s σ H Q I q => by
  obtain ⟨xt, ad, Γ, S, en, so, po⟩ := q
  rw [h] at po
  exact po.elim⟩
theorem evT_var {i : Nat} (Γ : Gm) (S : Sto) : evT P (.var i) Γ S = (ev P (.var i) Γ S).bind fun x S1 => optB (truE x S1) S1 := by
  simp only [evT, ev]
  split <;> rfl
theorem opt_bind {β : Type} {o : Option PyData} {S : Sto} {k : E → Sto → R β} : (opt o S).bind k = match o with
    | some d => k (.d d) S
    | none => .no := by
  cases o <;> rfl
theorem bind_bind {α β γ : Type} {r : R α} {f : α → Sto → R β} {g : β → Sto → R γ} : (r.bind f).bind g = r.bind fun a S => (f a S).bind g := by
  cases r <;> rfl
theorem evT_idx {a i : CE} (Γ : Gm) (S : Sto) : evT P (.idx a i) Γ S = (ev P (.idx a i) Γ S).bind fun x S1 => optB (truE x S1) S1 := by
  simp only [evT, ev, bind_bind, opt_bind]
  rfl
theorem evT_call {f : Nat} {es : CEs} (Γ : Gm) (S : Sto) : evT P (.call f es) Γ S = (ev P (.call f es) Γ S).bind fun x S1 => optB (truE x S1) S1 := by
  simp only [evT, ev, bind_bind]
  congr 1
  funext xs S1
  split <;> rfl
theorem evT_blt {b : Blt} {es : CEs} (Γ : Gm) (S : Sto) : evT P (.blt b es) Γ S = (ev P (.blt b es) Γ S).bind fun x S1 => optB (truE x S1) S1 := by
  simp only [evT, ev, bind_bind]
  congr 1
  funext xs S1
  split
  · rw [opt_bind]
    rfl
  · rfl
theorem bltV_ok (b : Blt) : bootBuiltins (bltN b) = some (bltV b) ∧ ((∃ id, bltV b = .builtin id) ∨ ∃ t, bltV b = .type t) := by
  cases b <;> exact ⟨by decide +kernel, by first | exact .inl ⟨_, rfl⟩ | exact .inr ⟨_, rfl⟩⟩
theorem pe_bltD (o : XOk T P G N X W sc) {b : Blt} {x : Str} {p pos : Pos} {e : Expr} {es : List Expr} {t : TA} (hg : glB sc x = true) (hm : G.blts.contains x = true) (hx : x = bltN b) (hok : ∀ a ∈ e :: es, okE a = true) (ha : PA X (e :: es) t) :
    PE X (.Call (.Name x p) (e :: es) [] pos) (tCB (rBlt T X.K b) t) := by
  obtain ⟨g1, g2, g3⟩ := gl_of o.sc hg
  obtain ⟨b1, b2⟩ := bltV_ok b
  have hc := call_blt (T := T) o.calm o.grd o.units b (X := X)
  rw [← hx] at b1
  rcases b2 with ⟨id, hb⟩ | ⟨id, hb⟩
  · rw [hb] at b1 hc
    exact pe_callB hc g1 (o.blt x hm) b1 ha g3 g2 (star_ok (hok e List.mem_cons_self)) (plainstar fun a h => hok a (List.mem_cons_of_mem _ h))
  · rw [hb] at b1 hc
    exact pe_callTy hc g1 (o.blt x hm) b1 ha g3 g2 (star_ok (hok e List.mem_cons_self)) (plainstar fun a h => hok a (List.mem_cons_of_mem _ h))
theorem app_snd {H : Hp} {xt ad : List Addr} {S : Sto} {x y : E} {v w : V} {Q : VK} {W : WX} (so : StOk X.K T xt ad S H) (rx : RdE X.K xt ad H v x) (ry : RdE X.K xt ad H w y) (po : Post X.K T W xt ad H (RdE X.K xt) (appE x y S) Q) :
    tyV X.K "list" v H ∧ rAppend v [w] H Q := by
  unfold appE at po
  split at po
  · rename_i n d
    split at po
    · rename_i xs hn
      split at po
      · rename_i hz
        obtain ⟨a, e1, e2⟩ := rx
        obtain ⟨a', e3, vs, e4, da⟩ := so.at' n _ hn
        rw [e1] at e3
        cases e3
        subst e2
        refine ⟨.inl ⟨rfl, vs, SqL.of e4⟩, a, vs, w, rfl, rfl, e4, by rw [dpa_len da]; exact hz, ?_⟩
        have hp : a ∈ ad := List.mem_of_getElem? e1
        obtain ⟨st, so1⟩ := step_set (o := .lst (vs ++ [w])) (c := .lst (xs ++ [d])) so e1 (by rw [hn]; intro _ z; cases z) ⟨_, upd_same, by rw [hide_upd (.inr hp)]; exact dpa_app da (.cons ry .nil)⟩
        exact po .non ad _ st so1 .non
      · exact po.elim
    · exact po.elim
  · exact po.elim

theorem evT_isi {a : CE} {t : Cty} (Γ : Gm) (S : Sto) : evT P (.isi a t) Γ S = (ev P (.isi a t) Γ S).bind fun x S1 => optB (truE x S1) S1 := by
  simp only [evT, ev, bind_bind]
  congr 1
  funext x S1
  unfold opt1
  cases peek x S1 with
  | none => rfl
  | some d =>
    dsimp only
    cases isD t d <;> rfl
/-! ### what class a value has -/
def tyN : PyData → String
  | .none => "NoneType" | .bool _ => "bool" | .int _ => "int" | .str _ => "str" | .list _ => "list" | .tuple _ => "tuple" | .dict _ => "dict"
theorem tyX_of {K : PySem.W.Frag} {H : Hp} {v : V} {x : PyData} (h : Dp K H v x) : TyX K H v (.type (tyN x)) := by
  cases h with
  | non => exact .base .non
  | bl b => exact .base (.bl b)
  | int i => exact .base (.int i)
  | str z => exact .base (.str z)
  | lst s a =>
    rcases s with (e | ⟨o, e⟩) | ⟨o, its, n, e, c, _⟩
    · exact .base (.lst e)
    · exact .base (.frz e)
    · exact .kList e c
  | tup s a =>
    rcases s with (e | ⟨o, e⟩) | ⟨o, its, n, e, c, _⟩
    · exact .base (.tup e)
    · exact .fTuple e
    · exact .kTuple e c
def ctyS : Cty → String
  | .int => "int" | .str => "str" | .tuple => "tuple" | .bool => "bool" | .list => "list"
theorem cty_boot (t : Cty) : bootBuiltins (ctyN t) = some (.type (ctyS t)) ∧ ctyN t ≠ "__name__" ∧ (ctyN t == ("__debug__" : Str)) = false := by
  cases t <;> exact ⟨by decide +kernel, by decide +kernel, by decide +kernel⟩
theorem kit_cty {K : PySem.W.Frag} {t : Cty} {x : PyData} {b : Bool} (h : isD t x = some b) : PySem.W.kitOne K (.type (tyN x)) (.type (ctyS t)) = some b := by
  refine kit_ty ?_
  cases t <;> cases x <;> first | (simp only [isD] at h; cases h; simp only [tyN, ctyS]; decide +kernel) | (simp only [isD] at h; cases h)
theorem isi_snd (o : XOk T P G N X W sc) {a : CE} {t : Cty} {x z : Str} {y : Expr} {p pz pos : Pos} (h1 : x = "isinstance") (h2 : glB sc x = true) (h3 : G.blts.contains x = true) (h4 : z = ctyN t) (h5 : glB sc z = true) (h6 : G.blts.contains z = true) (h7 : okE y = true) (hp : PE X y (tE X.K T W P a)) :
    PE X (.Call (.Name x p) [y, .Name z pz] [] pos) (tE X.K T W P (.isi a t)) := by
  subst h1 h4
  obtain ⟨g1, g2, g3⟩ := gl_of o.sc h2
  obtain ⟨k1, k2, k3⟩ := gl_of o.sc h5
  obtain ⟨b1, b2, b3⟩ := cty_boot t
  have hz : PE X (.Name (ctyN t) pz) (tC (.ty (ctyS t))) := pe_bltn k1 (o.blt _ h6) b1 rfl b2 b3
  refine pe_imp (pe_callB call_isi g1 (o.blt _ h3) (by decide +kernel) (pa_cons hp (pa_cons hz pa_nil rfl) (star_ok h7)) g3 g2 (star_ok h7) rfl) fun σ H Q q => ?_
  obtain ⟨xt, ad, Γ, S, en, so, po⟩ := q
  simp only [ev] at po
  refine ⟨xt, ad, Γ, S, en, so, Post.bind po fun e1 S1 v1 ad1 H1 st1 so1 r1 po1 => ?_⟩
  obtain ⟨d, r, e1, e2, k⟩ := opt1_post po1
  obtain ⟨b, e3, e4⟩ := Option.map_eq_some_iff.mp e2
  subst e4
  exact ⟨v1, .ty (ctyS t), .type (tyN d), .type (ctyS t), b, rfl, .ty _, tyX_of (pk_of so1 r1 e1).dp, kit_cty e3, k _ ad1 H1 Step.refl so1 (.bl _)⟩
/-! ### pop -/
theorem dpa_init {K : PySem.W.Frag} {Gh : Hp} : ∀ {vs : List V} {xs : List PyData}, DpAll K Gh vs xs → DpAll K Gh vs.dropLast xs.dropLast := by
  intro vs xs h
  rw [List.dropLast_eq_take, List.dropLast_eq_take, dpa_len h]
  exact dpa_take _ h
theorem dpa_erase {K : PySem.W.Frag} {Gh : Hp} : ∀ (n : Nat) {vs : List V} {xs : List PyData}, DpAll K Gh vs xs → DpAll K Gh (vs.eraseIdx n) (xs.eraseIdx n)
  | _, _, _, .nil => .nil
  | 0, _, _, .cons _ t => t
  | n + 1, _, _, .cons h t => .cons h (dpa_erase n t)
theorem pop_snd {H : Hp} {xt ad : List Addr} {S : Sto} {x : E} {v : V} {Q : VK} {W : WX} (so : StOk X.K T xt ad S H) (rx : RdE X.K xt ad H v x) (po : Post X.K T W xt ad H (RdE X.K xt) (popE x S) Q) : tyV X.K "list" v H ∧ rPop v [] H Q := by
  unfold popE at po
  split at po
  · rename_i n
    split at po
    · rename_i xs hn
      split at po
      · rename_i y hy
        obtain ⟨a, e1, e2⟩ := rx
        obtain ⟨a', e3, vs, e4, da⟩ := so.at' n _ hn
        rw [e1] at e3
        cases e3
        subst e2
        obtain ⟨w, hw, dw⟩ := dpa_get da hy
        have hp : a ∈ ad := List.mem_of_getElem? e1
        refine ⟨.inl ⟨rfl, vs, SqL.of e4⟩, a, vs, w, rfl, rfl, e4, by rw [dpa_len da]; exact hw, ?_⟩
        obtain ⟨st, so1⟩ := step_set (o := .lst vs.dropLast) (c := .lst xs.dropLast) so e1 (by rw [hn]; intro _ z; cases z) ⟨_, upd_same, by rw [hide_upd (.inr hp)]; exact dpa_init da⟩
        exact po w ad _ st so1 (dp_mono st.ex dw)
      · exact po.elim
    · exact po.elim
  · exact po.elim
theorem seqIx {j : Int} {n : Nat} (h0 : 0 ≤ j) (h1 : j < n) : seqIndex? j n = some j.toNat := by
  unfold seqIndex?
  have e : ¬ j < 0 := by omega
  simp only [e, if_false]
  have : (decide (0 ≤ j) && decide (j < (n : Int))) = true := by simp [h0, h1]
  rw [if_pos this]
theorem popi_snd {H : Hp} {xt ad : List Addr} {S : Sto} {x y : E} {v w : V} {Q : VK} {W : WX} (so : StOk X.K T xt ad S H) (rx : RdE X.K xt ad H v x) (ry : RdE X.K xt ad H w y) (po : Post X.K T W xt ad H (RdE X.K xt) (popiE x y S) Q) : rPopAt v [w] H Q := by
  unfold popiE at po
  split at po
  · rename_i n j
    split at po
    · rename_i xs hn
      split at po
      · rename_i hj
        split at po
        · rename_i z hz
          obtain ⟨a, e1, e2⟩ := rx
          obtain ⟨a', e3, vs, e4, da⟩ := so.at' n _ hn
          rw [e1] at e3
          cases e3
          subst e2
          have ry : Dp X.K (hide xt ad H) w (.int j) := ry
          cases ry
          obtain ⟨u, hu, du⟩ := dpa_get da hz
          have hp : a ∈ ad := List.mem_of_getElem? e1
          have hl : xs.length ≤ 16777216 := hj.2.2
          refine ⟨a, vs, j, j.toNat, u, rfl, rfl, e4, by omega, by omega, seqIx hj.1 (by rw [dpa_len da]; exact hj.2.1), hu, ?_⟩
          obtain ⟨st, so1⟩ := step_set (o := .lst (vs.eraseIdx j.toNat)) (c := .lst (xs.eraseIdx j.toNat)) so e1 (by rw [hn]; intro _ z; cases z) ⟨_, upd_same, by rw [hide_upd (.inr hp)]; exact dpa_erase _ da⟩
          exact po u ad _ st so1 (dp_mono st.ex du)
        · exact po.elim
      · exact po.elim
    · exact po.elim
  · exact po.elim

/-! ### comprehensions -/
theorem lc_snd (o : XOk T P G N X W sc) {elt : CE} {tg : CT} {it : CI} {ts : CO} {own : List Nat} {e t i : Expr} {ifs : List Expr} {scope : Scope} {pos : Pos} (hb : blkC N sc scope (ownL N own) = true) (hsub : subT own tg = true) (hok : okE i = true)
    (hi : PI X t i (tIt X.K T W P it))
    (hg : ∀ (s : Shared) (H : Hp) (C : Addr) (cl : List (Str × Addr)) (fp : List Addr), PG (X.blk s H scope (compEnvC scope cl C X.env) fp) t (gT X.K tg))
    (ht : ∀ (s : Shared) (H : Hp) (C : Addr) (cl : List (Str × Addr)) (fp : List Addr), PTs (X.blk s H scope (compEnvC scope cl C X.env) fp) ifs (tCc X.K T (fun _ _ _ _ => False) P ts))
    (he : ∀ (s : Shared) (H : Hp) (C : Addr) (cl : List (Str × Addr)) (fp : List Addr), PE (X.blk s H scope (compEnvC scope cl C X.env) fp) e (tE X.K T (fun _ _ _ _ => False) P elt)) :
    ∀ σ H Q, tE X.K T W P (.lc elt tg it ts own) σ H Q → tLc (tIt X.K T W P it) (gT X.K tg) (tCc X.K T (fun _ _ _ _ => False) P ts) (tE X.K T (fun _ _ _ _ => False) P elt) ((ownL N own).map (·.2)) σ H Q := by
  intro σ H Q q
  have hown : (ownL N own).map (·.2) = own := by
    unfold ownL
    rw [List.map_map]
    have : ((fun p : Str × Nat => p.2) ∘ fun k => (N.getD k "", k)) = id := rfl
    rw [this, List.map_id]
  rw [hown]
  obtain ⟨xt, ad, Γ, S, en, so, po⟩ := q
  simp only [ev] at po
  refine ⟨xt, ad, Γ, S, en, so, Post.bind po fun I S1 J ad1 H1 st1 so1 hI po1 => ?_⟩
  intro D hD
  have hw : I.w = none := by
    revert po1
    cases I.w with
    | none => exact fun _ => rfl
    | some n => exact fun q => q.elim
  rw [hw] at po1
  simp only at po1
  have en1 : EnvOk X.K xt ad1 Γ σ H1 := envOk_step st1 en
  have hDx := so1.new_notxt hD
  obtain ⟨soD, exD⟩ := step_hide (o := .lst []) so1 hD
  -- the turn, as the small language does it
  generalize hF : (fun (x : PyData) (S2 : Sto) => match putT tg (.d x) (wipeG Γ own) with
          | some Γ1 => ((evC P ts Γ1 S2).bind fun k S3 => if k = true then (ev P elt Γ1 S3).bind fun y S4 => (dat y S4).bind fun y S5 => R.ok (some y) S5 else R.ok none S3).calm
          | none => R.no) = F at po1
  refine ⟨fun i m H2 => m = I.xs.length - i ∧ i ≤ I.xs.length ∧ ∃ ad2 S2 acc ds, Step xt ad1 H1 ad2 H2 ∧ Step (D :: xt) ad1 (upd H1 D (.lst [])) ad2 (upd H2 D (.lst [])) ∧ StOk X.K T (D :: xt) ad2 S2 H2 ∧ H2 D = some (.lst acc) ∧ DpAll X.K (hide (D :: xt) ad2 H2) acc ds ∧
      Post X.K T (fun c d σ' H' => σ' = σ → W c d σ H') xt ad1 H1 (RdE X.K xt) ((lcR F (I.xs.drop i) ds S2).bind fun ys S3 => .ok (.d (.list ys)) S3) Q, ⟨I.xs.length, rfl, Nat.zero_le _, ad1, S1, [], [], ?_, ?_, soD, upd_same, .nil, ?_⟩, ?_⟩
  · exact (step_new so1 hD).1
  · rw [upd_upd]
    exact Step.refl
  · rw [List.drop_zero]
    exact po1
  · rintro i m H2 ⟨rfl, hi, ad2, S2, acc, ds, st2, stD, so2, eD, da, po2⟩
    have hIt := hI (D :: xt) ad2 H2 S2 st2.pre (by
      have x1 := exD.trans stD.ex
      have e0 : hide (D :: xt) ad2 (upd H2 D (.lst [])) = hide (D :: xt) ad2 H2 := hide_upd (.inl List.mem_cons_self)
      rw [e0] at x1
      exact x1) so2 (by rw [hw]; trivial) i
    by_cases hlt : i < I.xs.length
    · refine .inr ⟨(hIt.1 I.xs[i] (List.getElem?_eq_getElem hlt)).1, fun H' => ∃ m', m' < I.xs.length - i ∧ (m' = I.xs.length - (i + 1) ∧ i + 1 ≤ I.xs.length ∧ ∃ ad2 S2 acc ds, Step xt ad1 H1 ad2 H' ∧ Step (D :: xt) ad1 (upd H1 D (.lst [])) ad2 (upd H' D (.lst [])) ∧ StOk X.K T (D :: xt) ad2 S2 H' ∧ H' D = some (.lst acc) ∧ DpAll X.K (hide (D :: xt) ad2 H') acc ds ∧
        Post X.K T (fun c d σ' H' => σ' = σ → W c d σ H') xt ad1 H1 (RdE X.K xt) ((lcR F (I.xs.drop (i + 1)) ds S2).bind fun ys S3 => .ok (.d (.list ys)) S3) Q), fun H' h => h, fun v H3 hy => ?_⟩
      obtain ⟨st3, so3, dv⟩ := (hIt.1 I.xs[i] (List.getElem?_eq_getElem hlt)).2 v H3 hy
      rw [List.drop_eq_getElem_cons hlt] at po2
      simp only [lcR] at po2
      rw [← hF] at po2
      simp only at po2
      cases hp : putT tg (.d I.xs[i]) (wipeG Γ own) with
      | none =>
        rw [hp] at po2
        exact po2.elim
      | some Γ1 =>
        rw [hp, hF] at po2
        simp only at po2
        have eD3 : H3 D = some (.lst acc) := by rw [st3.xs D List.mem_cons_self (by rw [eD]; exact fun z => nomatch z), eD]
        -- from the heap ahead of D
        have exD3 : Ex (hide xt ad1 H1) (hide (D :: xt) ad2 H3) := by
          have x1 := exD.trans stD.ex
          have e0 : hide (D :: xt) ad2 (upd H2 D (.lst [])) = hide (D :: xt) ad2 H2 := hide_upd (.inl List.mem_cons_self)
          rw [e0] at x1
          exact x1.trans st3.ex
        have enD : EnvOk X.K (D :: xt) ad2 Γ σ H3 := ⟨en1.1, fun j e h => by
          obtain ⟨u, h1, h2⟩ := en1.2 j e h
          refine ⟨u, h1, ?_⟩
          cases e with
          | d x => exact dp_mono exD3 h2
          | c n =>
            obtain ⟨a, e1, e2⟩ := h2
            exact ⟨a, st2.get e1, e2⟩⟩
        have st13 : Step (D :: xt) ad1 (upd H1 D (.lst [])) ad2 (upd H3 D (.lst [])) := by
          refine stD.trans ⟨⟨[], (List.append_nil _).symm⟩, ?_, fun a ha n => ?_, fun a ha n => ?_⟩
          · have e0 : hide (D :: xt) ad2 (upd H2 D (.lst [])) = hide (D :: xt) ad2 H2 := hide_upd (.inl List.mem_cons_self)
            have e1 : hide (D :: xt) ad2 (upd H3 D (.lst [])) = hide (D :: xt) ad2 H3 := hide_upd (.inl List.mem_cons_self)
            rw [e0, e1]
            exact st3.ex
          · by_cases q : a = D
            · subst q
              rw [upd_same]
              exact fun z => nomatch z
            · rw [upd_ne q] at n ⊢
              exact st3.cell a ha n
          · by_cases q : a = D
            · subst q
              rw [upd_same, upd_same]
            · rw [upd_ne q] at n
              rw [upd_ne q, upd_ne q]
              exact st3.xs a ha n
        have stx3 : Step xt ad1 H1 ad2 H3 := by
          refine st2.trans ⟨⟨[], (List.append_nil _).symm⟩, ?_, st3.cell, fun a ha n => st3.xs a (List.mem_cons_of_mem _ ha) n⟩
          intro a u e
          by_cases q : a = D
          · subst q
            have := hide_ex _ _ e
            rw [eD] at this
            cases this
            rw [hide_of hDx (so3.xs _ List.mem_cons_self).2]
            exact eD3
          · have hn : hide (D :: xt) ad2 H2 a = some u := by
              unfold hide at e ⊢
              split at e
              · cases e
              · rename_i n
                rw [if_neg (fun z => n (z.imp (fun z => (List.mem_cons.mp z).resolve_left q) id))]
                exact e
            exact hide_cons _ _ (st3.ex a u hn)
        have po3 := po2
        refine ⟨D :: xt, ad2, wipeG Γ own, .d I.xs[i], Γ1, env_wipe enD own, dv, hp, fun σ1 en4 w4 => ⟨?_, ?_⟩⟩
        · rw [w4 own hsub]
          have : ∀ (l : List Nat) (σ : L2.St), wipe (wipe σ l) l = wipe σ l := by
            intro l
            induction l with
            | nil => intro σ; rfl
            | cons k l ih =>
              intro σ
              show (wipe ((wipe σ l).set k none) l).set k none = (wipe σ l).set k none
              have c : ∀ (l : List Nat) (σ : L2.St), (wipe (σ.set k none) l).set k none = (wipe σ l).set k none := by
                intro l
                induction l with
                | nil => intro σ; show (σ.set k none).set k none = σ.set k none; rw [List.set_set]
                | cons j l ih2 =>
                  intro σ
                  show ((wipe (σ.set k none) l).set j none).set k none = ((wipe σ l).set j none).set k none
                  by_cases q : k = j
                  · subst q
                    rw [List.set_set, List.set_set, ih2]
                  · rw [List.set_comm _ _ (Ne.symm q), ih2, List.set_comm _ _ q]
              rw [c, ih]
          exact this own σ
        · -- the tests, then the element
          refine ⟨D :: xt, ad2, Γ1, S2, en4, so3, ?_⟩
          cases ht1 : evC P ts Γ1 S2 with
          | no =>
            rw [ht1] at po3
            exact po3.elim
          | err x Γ' S' =>
            rw [ht1] at po3
            exact po3.elim
          | ok k S3 =>
            rw [ht1] at po3
            intro b ad3 H4 st4 so4 hb
            subst hb
            have eD4 : H4 D = some (.lst acc) := by rw [st4.xs D List.mem_cons_self (by rw [eD3]; exact fun z => nomatch z), eD3]
            have lift : ∀ {ad3 : List Addr} {H4 : Hp} {S3 : Sto}, Step (D :: xt) ad2 H3 ad3 H4 → StOk X.K T (D :: xt) ad3 S3 H4 → Step xt ad2 H3 ad3 H4 := fun {ad3 H4 S3} st4 so4 => by
              refine ⟨st4.pre, fun a u e => ?_, st4.cell, fun a ha n => st4.xs a (List.mem_cons_of_mem _ ha) n⟩
              by_cases q : a = D
              · subst q
                have := hide_ex _ _ e
                rw [hide_of hDx (so4.xs _ List.mem_cons_self).2, st4.xs a List.mem_cons_self (by rw [eD3]; exact fun z => nomatch z)]
                exact this
              · have hn : hide (D :: xt) ad2 H3 a = some u := by
                  unfold hide at e ⊢
                  split at e
                  · cases e
                  · rename_i n
                    rw [if_neg (fun z => n (z.imp (fun z => (List.mem_cons.mp z).resolve_left q) id))]
                    exact e
                exact hide_cons _ _ (st4.ex a u hn)
            have liftD : ∀ {ad3 : List Addr} {H4 : Hp}, Step (D :: xt) ad2 H3 ad3 H4 → Step (D :: xt) ad1 (upd H1 D (.lst [])) ad3 (upd H4 D (.lst [])) := fun {ad3 H4} st4 => by
              refine st13.trans ⟨st4.pre, ?_, fun a ha n => ?_, fun a ha n => ?_⟩
              · have e0 : hide (D :: xt) ad2 (upd H3 D (.lst [])) = hide (D :: xt) ad2 H3 := hide_upd (.inl List.mem_cons_self)
                have e1 : hide (D :: xt) ad3 (upd H4 D (.lst [])) = hide (D :: xt) ad3 H4 := hide_upd (.inl List.mem_cons_self)
                rw [e0, e1]
                exact st4.ex
              · by_cases q : a = D
                · subst q
                  rw [upd_same]
                  exact fun z => nomatch z
                · rw [upd_ne q] at n ⊢
                  exact st4.cell a ha n
              · by_cases q : a = D
                · subst q
                  rw [upd_same, upd_same]
                · rw [upd_ne q] at n
                  rw [upd_ne q, upd_ne q]
                  exact st4.xs a ha n
            cases b with
            | false =>
              rw [if_neg Bool.false_ne_true]
              have po4 := po3
              exact ⟨_, by omega, rfl, hlt, ad3, S3, acc, ds, stx3.trans (lift st4 so4), liftD st4, so4, eD4, dpa_mono (st3.ex.trans st4.ex) da, po4⟩
            | true =>
              rw [if_pos rfl]
              refine ⟨D :: xt, ad3, Γ1, S3, envOk_step st4 en4, so4, ?_⟩
              rw [R.bind_ok, if_pos rfl] at po3
              cases he1 : ev P elt Γ1 S3 with
              | no =>
                rw [he1] at po3
                exact po3.elim
              | err x Γ' S' =>
                rw [he1] at po3
                exact po3.elim
              | ok y S4 =>
                rw [he1] at po3
                cases y with
                | c n => exact po3.elim
                | d y =>
                  have po4 : Post X.K T (fun c d σ' H' => σ' = σ → W c d σ H') xt ad1 H1 (RdE X.K xt) ((if ds.length < sizeLine then lcR F (I.xs.drop (i + 1)) (ds ++ [y]) S4 else .no).bind fun ys S3 => .ok (.d (.list ys)) S3) Q := po3
                  intro u ad4 H5 st5 so5 du
                  have st45 := st4.trans st5
                  have eD5 : H5 D = some (.lst acc) := by rw [st5.xs D List.mem_cons_self (by rw [eD4]; exact fun z => nomatch z), eD4]
                  have hz : ds.length < sizeLine := by
                    by_cases hz : ds.length < sizeLine
                    · exact hz
                    · rw [if_neg hz] at po4
                      exact po4.elim
                  rw [if_pos hz] at po4
                  have da5 : DpAll X.K (hide (D :: xt) ad4 H5) acc ds := dpa_mono (st3.ex.trans st45.ex) da
                  refine ⟨acc, eD5, by rw [dpa_len da5]; exact hz, ?_⟩
                  obtain ⟨so6, e6⟩ := step_hidden (o := .lst (acc ++ [u])) so5
                  have stL := lift st45 so5
                  have exL : Ex (hide xt ad1 H1) (hide xt ad4 (upd H5 D (.lst (acc ++ [u])))) := by
                    have x1 : Ex (hide xt ad1 H1) (hide (D :: xt) ad4 H5) := (exD3.trans st45.ex)
                    rw [← e6] at x1
                    exact x1.trans hide_cons
                  refine ⟨_, by omega, rfl, hlt, ad4, S4, acc ++ [u], ds ++ [y], ?_, ?_, so6, upd_same, ?_, ?_⟩
                  · have s0 := stx3.trans stL
                    refine ⟨s0.pre, exL, fun a ha n => ?_, fun a ha n => ?_⟩
                    · by_cases q : a = D
                      · subst q
                        rw [upd_same]
                        exact fun z => nomatch z
                      · rw [upd_ne q]
                        exact s0.cell a ha n
                    · rw [upd_ne (not_eq_of hDx ha)]
                      exact s0.xs a ha n
                  · rw [upd_upd]
                    exact liftD st45
                  · rw [e6]
                    exact dpa_app da5 (.cons du .nil)
                  · exact po4
    · have e : i = I.xs.length := by omega
      subst e
      refine .inl ⟨hIt.2 (Nat.le_refl _), ?_⟩
      rw [List.drop_length] at po2
      simp only [lcR, R.bind_ok] at po2
      obtain ⟨so3, dD⟩ := step_show so2 hDx eD da
      exact Post.step st2 po2 _ ad2 H2 Step.refl so3 dD
end
end Ht

set_option maxRecDepth 100000
set_option maxHeartbeats 4000000
/-! HtGb: a comprehension with two sources. -/
namespace Ht
open PySem L2 Evl PySem.SeqAt
/-- a list D being made: from the heap ahead of it on -/
structure LcI (K : PySem.W.Frag) (T : Xs) (xt : List Addr) (D : Addr) (ad1 : List Addr) (H1 : Hp) (ad2 : List Addr) (H2 : Hp) (S2 : Sto) (acc : List V) (ds : List PyData) : Prop where
  st : Step xt ad1 H1 ad2 H2
  stD : Step (D :: xt) ad1 (upd H1 D (.lst [])) ad2 (upd H2 D (.lst []))
  so : StOk K T (D :: xt) ad2 S2 H2
  eD : H2 D = some (.lst acc)
  da : DpAll K (hide (D :: xt) ad2 H2) acc ds
section
variable {K : PySem.W.Frag} {T : Xs} {xt ad1 ad2 ad3 : List Addr} {D : Addr} {H1 H2 H3 : Hp} {S1 S2 S3 : Sto} {acc : List V} {ds : List PyData}
theorem LcI.start (so1 : StOk K T xt ad1 S1 H1) (hD : H1 D = none) : LcI K T xt D ad1 H1 ad1 (upd H1 D (.lst [])) S1 [] [] := by
  obtain ⟨soD, exD⟩ := step_hide (o := .lst []) so1 hD
  refine ⟨(step_new so1 hD).1, ?_, soD, upd_same, .nil⟩
  rw [upd_upd]
  exact Step.refl
theorem LcI.ex (so1 : StOk K T xt ad1 S1 H1) (hD : H1 D = none) (L : LcI K T xt D ad1 H1 ad2 H2 S2 acc ds) : Ex (hide xt ad1 H1) (hide (D :: xt) ad2 H2) := by
  have x1 := (step_hide (o := .lst []) so1 hD).2.trans L.stD.ex
  have e0 : hide (D :: xt) ad2 (upd H2 D (.lst [])) = hide (D :: xt) ad2 H2 := hide_upd (.inl List.mem_cons_self)
  rw [e0] at x1
  exact x1
theorem LcI.env {Γ : Gm} {σ : L2.St} (so1 : StOk K T xt ad1 S1 H1) (hD : H1 D = none) (L : LcI K T xt D ad1 H1 ad2 H2 S2 acc ds) (en1 : EnvOk K xt ad1 Γ σ H1) : EnvOk K (D :: xt) ad2 Γ σ H2 := ⟨en1.1, fun j e h => by
  obtain ⟨u, h1, h2⟩ := en1.2 j e h
  refine ⟨u, h1, ?_⟩
  cases e with
  | d x => exact dp_mono (L.ex so1 hD) h2
  | c n =>
    obtain ⟨a, e1, e2⟩ := h2
    exact ⟨a, L.st.get e1, e2⟩⟩
theorem LcI.step (hDx : D ∉ xt) (L : LcI K T xt D ad1 H1 ad2 H2 S2 acc ds) (st3 : Step (D :: xt) ad2 H2 ad3 H3) (so3 : StOk K T (D :: xt) ad3 S3 H3) : LcI K T xt D ad1 H1 ad3 H3 S3 acc ds := by
  have eD3 : H3 D = some (.lst acc) := by rw [st3.xs D List.mem_cons_self (by rw [L.eD]; exact fun z => nomatch z), L.eD]
  refine ⟨L.st.trans ⟨st3.pre, ?_, st3.cell, fun a ha n => st3.xs a (List.mem_cons_of_mem _ ha) n⟩, L.stD.trans ⟨st3.pre, ?_, fun a ha n => ?_, fun a ha n => ?_⟩, so3, eD3, dpa_mono st3.ex L.da⟩
  · intro a u e
    by_cases q : a = D
    · subst q
      have := hide_ex _ _ e
      rw [hide_of hDx (so3.xs _ List.mem_cons_self).2, st3.xs a List.mem_cons_self (by rw [L.eD]; exact fun z => nomatch z)]
      exact this
    · have hn : hide (D :: xt) ad2 H2 a = some u := by
        unfold hide at e ⊢
        split at e
        · cases e
        · rename_i n
          rw [if_neg (fun z => n (z.imp (fun z => (List.mem_cons.mp z).resolve_left q) id))]
          exact e
      exact hide_cons _ _ (st3.ex a u hn)
  · have e0 : hide (D :: xt) ad2 (upd H2 D (.lst [])) = hide (D :: xt) ad2 H2 := hide_upd (.inl List.mem_cons_self)
    have e1 : hide (D :: xt) ad3 (upd H3 D (.lst [])) = hide (D :: xt) ad3 H3 := hide_upd (.inl List.mem_cons_self)
    rw [e0, e1]
    exact st3.ex
  · by_cases q : a = D
    · subst q
      rw [upd_same]
      exact fun z => nomatch z
    · rw [upd_ne q] at n ⊢
      exact st3.cell a ha n
  · by_cases q : a = D
    · subst q
      rw [upd_same, upd_same]
    · rw [upd_ne q] at n
      rw [upd_ne q, upd_ne q]
      exact st3.xs a ha n
theorem LcI.app {u : V} {y : PyData} (hDx : D ∉ xt) (so1 : StOk K T xt ad1 S1 H1) (hD : H1 D = none) (L : LcI K T xt D ad1 H1 ad2 H2 S2 acc ds) (du : Dp K (hide (D :: xt) ad2 H2) u y) : LcI K T xt D ad1 H1 ad2 (upd H2 D (.lst (acc ++ [u]))) S2 (acc ++ [u]) (ds ++ [y]) := by
  obtain ⟨so6, e6⟩ := step_hidden (o := .lst (acc ++ [u])) L.so
  have exL : Ex (hide xt ad1 H1) (hide xt ad2 (upd H2 D (.lst (acc ++ [u])))) := by
    have x1 := L.ex so1 hD
    rw [← e6] at x1
    exact x1.trans hide_cons
  refine ⟨⟨L.st.pre, exL, fun a ha n => ?_, fun a ha n => ?_⟩, ?_, so6, upd_same, ?_⟩
  · by_cases q : a = D
    · subst q
      rw [upd_same]
      exact fun z => nomatch z
    · rw [upd_ne q]
      exact L.st.cell a ha n
  · rw [upd_ne (not_eq_of hDx ha)]
    exact L.st.xs a ha n
  · rw [upd_upd]
    exact L.stD
  · rw [e6]
    exact dpa_app L.da (.cons du .nil)
/-- forward, but for D -/
def Fwd (xt ad : List Addr) (H : Hp) (ad' : List Addr) (H' : Hp) : Prop := (∃ more, ad' = ad ++ more) ∧ Ex (hide xt ad H) (hide xt ad' H')
theorem Fwd.refl {ad : List Addr} {H : Hp} : Fwd xt ad H ad H := ⟨⟨[], (List.append_nil _).symm⟩, Ex.refl _⟩
theorem Fwd.step (f : Fwd xt ad1 H1 ad2 H2) (s : Step xt ad2 H2 ad3 H3) : Fwd xt ad1 H1 ad3 H3 := by
  obtain ⟨⟨m1, e1⟩, x1⟩ := f
  obtain ⟨m2, e2⟩ := s.pre
  exact ⟨⟨m1 ++ m2, by rw [e2, e1, List.append_assoc]⟩, x1.trans s.ex⟩
theorem Fwd.upd {o : HO} (f : Fwd (D :: xt) ad1 H1 ad2 H2) : Fwd (D :: xt) ad1 H1 ad2 (upd H2 D o) := ⟨f.1, by
  rw [hide_upd (.inl List.mem_cons_self)]
  exact f.2⟩
theorem Fwd.env {Γ : Gm} {σ : L2.St} (f : Fwd xt ad1 H1 ad2 H2) (en : EnvOk K xt ad1 Γ σ H1) : EnvOk K xt ad2 Γ σ H2 := ⟨en.1, fun j e h => by
  obtain ⟨u, h1, h2⟩ := en.2 j e h
  refine ⟨u, h1, ?_⟩
  cases e with
  | d x => exact dp_mono f.2 h2
  | c n =>
    obtain ⟨a, e1, e2⟩ := h2
    obtain ⟨m, e⟩ := f.1
    refine ⟨a, ?_, e2⟩
    rw [e, List.getElem?_append_left (List.getElem?_eq_some_iff.mp e1).1]
    exact e1⟩
theorem wipe_twice : ∀ (l : List Nat) (σ : L2.St), wipe (wipe σ l) l = wipe σ l := by
  intro l
  induction l with
  | nil => intro σ; rfl
  | cons k l ih =>
    intro σ
    show (wipe ((wipe σ l).set k none) l).set k none = (wipe σ l).set k none
    have c : ∀ (l : List Nat) (σ : L2.St), (wipe (σ.set k none) l).set k none = (wipe σ l).set k none := by
      intro l
      induction l with
      | nil => intro σ; show (σ.set k none).set k none = σ.set k none; rw [List.set_set]
      | cons j l ih2 =>
        intro σ
        show ((wipe (σ.set k none) l).set j none).set k none = ((wipe σ l).set j none).set k none
        by_cases q : k = j
        · subst q
          rw [List.set_set, List.set_set, ih2]
        · rw [List.set_comm _ _ (Ne.symm q), ih2, List.set_comm _ _ q]
    rw [c, ih]
theorem rbind_assoc {α β γ : Type} {r : R α} {f : α → Sto → R β} {g : β → Sto → R γ} : (r.bind f).bind g = r.bind fun a S => (f a S).bind g := by cases r <;> rfl
end
section
variable {P : Ph} {T : Xs} {N : List Str} {G : Gt} {X : Cx} {W : WX} {sc : Scope}
theorem lc2_snd {elt : CE} {tg : CT} {it : CI} {ts : CO} {own : List Nat} {tg1 : CT} {it1 : CI} {ts1 : CO} {own1 : List Nat} (hsub : subT own tg = true) (hsub1 : subT own1 tg1 = true) :
    ∀ σ H Q, tE X.K T W P (.lc2 elt tg it ts own tg1 it1 ts1 own1) σ H Q → tLc2 (tIt X.K T W P it) (gT X.K tg) (tCc X.K T (fun _ _ _ _ => False) P ts) (tIt X.K T (fun _ _ _ _ => False) P it1) (gT X.K tg1) (tCc X.K T (fun _ _ _ _ => False) P ts1) (tE X.K T (fun _ _ _ _ => False) P elt) ((ownL N own).map (·.2)) own1 σ H Q := by
  intro σ H Q q
  have hown : (ownL N own).map (·.2) = own := by
    unfold ownL
    rw [List.map_map]
    have : ((fun p : Str × Nat => p.2) ∘ fun k => (N.getD k "", k)) = id := rfl
    rw [this, List.map_id]
  rw [hown]
  obtain ⟨xt, ad, Γ, S, en, so, po⟩ := q
  simp only [ev] at po
  refine ⟨xt, ad, Γ, S, en, so, Post.bind po fun I S1 J ad1 H1 st1 so1 hI po1 => ?_⟩
  intro D hD
  have hw : I.w = none := by
    revert po1
    cases I.w with
    | none => exact fun _ => rfl
    | some n => exact fun q => q.elim
  rw [hw] at po1
  simp only at po1
  have en1 : EnvOk X.K xt ad1 Γ σ H1 := envOk_step st1 en
  have hDx := so1.new_notxt hD
  generalize hF : (fun (x : PyData) (acc : List PyData) (S2 : Sto) => match putT tg (.d x) (wipeG Γ own) with
          | some Γ1 => (evC P ts Γ1 S2).calm.bind fun k S3 => if k = true then (evI P it1 Γ1 S3).calm.bind fun J S4 => match J.w with
              | some _ => R.no
              | none => lcR (fun y S5 => match putT tg1 (.d y) (wipeG Γ1 own1) with
                  | some Γ2 => ((evC P ts1 Γ2 S5).bind fun k S6 => if k = true then (ev P elt Γ2 S6).bind fun y S7 => (dat y S7).bind fun y S8 => R.ok (some y) S8 else R.ok none S6).calm
                  | none => R.no) J.xs acc S4
            else R.ok acc S3
          | none => R.no) = F at po1
  refine ⟨fun i m H2 => m = I.xs.length - i ∧ i ≤ I.xs.length ∧ ∃ ad2 S2 acc ds, LcI X.K T xt D ad1 H1 ad2 H2 S2 acc ds ∧
      Post X.K T (fun c d σ' H' => σ' = σ → W c d σ H') xt ad1 H1 (RdE X.K xt) ((lcO F (I.xs.drop i) ds S2).bind fun ys S3 => .ok (.d (.list ys)) S3) Q, ⟨I.xs.length, rfl, Nat.zero_le _, ad1, S1, [], [], LcI.start so1 hD, ?_⟩, ?_⟩
  · rw [List.drop_zero]
    exact po1
  rintro i m H2 ⟨rfl, hi, ad2, S2, acc, ds, L, po2⟩
  have hIt := hI (D :: xt) ad2 H2 S2 L.st.pre (L.ex so1 hD) L.so (by rw [hw]; trivial) i
  by_cases hlt : i < I.xs.length
  · refine .inr ⟨(hIt.1 I.xs[i] (List.getElem?_eq_getElem hlt)).1, fun H' => ∃ m', m' < I.xs.length - i ∧ (m' = I.xs.length - (i + 1) ∧ i + 1 ≤ I.xs.length ∧ ∃ ad2 S2 acc ds, LcI X.K T xt D ad1 H1 ad2 H' S2 acc ds ∧
      Post X.K T (fun c d σ' H' => σ' = σ → W c d σ H') xt ad1 H1 (RdE X.K xt) ((lcO F (I.xs.drop (i + 1)) ds S2).bind fun ys S3 => .ok (.d (.list ys)) S3) Q), fun H' h => h, fun v H3 hy => ?_⟩
    obtain ⟨st3, so3, dv⟩ := (hIt.1 I.xs[i] (List.getElem?_eq_getElem hlt)).2 v H3 hy
    have L3 := L.step hDx st3 so3
    rw [List.drop_eq_getElem_cons hlt] at po2
    simp only [lcO] at po2
    rw [← hF] at po2
    simp only at po2
    cases hp : putT tg (.d I.xs[i]) (wipeG Γ own) with
    | none =>
      rw [hp] at po2
      exact po2.elim
    | some Γ1 =>
      rw [hp, hF] at po2
      simp only at po2
      refine ⟨D :: xt, ad2, wipeG Γ own, .d I.xs[i], Γ1, env_wipe (L3.env so1 hD en1) own, dv, hp, fun σ1 en4 w4 => ⟨by rw [w4 own hsub]; exact wipe_twice own σ, ?_⟩⟩
      refine ⟨D :: xt, ad2, Γ1, S2, en4, so3, ?_⟩
      cases ht1 : evC P ts Γ1 S2 with
      | no =>
        rw [ht1] at po2
        exact po2.elim
      | err x Γ' S' =>
        rw [ht1] at po2
        exact po2.elim
      | ok k S3 =>
        rw [ht1] at po2
        intro b ad3 H4 st4 so4 hb
        subst hb
        have L4 := L3.step hDx st4 so4
        cases b with
        | false =>
          rw [if_neg Bool.false_ne_true]
          exact ⟨_, by omega, rfl, hlt, ad3, S3, acc, ds, L4, po2⟩
        | true =>
          rw [if_pos rfl]
          refine ⟨D :: xt, ad3, Γ1, S3, envOk_step st4 en4, so4, ?_⟩
          cases hi1 : evI P it1 Γ1 S3 with
          | no =>
            rw [R.calm_ok, R.bind_ok, if_pos rfl, hi1] at po2
            exact po2.elim
          | err x Γ' S' =>
            rw [R.calm_ok, R.bind_ok, if_pos rfl, hi1] at po2
            exact po2.elim
          | ok I1 S4 =>
            rw [R.calm_ok, R.bind_ok, if_pos rfl, hi1, R.calm_ok, R.bind_ok] at po2
            intro J1 ad4 H5 st5 so5 hI1
            have L5 := L4.step hDx st5 so5
            have hw1 : I1.w = none := by
              revert po2
              cases I1.w with
              | none => exact fun _ => rfl
              | some n => exact fun q => q.elim
            rw [hw1] at po2
            simp only at po2
            have en5 : EnvOk X.K (D :: xt) ad4 Γ1 σ1 H5 := envOk_step (st4.trans st5) en4
            generalize hF1 : (fun (y : PyData) (S5 : Sto) => match putT tg1 (.d y) (wipeG Γ1 own1) with
                  | some Γ2 => ((evC P ts1 Γ2 S5).bind fun k S6 => if k = true then (ev P elt Γ2 S6).bind fun y S7 => (dat y S7).bind fun y S8 => R.ok (some y) S8 else R.ok none S6).calm
                  | none => R.no) = F1 at po2
            rw [rbind_assoc] at po2
            refine ⟨fun j k H6 => k = I1.xs.length - j ∧ j ≤ I1.xs.length ∧ ∃ ad5 S5 acc ds, LcI X.K T xt D ad1 H1 ad5 H6 S5 acc ds ∧ Fwd (D :: xt) ad4 H5 ad5 H6 ∧
                Post X.K T (fun c d σ' H' => σ' = σ → W c d σ H') xt ad1 H1 (RdE X.K xt) ((lcR F1 (I1.xs.drop j) ds S5).bind fun ys S6 => (lcO F (I.xs.drop (i + 1)) ys S6).bind fun ys S3 => .ok (.d (.list ys)) S3) Q, ⟨I1.xs.length, rfl, Nat.zero_le _, ad4, S4, acc, ds, L5, Fwd.refl, ?_⟩, ?_⟩
            · rw [List.drop_zero]
              exact po2
            rintro j k H6 ⟨rfl, hj, ad5, S5, acc, ds, L6, fw, po3⟩
            have hIt1 := hI1 (D :: xt) ad5 H6 S5 fw.1 fw.2 L6.so (by rw [hw1]; trivial) j
            by_cases hlt1 : j < I1.xs.length
            · refine .inr ⟨(hIt1.1 I1.xs[j] (List.getElem?_eq_getElem hlt1)).1, fun H' => ∃ k', k' < I1.xs.length - j ∧ (k' = I1.xs.length - (j + 1) ∧ j + 1 ≤ I1.xs.length ∧ ∃ ad5 S5 acc ds, LcI X.K T xt D ad1 H1 ad5 H' S5 acc ds ∧ Fwd (D :: xt) ad4 H5 ad5 H' ∧
                Post X.K T (fun c d σ' H' => σ' = σ → W c d σ H') xt ad1 H1 (RdE X.K xt) ((lcR F1 (I1.xs.drop (j + 1)) ds S5).bind fun ys S6 => (lcO F (I.xs.drop (i + 1)) ys S6).bind fun ys S3 => .ok (.d (.list ys)) S3) Q), fun H' h => h, fun v1 H7 hy1 => ?_⟩
              obtain ⟨st7, so7, dv1⟩ := (hIt1.1 I1.xs[j] (List.getElem?_eq_getElem hlt1)).2 v1 H7 hy1
              have L7 := L6.step hDx st7 so7
              have fw7 := fw.step st7
              rw [List.drop_eq_getElem_cons hlt1] at po3
              simp only [lcR] at po3
              rw [← hF1] at po3
              simp only at po3
              cases hp1 : putT tg1 (.d I1.xs[j]) (wipeG Γ1 own1) with
              | none =>
                rw [hp1] at po3
                exact po3.elim
              | some Γ2 =>
                rw [hp1, hF1] at po3
                simp only at po3
                refine ⟨D :: xt, ad5, wipeG Γ1 own1, .d I1.xs[j], Γ2, env_wipe (fw7.env en5) own1, dv1, hp1, fun σ2 en8 w8 => ⟨by rw [w8 own1 hsub1]; exact wipe_twice own1 σ1, ?_⟩⟩
                refine ⟨D :: xt, ad5, Γ2, S5, en8, so7, ?_⟩
                cases ht2 : evC P ts1 Γ2 S5 with
                | no =>
                  rw [ht2] at po3
                  exact po3.elim
                | err x Γ' S' =>
                  rw [ht2] at po3
                  exact po3.elim
                | ok b S6 =>
                  rw [ht2] at po3
                  intro b2 ad6 H8 st8 so8 hb2
                  subst hb2
                  have L8 := L7.step hDx st8 so8
                  have fw8 := fw7.step st8
                  cases b2 with
                  | false =>
                    rw [if_neg Bool.false_ne_true]
                    exact ⟨_, by omega, rfl, hlt1, ad6, S6, acc, ds, L8, fw8, po3⟩
                  | true =>
                    rw [if_pos rfl]
                    refine ⟨D :: xt, ad6, Γ2, S6, envOk_step st8 en8, so8, ?_⟩
                    rw [R.bind_ok, if_pos rfl] at po3
                    cases he1 : ev P elt Γ2 S6 with
                    | no =>
                      rw [he1] at po3
                      exact po3.elim
                    | err x Γ' S' =>
                      rw [he1] at po3
                      exact po3.elim
                    | ok y S7 =>
                      rw [he1] at po3
                      cases y with
                      | c n => exact po3.elim
                      | d y =>
                        have po4 : Post X.K T (fun c d σ' H' => σ' = σ → W c d σ H') xt ad1 H1 (RdE X.K xt) ((if ds.length < sizeLine then lcR F1 (I1.xs.drop (j + 1)) (ds ++ [y]) S7 else .no).bind fun ys S6 => (lcO F (I.xs.drop (i + 1)) ys S6).bind fun ys S3 => .ok (.d (.list ys)) S3) Q := po3
                        intro u ad7 H9 st9 so9 du
                        have L9 := L8.step hDx st9 so9
                        have fw9 := fw8.step st9
                        have hz : ds.length < sizeLine := by
                          by_cases hz : ds.length < sizeLine
                          · exact hz
                          · rw [if_neg hz] at po4
                            exact po4.elim
                        rw [if_pos hz] at po4
                        exact ⟨acc, L9.eD, by rw [dpa_len L9.da]; exact hz, _, by omega, rfl, hlt1, ad7, S7, acc ++ [u], ds ++ [y], L9.app hDx so1 hD du, fw9.upd, po4⟩
            · have e : j = I1.xs.length := by omega
              subst e
              refine .inl ⟨hIt1.2 (Nat.le_refl _), ?_⟩
              rw [List.drop_length] at po3
              simp only [lcR, R.bind_ok] at po3
              exact ⟨_, by omega, rfl, hlt, ad5, S5, acc, ds, L6, po3⟩
  · have e : i = I.xs.length := by omega
    subst e
    refine .inl ⟨hIt.2 (Nat.le_refl _), ?_⟩
    rw [List.drop_length] at po2
    simp only [lcO, R.bind_ok] at po2
    obtain ⟨so3, dD⟩ := step_show L.so hDx L.eD L.da
    exact Post.step L.st po2 _ ad2 H2 Step.refl so3 dD
theorem hide_own {xt ad : List Addr} {D : Addr} {H : Hp} : hide xt (ad ++ [D]) H = hide (D :: xt) ad H := by
  funext a
  unfold hide
  have : (a ∈ xt ∨ a ∈ ad ++ [D]) ↔ (a ∈ D :: xt ∨ a ∈ ad) := by
    simp only [List.mem_append, List.mem_cons, List.not_mem_nil, or_false]
    constructor
    · rintro (h | h | h)
      · exact .inl (.inr h)
      · exact .inr h
      · exact .inl (.inl h)
    · rintro ((h | h) | h)
      · exact .inr (.inr h)
      · exact .inl h
      · exact .inr (.inl h)
  by_cases h : a ∈ xt ∨ a ∈ ad ++ [D]
  · rw [if_pos h, if_pos (this.mp h)]
  · rw [if_neg h, if_neg (mt this.mpr h)]
theorem st_own {K : PySem.W.Frag} {xt ad : List Addr} {D : Addr} {H : Hp} {S : Sto} {vs : List V} {ds : List PyData} (so : StOk K T (D :: xt) ad S H) (hx : D ∉ xt) (e : H D = some (.lst vs)) (d : DpAll K (hide (D :: xt) ad H) vs ds) : StOk K T xt (ad ++ [D]) (S ++ [.lst ds]) H := by
  have hD := (so.xs D List.mem_cons_self).2
  refine ⟨?_, by simp [so.len], fun n c hc => ?_, fun a ha => ⟨(so.xs a (List.mem_cons_of_mem _ ha)).1, fun z => ?_⟩, fun j p hp => ?_, so.tn, fun a ha => so.cx a (List.mem_cons_of_mem _ ha)⟩
  · refine List.nodup_append.mpr ⟨so.nd, List.nodup_cons.mpr ⟨List.not_mem_nil, List.nodup_nil⟩, fun a ha b hb z => ?_⟩
    rw [List.mem_singleton.mp hb] at z
    exact hD (z ▸ ha)
  · by_cases hn : n < S.length
    · rw [List.getElem?_append_left hn] at hc
      obtain ⟨a, h1, h2⟩ := so.at' n c hc
      refine ⟨a, by rw [List.getElem?_append_left (List.getElem?_eq_some_iff.mp h1).1]; exact h1, ?_⟩
      revert h2
      unfold CellOk
      rw [hide_own]
      exact fun h => h
    · have hl : n = S.length := by
        have := (List.getElem?_eq_some_iff.mp hc).1
        simp at this
        omega
      subst hl
      rw [List.getElem?_append_right (Nat.le_refl _)] at hc
      simp at hc
      subst hc
      refine ⟨D, by rw [← so.len]; simp, vs, e, ?_⟩
      rw [hide_own]
      exact d
  · rcases List.mem_append.mp z with z | z
    · exact (so.xs a (List.mem_cons_of_mem _ ha)).2 z
    · rw [List.mem_singleton.mp z] at ha
      exact hx ha
  · obtain ⟨h1, h2⟩ := so.tb j p hp
    exact ⟨by rw [List.getElem?_append_left (List.getElem?_eq_some_iff.mp h1).1]; exact h1, by rw [List.getElem?_append_left (List.getElem?_eq_some_iff.mp h2).1]; exact h2⟩
/-- a comprehension whose list is owned -/
theorem lcm_snd {elt : CE} {tg : CT} {it : CI} {ts : CO} {own : List Nat} (hsub : subT own tg = true) :
    ∀ σ H Q, tE X.K T W P (.mk (.lc elt tg it ts own)) σ H Q → tLc (tIt X.K T W P it) (gT X.K tg) (tCc X.K T (fun _ _ _ _ => False) P ts) (tE X.K T (fun _ _ _ _ => False) P elt) ((ownL N own).map (·.2)) σ H Q := by
  intro σ H Q q
  have hown : (ownL N own).map (·.2) = own := by
    unfold ownL
    rw [List.map_map]
    have : ((fun p : Str × Nat => p.2) ∘ fun k => (N.getD k "", k)) = id := rfl
    rw [this, List.map_id]
  rw [hown]
  obtain ⟨xt, ad, Γ, S, en, so, po⟩ := q
  simp only [ev, evM] at po
  rw [rbind_assoc] at po
  refine ⟨xt, ad, Γ, S, en, so, Post.bind po fun I S1 J ad1 H1 st1 so1 hI po1 => ?_⟩
  intro D hD
  have hw : I.w = none := by
    revert po1
    cases I.w with
    | none => exact fun _ => rfl
    | some n => exact fun q => q.elim
  rw [hw] at po1
  simp only at po1
  have en1 : EnvOk X.K xt ad1 Γ σ H1 := envOk_step st1 en
  have hDx := so1.new_notxt hD
  generalize hF : (fun (x : PyData) (S2 : Sto) => match putT tg (.d x) (wipeG Γ own) with
          | some Γ1 => ((evC P ts Γ1 S2).bind fun k S3 => if k = true then (ev P elt Γ1 S3).bind fun y S4 => (dat y S4).bind fun y S5 => R.ok (some y) S5 else R.ok none S3).calm
          | none => R.no) = F at po1
  refine ⟨fun i m H2 => m = I.xs.length - i ∧ i ≤ I.xs.length ∧ ∃ ad2 S2 acc ds, LcI X.K T xt D ad1 H1 ad2 H2 S2 acc ds ∧
      Post X.K T (fun c d σ' H' => σ' = σ → W c d σ H') xt ad1 H1 (RdE X.K xt) ((lcR F (I.xs.drop i) ds S2).bind fun ys S3 => .ok (.c S3.length) (S3 ++ [.lst ys])) Q, ⟨I.xs.length, rfl, Nat.zero_le _, ad1, S1, [], [], LcI.start so1 hD, ?_⟩, ?_⟩
  · rw [List.drop_zero]
    exact po1
  rintro i m H2 ⟨rfl, hi, ad2, S2, acc, ds, L, po2⟩
  have hIt := hI (D :: xt) ad2 H2 S2 L.st.pre (L.ex so1 hD) L.so (by rw [hw]; trivial) i
  by_cases hlt : i < I.xs.length
  · refine .inr ⟨(hIt.1 I.xs[i] (List.getElem?_eq_getElem hlt)).1, fun H' => ∃ m', m' < I.xs.length - i ∧ (m' = I.xs.length - (i + 1) ∧ i + 1 ≤ I.xs.length ∧ ∃ ad2 S2 acc ds, LcI X.K T xt D ad1 H1 ad2 H' S2 acc ds ∧
      Post X.K T (fun c d σ' H' => σ' = σ → W c d σ H') xt ad1 H1 (RdE X.K xt) ((lcR F (I.xs.drop (i + 1)) ds S2).bind fun ys S3 => .ok (.c S3.length) (S3 ++ [.lst ys])) Q), fun H' h => h, fun v H3 hy => ?_⟩
    obtain ⟨st3, so3, dv⟩ := (hIt.1 I.xs[i] (List.getElem?_eq_getElem hlt)).2 v H3 hy
    have L3 := L.step hDx st3 so3
    rw [List.drop_eq_getElem_cons hlt] at po2
    simp only [lcR] at po2
    rw [← hF] at po2
    simp only at po2
    cases hp : putT tg (.d I.xs[i]) (wipeG Γ own) with
    | none =>
      rw [hp] at po2
      exact po2.elim
    | some Γ1 =>
      rw [hp, hF] at po2
      simp only at po2
      refine ⟨D :: xt, ad2, wipeG Γ own, .d I.xs[i], Γ1, env_wipe (L3.env so1 hD en1) own, dv, hp, fun σ1 en4 w4 => ⟨by rw [w4 own hsub]; exact wipe_twice own σ, ?_⟩⟩
      refine ⟨D :: xt, ad2, Γ1, S2, en4, so3, ?_⟩
      cases ht1 : evC P ts Γ1 S2 with
      | no =>
        rw [ht1] at po2
        exact po2.elim
      | err x Γ' S' =>
        rw [ht1] at po2
        exact po2.elim
      | ok k S3 =>
        rw [ht1] at po2
        intro b ad3 H4 st4 so4 hb
        subst hb
        have L4 := L3.step hDx st4 so4
        cases b with
        | false =>
          rw [if_neg Bool.false_ne_true]
          exact ⟨_, by omega, rfl, hlt, ad3, S3, acc, ds, L4, po2⟩
        | true =>
          rw [if_pos rfl]
          refine ⟨D :: xt, ad3, Γ1, S3, envOk_step st4 en4, so4, ?_⟩
          rw [R.bind_ok, if_pos rfl] at po2
          cases he1 : ev P elt Γ1 S3 with
          | no =>
            rw [he1] at po2
            exact po2.elim
          | err x Γ' S' =>
            rw [he1] at po2
            exact po2.elim
          | ok y S4 =>
            rw [he1] at po2
            cases y with
            | c n => exact po2.elim
            | d y =>
              have po4 : Post X.K T (fun c d σ' H' => σ' = σ → W c d σ H') xt ad1 H1 (RdE X.K xt) ((if ds.length < sizeLine then lcR F (I.xs.drop (i + 1)) (ds ++ [y]) S4 else .no).bind fun ys S3 => .ok (.c S3.length) (S3 ++ [.lst ys])) Q := po2
              intro u ad4 H5 st5 so5 du
              have L5 := L4.step hDx st5 so5
              have hz : ds.length < sizeLine := by
                by_cases hz : ds.length < sizeLine
                · exact hz
                · rw [if_neg hz] at po4
                  exact po4.elim
              rw [if_pos hz] at po4
              exact ⟨acc, L5.eD, by rw [dpa_len L5.da]; exact hz, _, by omega, rfl, hlt, ad4, S4, acc ++ [u], ds ++ [y], L5.app hDx so1 hD du, po4⟩
  · have e : i = I.xs.length := by omega
    subst e
    refine .inl ⟨hIt.2 (Nat.le_refl _), ?_⟩
    rw [List.drop_length] at po2
    simp only [lcR, R.bind_ok] at po2
    have so3 := st_own L.so hDx L.eD L.da
    have stX : Step xt ad1 H1 (ad2 ++ [D]) H2 := by
      obtain ⟨more, e⟩ := L.st.pre
      refine ⟨⟨more ++ [D], by rw [e, List.append_assoc]⟩, ?_, L.st.cell, L.st.xs⟩
      rw [hide_own]
      exact L.ex so1 hD
    refine po2 (.ref D) (ad2 ++ [D]) H2 stX so3 ⟨D, ?_, rfl⟩
    rw [← L.so.len]
    simp
end
end Ht

set_option maxRecDepth 100000
set_option maxHeartbeats 16000000
/-! HtT: a try with several clauses that name what they caught. -/
namespace Ht
open PySem L2 Evl PySem.SeqAt PyProof.Rows
theorem swaps_no {v : Expr} {t : Option Expr} {l : Nat} {env : Env} (h : noComp v = true) : swapsWith v t l env = pure false := by
  cases v <;> first | rfl | cases h

/-- what a clause's suite must leave: the name goes -/
def off (i : Nat) (D : Ends) : Ends where
  nx := fun σ H => D.nx (σ.set i none) H
  rt := D.rt
  bk := fun σ H => D.bk (σ.set i none) H
  ct := fun σ H => D.ct (σ.set i none) H
abbrev Cl := Value × (Addr → Value → Option Addr → TS)
/-- the clauses, one after the other -/
def wCl (K : PySem.W.Frag) (i : Nat) (Wout : WX) (D : Ends) : List Cl → WX
  | [], cls, d, σ, H => Wout cls d σ H
  | q :: r, cls, d, σ, H => ∃ b, PySem.W.exmOne K cls q.1 = some b ∧ if b then ∀ a, H a = none → q.2 a cls d (off i D) (σ.set i (some (.ref a))) H else wCl K i Wout D r cls d σ H
structure ClOk (X : Cx) (n : Str) (h : ExceptHandler) (q : Cl) : Prop where
  ex : ∃ (x : Str) (np : Pos) (b0 : Stmt) (su : List Stmt) (hp : Pos), h = .ExceptHandler (some (.Name x np)) (some n) (b0 :: su) hp ∧ Names X x q.1 ∧
    ∀ (a : Addr) (oe : Obj) (cls : Value) (d : Option Addr) (pn : List (Addr × Obj)), Zc cls d oe → (∃ vs, oe.data = .fields vs) → PSs (X.suite a ((a, oe) :: pn)) (b0 :: su) (q.2 a cls d)
abbrev ClsOk (X : Cx) (n : Str) : List ExceptHandler → List Cl → Prop := Paired (ClOk X n)

section
variable {X : Cx} {pins : List (Addr × Obj)} {σ : L2.St} {H : Hp} {n : Str} {i : Nat} {a : Addr} {B : Heap} {s' sI : Shared} {cls : Value} {d : Option Addr} {hp : Heap} {D : Ends} {Wout : WX}
/-- an exception in the air above a state of ours, looked at -/
structure Air (X : Cx) (pins : List (Addr × Obj)) (σ : L2.St) (H : Hp) (a : Addr) (B : Heap) (sI s' : Shared) (cls : Value) (d : Option Addr) (hp : Heap) : Prop where
  I : Inv X pins σ H sI
  nb : ∀ b o, sI.heap.get? b = some o → b ∉ frs X.stack → B.get? b = some o
  up : sI.heap.UpToSlots hp
  fly : HandSPX.FlyingZ B (X.env :: X.outer) a (Zc cls d) hp
  na : H a = none
  os : s'.os = sI.os
  bare : AllBare s'.gens
theorem Air.inv (q : Air X pins σ H a B sI s' cls d hp) : Inv X pins σ H { s' with heap := hp } :=
  Inv.landed (s' := { s' with heap := hp }) q.I q.nb q.fly.1 q.up q.os q.bare
theorem Air.off_frames (q : Air X pins σ H a B sI s' cls d hp) : a ∉ frs (X.env :: X.outer) := by
  obtain ⟨o, vs, e, _, hd⟩ := q.fly.there
  intro hm
  obtain ⟨_, o2, e2, hn⟩ := q.fly.2.2.1.mem hm
  rw [e] at e2
  cases e2
  exact hn _ hd
theorem Air.on (q : Air X pins σ H a B sI s' cls d hp) {hp' : Heap} (f : HandSPX.FlyingZ B (X.env :: X.outer) a (Zc cls d) hp') (u : hp.UpToSlots hp') : Air X pins σ H a B sI s' cls d hp' :=
  ⟨q.I, q.nb, q.up.trans u, f, q.na, q.os, q.bare⟩
theorem Air.suite (q : Air X pins σ H a B sI s' cls d hp) (hf : X.env.frame = some X.env.locals) : ∃ (oe : Obj), Zc cls d oe ∧ (∃ vs, oe.data = .fields vs) ∧ hp.get? a = some oe ∧ Inv (X.suite a ((a, oe) :: (X.pn ++ pins))) [] σ H { s' with heap := hp } := by
  obtain ⟨oe, vs, e, hz, hd⟩ := q.fly.there
  have nf := q.off_frames
  refine ⟨oe, hz, ⟨_, hd⟩, e, q.inv.suite e hd q.na ?_ ?_⟩
  · rintro rfl
    exact nf (List.mem_filterMap.mpr ⟨X.env, List.mem_cons_self, hf⟩)
  · intro hm
    obtain ⟨env, h1, h2⟩ := List.mem_filterMap.mp hm
    exact nf (List.mem_filterMap.mpr ⟨env, List.mem_cons_of_mem _ h1, h2⟩)
/-- no clause is left: it flies on -/
theorem Air.go (q : Air X pins σ H a B sI s' cls d hp) (hs : X.stack = X.env :: X.outer) (hf : X.env.frame = some X.env.locals) (tk : Takes X Wout) (w : Wout cls d σ H) :
    wpAny (model X.prog X.w) X.A (handleBy (.ref a) X.env []) (SP X pins D) X.xe { s' with heap := hp } := by
  refine wpAny_handleBy_nil ?_
  have fl := q.fly
  obtain ⟨_, _, _, oe, vs, T, oT, ts, e, _, hd, h1, _⟩ := q.fly
  unfold PySem.passOn
  refine wpAny_bind (wpAny_field e hd h1 ?_)
  rw [if_neg (show ¬ ((Value.ref T == Value.none) = true) from by simp)]
  have last : wpAny (model X.prog X.w) X.A (setFlight (.ref a) X.env.frame) (fun _ s4 => wpAny (model X.prog X.w) X.A (throw (.ref a) : Sem PySem.Flow) (SP X pins D) X.xe s4) X.xe { s' with heap := hp } := by
    rw [hf]
    refine HandSPX.setFlight_upZ fl fun h4 held u4 => wpAny_throw (tk _ _ ?_)
    refine ⟨a, B, sI, pins, σ, H, cls, d, rfl, q.I, q.nb, q.up.trans u4, .inr (.inr ?_), q.na, q.os, q.bare, w⟩
    rw [hs]
    exact held
  first
    | exact wpAny_bind (wpAny_pure (wpAny_bind last))
    | exact wpAny_bind last
theorem Air.ask (q : Air X pins σ H a B sI s' cls d hp) (hf : X.env.frame = some X.env.locals) {x : Str} {c : Value} {np : Pos} (hc : Names X x c) {Q E : Value → Shared → Prop} (k : Q c { s' with heap := hp }) :
    wpAny (model X.prog X.w) (X.A.mark (some (.ref a))) (eval (.Name x np) X.env) Q E { s' with heap := hp } := by
  obtain ⟨oe, _, _, _, S⟩ := q.suite hf
  obtain ⟨g, nd, m | ⟨m, bt, nn⟩⟩ := hc
  · exact ld_glob (X := X.suite a ((a, oe) :: (X.pn ++ pins))) S g m k nd
  · exact ld_blt (X := X.suite a ((a, oe) :: (X.pn ++ pins))) S g m bt k nn nd
/-- all clauses -/
theorem Air.clauses (hs : X.stack = X.env :: X.outer) (hf : X.env.frame = some X.env.locals) (hN : X.N.Nodup) (hi : X.N[i]? = some n) (hln : X.env.kindOf n = some .local) (tk : Takes X Wout) (ok : X.Ok) : ∀ {hs' : List ExceptHandler} {l : List Cl}, ClsOk X n hs' l → ∀ {hp : Heap}, Air X pins σ H a B sI s' cls d hp → wCl X.K i Wout D l cls d σ H →
    wpAny (model X.prog X.w) X.A (handleBy (.ref a) X.env hs') (SP X pins D) X.xe { s' with heap := hp } := by
  intro hs' l hl
  induction hl with
  | nil => exact fun q w => q.go hs hf tk w
  | cons h r ih =>
    intro hp q w
    obtain ⟨x, np, b0, su, hpos, rfl, hc, hsu⟩ := h.ex
    obtain ⟨b, eb, w⟩ := w
    refine wpAny_handleBy_cons (codeAny_handlers_test ?_) (by intro z; cases z)
    obtain ⟨oe, hz, _, e, _⟩ := q.suite hf
    have look : PySem.W.Looks (model X.prog X.w) hp (typeOf (.ref a)) cls := fun A Q E s k z => wpAny_typeOf_ref (k _ _ e) (by rw [hz.1]; exact z)
    have pick := PySem.W.exm_one (M := model X.prog X.w) q.inv.kIn look eb
    refine q.ask hf hc (pick.here ?_)
    cases b with
    | false =>
      rw [if_neg Bool.false_ne_true] at w
      exact ih q w
    | true =>
      rw [if_pos rfl] at w
      refine codeAny_handlers_suite_as (HandSPX.lands_againZ q.fly fun h4 fl4 u4 => ?_)
      have q4 := q.on fl4 u4
      obtain ⟨oe4, hz4, hd4, _, S4⟩ := q4.suite hf
      refine store_ok (X := X.suite a ((a, oe4) :: (X.pn ++ pins))) (v := .ref a) S4 hN hi (.inl hln) rfl (fun s5 S5 => ?_) (.inr hln)
      refine wpAny_mono ((hsu a oe4 cls d (X.pn ++ pins) hz4 hd4).run [] s5 _ H _ S5 (w a q.na)) (fun f s6 sp => ?_) (fun _ _ z => z.elim)
      have away : ∀ {σ6 : L2.St} {H6 : Hp} {R : Shared → Prop}, Inv (X.suite a ((a, oe4) :: (X.pn ++ pins))) [] σ6 H6 s6 → (∀ s7, Inv X pins (σ6.set i none) H6 s7 → R s7) →
          wpAny (model X.prog X.w) X.A (do bindName X.env n .none; unbindBehindTheSuite X.env n hpos) (fun _ s7 => R s7) X.xe s6 := fun S6 k => gone_ok (S6.unsuite ok) hN hi hln k
      cases f with
      | ret u =>
        obtain ⟨v6, σ6, H6, S6, r6, q6⟩ := sp
        exact away S6 fun s7 J => ⟨_, _, _, J, r6, q6⟩
      | next =>
        obtain ⟨σ6, H6, S6, q6⟩ := sp
        exact away S6 fun s7 J => ⟨_, _, J, q6⟩
      | brk =>
        obtain ⟨σ6, H6, S6, q6⟩ := sp
        exact away S6 fun s7 J => ⟨_, _, J, q6⟩
      | cont =>
        obtain ⟨σ6, H6, S6, q6⟩ := sp
        exact away S6 fun s7 J => ⟨_, _, J, q6⟩
/-- try, and clauses 'except x as n' -/
theorem ps_try_cl {body : List Stmt} {h0 : ExceptHandler} {hds : List ExceptHandler} {l : List Cl} {pos : Pos} {tb : WX → TS} (hs : X.stack = X.env :: X.outer) (hf : X.env.frame = some X.env.locals) (hN : X.N.Nodup) (hi : X.N[i]? = some n) (hln : X.env.kindOf n = some .local) (tk : Takes X Wout)
    (hb : ∀ (W : WX) (pn : List (Addr × Obj)) (xe : Value → Shared → Prop), Takes (X.tr pn xe) W → PassesOwn (model X.prog X.w) X.A X.env xe → PSs (X.tr pn xe) body (tb W)) (hl : ClsOk X n (h0 :: hds) l) :
    PS X (.Try body (h0 :: hds) [] [] pos) (fun D σ H => tb (wCl X.K i Wout D l) D σ H) := by
  refine ⟨fun pins s σ H D I h => ?_⟩
  have fr : X.A.frames = some (X.env :: X.outer) := by rw [I.ok.frames, hs]
  have catch_ : Takes (X.tr (X.pn ++ pins) fun e s1 => wpAny (model X.prog X.w) X.A (noteFrame e X.env) (fun _ s2 => wpAny (model X.prog X.w) X.A (setFlight e none) (fun _ s3 => wpAny (model X.prog X.w) X.A (handleBy e X.env (h0 :: hds)) (SP X pins D) X.xe s3) X.xe s2) X.xe s1) (wCl X.K i Wout D l) := by
    rintro _ s1 ⟨a, B, sI, _, σ1, H1, cls, d, rfl, J, nb, up, sky, na, os, ag, w⟩
    refine Sky.land Zc.steady fr hf (by rw [← hs]; exact sky) fun h3 fl3 up3 => ?_
    exact Air.clauses hs hf hN hi hln tk I.ok hl ⟨J.ofTry I.ok, nb, up.trans up3, fl3, na, os, ag⟩ w
  refine wpAny_Try_except (wpAny_mono ((hb _ _ _ catch_ PassesOwn.looking).run [] s σ H D (I.toTry _) h) (fun f s1 sp => ?_) fun _ _ z => z)
  cases f with
  | next =>
    obtain ⟨σ1, H1, J, q⟩ := sp
    exact wpAny_execs_nil ⟨σ1, H1, J.ofTry I.ok, q⟩
  | ret u =>
    obtain ⟨v, σ1, H1, J, r, q⟩ := sp
    exact ⟨v, σ1, H1, J.ofTry I.ok, r, q⟩
  | brk =>
    obtain ⟨σ1, H1, J, q⟩ := sp
    exact ⟨σ1, H1, J.ofTry I.ok, q⟩
  | cont =>
    obtain ⟨σ1, H1, J, q⟩ := sp
    exact ⟨σ1, H1, J.ofTry I.ok, q⟩
end

section
variable {T : Xs} {P : Ph} {G : Gt} {N : List Str} {X : Cx} {W : WX} {sc : Scope}
/-! ### an error caught -/
/-- constants -/
def conV : PyData → V
  | .int i => .int i
  | .bool b => .bl b
  | .str x => .str x
  | _ => .non
def valX (v : V) : SX → V
  | .fld => v
  | .con d => conV d
/-- the state as the suite finds it -/
def SuI (i : Nat) (C a : Addr) (f : Str) (cls : Value) (d : Option Addr) (v : V) (σ : L2.St) (H : Hp) : Prop := σ[i]? = some (some (.ref a)) ∧ cls = .ref C ∧ ∃ dd, d = some dd ∧ H dd = some (.xd [(f, v)])
section
variable {c i : Nat} {x f n : Str} {C a : Addr} {oe : Obj} {cls : Value} {d : Option Addr} {pn : List (Addr × Obj)}
def tX (i : Nat) (C a : Addr) (f : Str) (cls : Value) (d : Option Addr) (x : SX) : TE := fun σ H Q => ∃ v, SuI i C a f cls d v σ H ∧ Q (valX v x) H
def tXs (i : Nat) (C a : Addr) (f : Str) (cls : Value) (d : Option Addr) (xs : List SX) : TA := fun σ H Q => ∃ v, SuI i C a f cls d v σ H ∧ Q (xs.map (valX v)) H
theorem pe_fld (E : ExcT X.prog X.w X.K X.mg T c x f C) (hz : Zc cls d oe) (hf : ∃ vs, oe.data = .fields vs) (hN : X.N[i]? = some n) (hv : Vis X.env.scope n) (n1 : (n == ("__debug__" : Str)) = false) (n2 : (n == ("__classdict__" : Str)) = false) {p pos : Pos} :
    PE (X.suite a ((a, oe) :: pn)) (.Attribute (.Name n p) f pos) (tX i C a f cls d .fld) := by
  have hb : attributeBase (.Name n p) f X.env (eval (.Name n p) X.env) = eval (.Name n p) X.env := by
    first | rfl | simp [attributeBase]
  refine ⟨fun pins s σ H Q I h => ?_⟩
  obtain ⟨v, ⟨h1, h2, dd, h3, h4⟩, q⟩ := h
  have pv := pe_var (X := X.suite a ((a, oe) :: pn)) (i := i) (x := n) (pos := p) hN hv n1 n2
  refine attr_of hb (thn (pv.run pins s σ H (fun z H1 => z = .ref a ∧ H1 = H) I ⟨.ref a, h1, rfl, rfl⟩) fun u s1 hh => ?_)
  obtain ⟨z, H1, I1, rx, ex, eH⟩ := hh
  subst ex eH
  obtain rfl : u = Value.ref a := rx
  subst h2 h3
  obtain ⟨ha, _⟩ := I1.pin (a, oe) (List.mem_append_left _ List.mem_cons_self)
  obtain ⟨vs, hd⟩ := hf
  have hx : ObjOk X.prog X.w H1 s1.heap dd (.xd [(f, v)]) := I1.hok dd _ h4
  obtain ⟨mA, hns, hr⟩ := hx
  obtain ⟨od, ho, hl⟩ := lookIn_ns hns
  have l : List.lookup f [(f, v)] = some v := by simp [List.lookup]
  obtain ⟨u, hu, ru⟩ := RelO.some_of (v := v) (o := mA f) (by rw [← l]; exact hr f)
  have J : PySem.W.InstAt s1.heap a oe C (some od) := ⟨ha, hz.1, by unfold PySem.W.notCls; rw [hd] <;> rfl, by rw [hz.2]; exact ho⟩
  exact HandSPX.exc_get I1.kIn J E.ga E.gg E.oex.exC (PySem.W.findObj_own E.hd E.no rfl (by rw [hl, hu])) (handed_of ru) ⟨v, H1, I1.tok _, ru, q⟩
theorem pe_sx (E : ExcT X.prog X.w X.K X.mg T c x f C) (hz : Zc cls d oe) (hf : ∃ vs, oe.data = .fields vs) (hN : X.N[i]? = some n) (hv : Vis X.env.scope n) (n1 : (n == ("__debug__" : Str)) = false) (n2 : (n == ("__classdict__" : Str)) = false) {y : SX} {e : Expr} (h : chkX n f y e = true) :
    PE (X.suite a ((a, oe) :: pn)) e (tX i C a f cls d y) := by
  cases y with
  | fld =>
    cases e with
    | Attribute b g pos =>
      cases b with
      | Name m p =>
        simp only [chkX, Bool.and_eq_true, decide_eq_true_eq] at h
        obtain ⟨rfl, rfl⟩ := h
        exact pe_fld E hz hf hN hv n1 n2
      | _ => simp [chkX] at h
    | _ => simp [chkX] at h
  | con y =>
    cases e with
    | Constant k j pos =>
      simp only [chkX] at h
      unfold conOk at h
      split at h
      · have e := of_decide_eq_true h
        subst e
        exact pe_imp pe_int fun σ H Q ⟨v, _, q⟩ => q
      · have e := of_decide_eq_true h
        subst e
        exact pe_imp pe_bl fun σ H Q ⟨v, _, q⟩ => q
      · have e := of_decide_eq_true h
        subst e
        exact pe_imp pe_str fun σ H Q ⟨v, _, q⟩ => q
      · exact pe_imp pe_non fun σ H Q ⟨v, _, q⟩ => q
      · cases h
    | _ => simp [chkX] at h
theorem pa_sx (E : ExcT X.prog X.w X.K X.mg T c x f C) (hz : Zc cls d oe) (hf : ∃ vs, oe.data = .fields vs) (hN : X.N[i]? = some n) (hv : Vis X.env.scope n) (n1 : (n == ("__debug__" : Str)) = false) (n2 : (n == ("__classdict__" : Str)) = false) : ∀ {ys : List SX} {es : List Expr}, chkXs n f ys es = true →
    PA (X.suite a ((a, oe) :: pn)) es (tXs i C a f cls d ys)
  | [], [], h => pa_imp pa_nil fun σ H Q ⟨v, _, q⟩ => q
  | y :: ys, e :: es, h => by
    simp only [chkXs, Bool.and_eq_true] at h
    refine pa_imp (pa_cons (pe_sx E hz hf hN hv n1 n2 h.1.2) (pa_sx E hz hf hN hv n1 n2 h.2) (star_ok h.1.1)) fun σ H Q ⟨v, k, q⟩ => ?_
    exact ⟨v, k, v, k, q⟩
  | [], _ :: _, h => by simp [chkXs] at h
  | _ :: _, [], h => by simp [chkXs] at h
def tM (i : Nat) (C a : Addr) (f : Str) (cls : Value) (d : Option Addr) : Mk → List SX → TE
  | .one, [x] => tX i C a f cls d x
  | .tup, xs => tTup (tXs i C a f cls d xs)
  | .lst, xs => tLst (tXs i C a f cls d xs)
  | _, _ => fun _ _ _ => False
def tU (i : Nat) (C a : Addr) (f : Str) (cls : Value) (d : Option Addr) : SU → TS
  | .set j m xs => tAsg (tM i C a f cls d m xs) (gName j)
  | .ret m xs => tRet (tM i C a f cls d m xs)
theorem pe_m (E : ExcT X.prog X.w X.K X.mg T c x f C) (hz : Zc cls d oe) (hf : ∃ vs, oe.data = .fields vs) (hN : X.N[i]? = some n) (hv : Vis X.env.scope n) (n1 : (n == ("__debug__" : Str)) = false) (n2 : (n == ("__classdict__" : Str)) = false) {m : Mk} {ys : List SX} {e : Expr} (h : chkM n f m ys e = true) :
    PE (X.suite a ((a, oe) :: pn)) e (tM i C a f cls d m ys) := by
  cases m with
  | one =>
    match ys, h with
    | [y], h => exact pe_sx E hz hf hN hv n1 n2 (by simpa only [chkM] using h)
    | [], h => simp [chkM] at h
    | _ :: _ :: _, h => simp [chkM] at h
  | tup =>
    cases e with
    | Tuple es k pos =>
      simp only [chkM] at h
      exact pe_tup (pa_sx E hz hf hN hv n1 n2 h)
    | _ => simp [chkM] at h
  | lst =>
    cases e with
    | List es pos =>
      simp only [chkM] at h
      exact pe_lst (pa_sx E hz hf hN hv n1 n2 h)
    | _ => simp [chkM] at h
theorem pss_u (E : ExcT X.prog X.w X.K X.mg T c x f C) (hz : Zc cls d oe) (hf : ∃ vs, oe.data = .fields vs) (hnd : X.N.Nodup) (hfn : ∀ x, X.fn x = true) (hsc : X.env.scope = sc) (hNN : X.N = N) (hN : X.N[i]? = some n) (hv : Vis X.env.scope n) (n1 : (n == ("__debug__" : Str)) = false) (n2 : (n == ("__classdict__" : Str)) = false)
    {u : SU} {b : List Stmt} (h : chkU N sc n f i u b = true) : PSs (X.suite a ((a, oe) :: pn)) b (tU i C a f cls d u) := by
  unfold chkU at h
  split at h
  · rename_i j m xs v py e pos
    simp only [Bool.and_eq_true, decide_eq_true_eq] at h
    obtain ⟨⟨⟨⟨h1, h2⟩, h3⟩, h4⟩, h5⟩ := h
    have hl : L2.Loc X.env.scope v := by
      rw [hsc]
      unfold locB at h3
      split at h3
      · rename_i q; exact .inl q
      · rename_i q; exact .inr q
      · cases h3
    exact pss_one (ps_set (X := X.suite a ((a, oe) :: pn)) (i := j) hnd (by rw [← h1, ← hNN]) hl (pe_m E hz hf hN hv n1 n2 h5) (swaps_no h4) (.inl (hfn v)))
  · rename_i m xs e pos
    exact pss_one (ps_ret (pe_m E hz hf hN hv n1 n2 h))
  · cases h
/-! what it is worth -/
theorem conV_dp {K : PySem.W.Frag} {Gh : Hp} {k : PyData} (h : flatD k = true) : Dp K Gh (conV k) k := by
  cases k with
  | none => exact .non
  | bool b => exact .bl b
  | int i => exact .int i
  | str x => exact .str x
  | _ => cases h
theorem sx_dp {K : PySem.W.Frag} {Gh : Hp} {v : V} {y : PyData} (h : Dp K Gh v y) : ∀ {z : SX}, flatX z = true → Dp K Gh (valX v z) (sxD y z)
  | .fld, _ => h
  | .con k, hk => conV_dp hk
theorem sxs_dp {K : PySem.W.Frag} {Gh : Hp} {v : V} {y : PyData} (h : Dp K Gh v y) : ∀ {zs : List SX}, zs.all flatX = true → DpAll K Gh (zs.map (valX v)) (zs.map (sxD y))
  | [], _ => .nil
  | z :: zs, hk => by
    rw [List.all_cons, Bool.and_eq_true] at hk
    exact .cons (sx_dp h hk.1) (sxs_dp h hk.2)
theorem rd_m {K : PySem.W.Frag} {xt ad : List Addr} {S : Sto} {H : Hp} {σ : L2.St} {v : V} {y r : PyData} {m : Mk} {xs : List SX} {Q : VK} (so : StOk K T xt ad S H) (hi : SuI i C a f cls d v σ H) (hy : Dp K (hide xt ad H) v y) (h : suD y m xs = some r)
    (k : ∀ z H', Step xt ad H ad H' → StOk K T xt ad S H' → Dp K (hide xt ad H') z r → Q z H') : tM i C a f cls d m xs σ H Q := by
  unfold suD at h
  split at h
  · rename_i x1
    split at h
    · rename_i hx
      cases (some_inj h)
      exact ⟨v, hi, k _ _ Step.refl so (sx_dp hy hx)⟩
    · cases h
  · split at h
    · rename_i hx
      cases (some_inj h)
      refine ⟨v, hi, by rw [List.length_map]; exact hx.1, fun p hp => ?_⟩
      obtain ⟨st, so1, dp⟩ := new_tup so hp (sxs_dp hy hx.2)
      exact k _ _ st so1 dp
    · cases h
  · split at h
    · rename_i hx
      cases (some_inj h)
      refine ⟨v, hi, by rw [List.length_map]; exact hx.1, fun p hp => ?_⟩
      obtain ⟨st, so1, dp⟩ := new_lst so hp (sxs_dp hy hx.2)
      exact k _ _ st so1 dp
    · cases h
  · cases h
end
theorem set_back {α : Type} {l : List α} {i j : Nat} {x y z : α} (h : i ≠ j) : ((l.set i x).set j y).set i z = (l.set j y).set i z := by
  have e := List.set_comm (l := l) x y h
  rw [e, List.set_set]
theorem env_del {K : PySem.W.Frag} {xt ad : List Addr} {Γ : Gm} {σ : L2.St} {H : Hp} {i : Nat} (r : EnvOk K xt ad Γ σ H) : EnvOk K xt ad (Γ.set i none) (σ.set i none) H := by
  refine ⟨by rw [List.length_set, List.length_set, r.1], fun j e h => ?_⟩
  rw [List.getElem?_set] at h
  split at h
  · split at h
    · cases (some_inj h)
    · cases h
  · rename_i ne
    obtain ⟨v, h1, h2⟩ := r.2 j e h
    exact ⟨v, by rw [List.getElem?_set_ne ne]; exact h1, h2⟩
/-! ### the clauses of a text -/
def clT (T : Xs) (i : Nat) (h : Nat × SU) : Cl := match T.cls[h.1]? with
  | some (C, some f) => (.ref C, fun a cls d => tU i C a f cls d h.2)
  | _ => (.none, fun _ _ _ _ _ _ => False)
theorem cls_ok {n : Str} {i : Nat} (exc : ∀ (c : Nat) (x f : Str), G.excs[c]? = some (x, f) → ∃ C, T.cls[c]? = some (C, some f) ∧ ExcT X.prog X.w X.K X.mg T c x f C) (hnd : X.N.Nodup) (hfn : ∀ x, X.fn x = true) (hsc : X.env.scope = sc) (hNN : X.N = N) (hb : clsB N sc n i = true) :
    ∀ {hs : List (Nat × SU)} {es : List ExceptHandler}, chkHs G N sc n i hs es = true → ClsOk X n es (hs.map (clT T i)) ∧ ∀ h ∈ hs, ∃ x f C, T.cls[h.1]? = some (C, some f) ∧ ExcT X.prog X.w X.K X.mg T h.1 x f C
  | [], [], _ => ⟨.nil, fun h z => nomatch z⟩
  | h :: hs, e :: es, hk => by
    simp only [chkHs, Bool.and_eq_true] at hk
    obtain ⟨h1, h2⟩ := hk
    obtain ⟨r1, r2⟩ := cls_ok exc hnd hfn hsc hNN hb h2
    unfold chkH at h1
    split at h1
    · rename_i x np m su hp
      simp only [Bool.and_eq_true, decide_eq_true_eq] at h1
      obtain ⟨⟨⟨g1, rfl⟩, g3⟩, g4⟩ := h1
      cases hx : G.excs[h.1]? with
      | none => rw [hx] at g4; cases g4
      | some y =>
        obtain ⟨y, f⟩ := y
        rw [hx] at g4
        simp only [Bool.and_eq_true, decide_eq_true_eq] at g4
        obtain ⟨rfl, g5⟩ := g4
        obtain ⟨C, hT, E⟩ := exc _ _ _ hx
        obtain ⟨q1, q2, _⟩ := gl_of hsc g1
        simp only [clsB, Bool.and_eq_true, decide_eq_true_eq] at hb
        obtain ⟨⟨⟨b1, b2⟩, b3⟩, b4⟩ := hb
        have hl : sc.names.lookup m = some .local := by
          split at b2
          · assumption
          · cases b2
        cases su with
        | nil => simp at g3
        | cons b0 su =>
          have ec : clT T i h = (.ref C, fun a cls d => tU i C a f cls d h.2) := by unfold clT; rw [hT]
          refine ⟨.cons ?_ r1, fun z hz => ?_⟩
          · rw [ec]
            exact ⟨_, np, b0, su, hp, rfl, ⟨q1, q2, .inl E.gC⟩, fun a oe cls d pn hz hf => pss_u E hz hf hnd hfn hsc hNN (by rw [hNN]; exact b1) (.inl (by rw [hsc]; exact hl)) (by simpa using b3) (by simpa using b4) g5⟩
          · rcases List.mem_cons.mp hz with w | w
            · subst w
              exact ⟨_, _, _, hT, E⟩
            · exact r2 z w
    · cases h1
  | [], _ :: _, hk => by simp [chkHs] at hk
  | _ :: _, [], hk => by simp [chkHs] at hk
/-- a suite stores to another slot -/
def SU.off (i : Nat) : SU → Prop
  | .set j _ _ => i ≠ j
  | .ret _ _ => True
theorem chkU_off {n f : Str} {i : Nat} {u : SU} {su : List Stmt} (h : chkU N sc n f i u su = true) : u.off i := by
  unfold chkU at h
  split at h
  · simp only [Bool.and_eq_true] at h
    show i ≠ _
    simpa using h.1.1.1.2
  · trivial
  · cases h
theorem su_ne {n : Str} {i : Nat} : ∀ {hs : List (Nat × SU)} {es : List ExceptHandler}, chkHs G N sc n i hs es = true → ∀ h ∈ hs, h.2.off i
  | [], _, _, h, z => nomatch z
  | h :: hs, e :: es, hk, z, hz => by
    simp only [chkHs, Bool.and_eq_true] at hk
    rcases List.mem_cons.mp hz with w | w
    · subst w
      have h1 := hk.1
      unfold chkH at h1
      split at h1
      · simp only [Bool.and_eq_true] at h1
        have h2 := h1.2
        split at h2
        · simp only [Bool.and_eq_true] at h2
          exact chkU_off h2.2
        · cases h2
      · cases h1
    · exact su_ne hk.2 z w
  | _ :: _, [], hk, _, _ => by simp [chkHs] at hk
abbrev hitP (y : Exn) : Nat × SU → Bool := fun h => decide (y.cls = h.1)
theorem catC_find {i : Nat} {y : Exn} {Γ : Gm} {S : Sto} : ∀ hs : List (Nat × SU), catC i hs y Γ S = match hs.find? (hitP y) with
    | some h => (match y.arg with | some z => suR h.2 i z Γ S | none => .no)
    | none => .err y Γ S
  | [] => rfl
  | h :: hs => by
    rw [catC, List.find?_cons]
    by_cases q : y.cls = h.1
    · have hp : hitP y h = true := decide_eq_true q
      rw [if_pos q, hp] <;> rfl
    · have hp : hitP y h = false := decide_eq_false q
      rw [if_neg q, hp]
      exact catC_find hs
theorem wcl_of {K : PySem.W.Frag} {prog : Program} {w : World} {mg : Str → Option Value} {Wout : WX} {D : Ends} {i : Nat} {y : Exn} {C' : Addr} {f' : Option Str} {d : Option Addr} {σ : L2.St} {H : Hp} (hT' : T.cls[y.cls]? = some (C', f')) : ∀ {hs : List (Nat × SU)},
    (∀ h ∈ hs, ∃ x f C, T.cls[h.1]? = some (C, some f) ∧ ExcT prog w K mg T h.1 x f C) →
    (∀ h C f, hs.find? (hitP y) = some h → y.cls = h.1 → T.cls[h.1]? = some (C, some f) → ∀ a, H a = none → tU i C a f (.ref C') d h.2 (off i D) (σ.set i (some (.ref a))) H) →
    (hs.find? (hitP y) = none → Wout (.ref C') d σ H) → wCl K i Wout D (hs.map (clT T i)) (.ref C') d σ H
  | [], _, _, hm => hm rfl
  | h :: hs, he, hh, hm => by
    obtain ⟨x, f, C, hT, E⟩ := he h List.mem_cons_self
    have ec : clT T i h = (.ref C, fun a cls d => tU i C a f cls d h.2) := by unfold clT; rw [hT]
    rw [List.map_cons, ec]
    refine ⟨decide (y.cls = h.1), E.exm _ _ _ hT', ?_⟩
    by_cases q : y.cls = h.1
    · rw [if_pos (decide_eq_true q)]
      have hp : hitP y h = true := decide_eq_true q
      exact hh h C f (by rw [List.find?_cons, hp]) q hT
    · rw [if_neg (by simpa using q)]
      have ef : (h :: hs).find? (hitP y) = hs.find? (hitP y) := by
        have hp : hitP y h = false := decide_eq_false q
        rw [List.find?_cons, hp]
      rw [ef] at hh hm
      exact wcl_of hT' (fun z hz => he z (List.mem_cons_of_mem _ hz)) hh hm
end
end Ht

set_option maxRecDepth 100000
set_option maxHeartbeats 16000000
/-! HtL: a lambda that is handed to a def that tries it. -/
namespace Ht
open PySem L2 Evl PySem.SeqAt PyProof.Rows LamX

/-! ### the tables' growth -/
section
variable {K : PySem.W.Frag} {T : Xs} {xt ad : List Addr} {S : Sto} {H H1 : Hp}
theorem tabs_of (so : StOk K T xt ad S H) : Tabs T.tabs H := fun p hp => by
  obtain ⟨j, hj⟩ := List.getElem?_of_mem hp
  obtain ⟨e1, e2⟩ := so.tb j p hj
  obtain ⟨a, e3, ps, c1, c2, c3⟩ := so.at' j _ e2
  rw [e1] at e3
  cases e3
  exact ⟨ps, c1, c2, fun pos cv hc => let ⟨c, q1, q2⟩ := c3 pos cv hc; ⟨c, q1, hide_ex _ _ q2⟩⟩
theorem tab_in (so : StOk K T xt ad S H) {a : Addr} {ps : Array Value} (h : H a = some (.tbl ps)) : ∃ (j : Nat) (p : Addr × Str), T.tabs[j]? = some p ∧ p.1 = a ∧ ad[j]? = some a ∧ S[j]? = some (.tab p.2) := by
  obtain ⟨p, hp, rfl⟩ := so.tn a ps h
  obtain ⟨j, hj⟩ := List.getElem?_of_mem hp
  obtain ⟨e1, e2⟩ := so.tb j p hj
  exact ⟨j, p, hj, rfl, e1, e2⟩
/-- all but the tables stays, the tables are tables again -/
theorem tab_step (so : StOk K T xt ad S H) (eN : ExtN H H1) (T1 : Tabs T.tabs H1) (tn : ∀ (a : Addr) (ps : Array Value), H1 a = some (.tbl ps) → ∃ p ∈ T.tabs, p.1 = a) : Step xt ad H ad H1 ∧ StOk K T xt ad S H1 := by
  have keep : ∀ a o, a ∉ ad → H a = some o → H1 a = some o := fun a o n e => eN a o e fun ps z => by
    subst z
    obtain ⟨j, p, _, _, h3, _⟩ := tab_in so e
    exact n (List.mem_of_getElem? h3)
  have x : Ex (hide xt ad H) (hide xt ad H1) := fun a o e => by
    unfold hide at e ⊢
    split at e
    · cases e
    · rename_i n
      rw [if_neg n]
      exact keep a o (fun z => n (.inr z)) e
  have cell : ∀ a ∈ ad, H a ≠ none → H1 a ≠ none := fun a ha hn => by
    obtain ⟨o, ho⟩ := Option.ne_none_iff_exists'.mp hn
    by_cases ht : ∃ ps, o = .tbl ps
    · obtain ⟨ps, rfl⟩ := ht
      obtain ⟨p, hp, rfl⟩ := so.tn a ps ho
      obtain ⟨ps', e, _⟩ := T1 p hp
      rw [e]
      exact fun z => nomatch z
    · rw [eN a o ho fun ps z => ht ⟨ps, z⟩]
      exact fun z => nomatch z
  have xs : ∀ a ∈ xt, H a ≠ none → H1 a = H a := fun a ha hn => by
    obtain ⟨o, ho⟩ := Option.ne_none_iff_exists'.mp hn
    rw [ho]
    exact keep a o (so.xs a ha).2 ho
  have unc : ∀ (m : Nat) (a : Addr) (q : Str), ad[m]? = some a → H1 a ≠ some (CodeO a q) := fun m a q hm hc => by
    have hl : m < S.length := by
      rw [← so.len]
      exact (List.getElem?_eq_some_iff.mp hm).1
    obtain ⟨a', e1, c⟩ := so.at' m S[m] (List.getElem?_eq_getElem hl)
    rw [hm] at e1
    cases e1
    cases hz : S[m] with
    | lst ds =>
      rw [hz] at c
      obtain ⟨vs, e, _⟩ := c
      rw [eN a _ e fun ps z => nomatch z] at hc
      unfold CodeO at hc
      cases hc
    | dct ds =>
      rw [hz] at c
      obtain ⟨vs, e, _⟩ := c
      rw [eN a _ e fun ps z => nomatch z] at hc
      unfold CodeO at hc
      cases hc
    | tab q' =>
      rw [hz] at c
      obtain ⟨ps, e, _⟩ := c
      obtain ⟨p, hp, rfl⟩ := so.tn a ps e
      obtain ⟨ps', e', _⟩ := T1 p hp
      rw [e'] at hc
      unfold CodeO at hc
      cases hc
  refine ⟨⟨⟨[], (List.append_nil _).symm⟩, x, cell, xs⟩, so.nd, so.len, fun n c e => ?_, fun a ha => ⟨?_, (so.xs a ha).2⟩, so.tb, tn, fun a ha q => ?_⟩
  · obtain ⟨a, e1, c1⟩ := so.at' n c e
    refine ⟨a, e1, ?_⟩
    cases c with
    | lst ds =>
      obtain ⟨vs, h1, h2⟩ := c1
      exact ⟨vs, eN a _ h1 (fun ps z => nomatch z), dpa_mono x h2⟩
    | dct ds =>
      obtain ⟨vs, h1, h2⟩ := c1
      exact ⟨vs, eN a _ h1 (fun ps z => nomatch z), paired_map (fun p q z => ⟨z.1, dp_mono x z.2⟩) h2⟩
    | tab q =>
      obtain ⟨ps, h1, _⟩ := c1
      obtain ⟨j, p, hj, hpa, hj2, hj3⟩ := tab_in so h1
      have ejn := nodup_at so.nd hj2 e1
      subst ejn
      rw [e] at hj3
      cases hj3
      obtain ⟨ps', t1, t2, t3⟩ := T1 p (List.mem_of_getElem? hj)
      rw [hpa] at t1
      refine ⟨ps', t1, t2, fun pos cv hc => ?_⟩
      obtain ⟨c, g1, g2⟩ := t3 pos cv hc
      refine ⟨c, g1, ?_⟩
      unfold hide
      rw [if_neg ?_]
      · exact g2
      · rintro (z | z)
        · have hn := (so.xs c z).1
          rw [xs c z hn] at g2
          exact so.cx c z _ g2
        · obtain ⟨m, hm⟩ := List.getElem?_of_mem z
          exact unc m c _ hm g2
  · rw [xs a ha (so.xs a ha).1]
    exact (so.xs a ha).1
  · rw [xs a ha (so.xs a ha).1]
    exact so.cx a ha q
theorem tabs_grow {Tb : List (Addr × Str)} {P c : Addr} {q : Str} {ps : Array Value} {l1 l2 : Value} {pos : Pos} (hT : Tabs Tb H) (hP : H P = some (.tbl ps)) (nC : H c = none) (ht : TriplesOk ps.toList) (ha : ∀ (pos : Pos) (cv : Value), codeAmong pos ps.toList = some cv → ∃ c, cv = .ref c ∧ H c = some (CodeO c q)) (hu : ∀ p ∈ Tb, p.1 = P → p.2 = q) :
    Tabs Tb (upd (upd H P (.tbl (ps ++ #[rawInt pos.line, rawInt pos.col, .ref c]))) c (CodeO c q)) ∧ ExtN H (upd (upd H P (.tbl (ps ++ #[rawInt pos.line, rawInt pos.col, .ref c]))) c (CodeO c q)) := by
  have eN : ExtN H (upd (upd H P (.tbl (ps ++ #[rawInt pos.line, rawInt pos.col, .ref c]))) c (CodeO c q)) := fun b o e n => by
    have n1 : b ≠ c := fun z => by rw [z, nC] at e; cases e
    have n2 : b ≠ P := fun z => by rw [z, hP] at e; exact n ps (Option.some.inj e).symm
    rw [upd_ne n1, upd_ne n2, e]
  have nPc : P ≠ c := fun z => by rw [z, nC] at hP; cases hP
  have eL : (ps ++ #[rawInt pos.line, rawInt pos.col, .ref c]).toList = ps.toList ++ [rawInt pos.line, rawInt pos.col, .ref c] := by simp
  refine ⟨fun p hp => ?_, eN⟩
  by_cases hb : p.1 = P
  · rw [hu p hp hb, hb]
    refine ⟨_, by rw [upd_ne nPc, upd_same], by rw [eL]; exact PySem.TriplesOk_snoc _ _ _ _ ht, fun p' cv hcv => ?_⟩
    rw [eL] at hcv
    rcases among_app _ ht hcv with z | z
    · obtain ⟨c0, e1, e2⟩ := ha p' cv z
      exact ⟨c0, e1, eN _ _ e2 codeO_ne⟩
    · exact ⟨c, z, upd_same⟩
  · obtain ⟨ps', a1, a2, a3⟩ := hT p hp
    have n1 : p.1 ≠ c := fun z => by rw [z, nC] at a1; cases a1
    refine ⟨ps', by rw [upd_ne n1, upd_ne hb]; exact a1, a2, fun p' cv hcv => ?_⟩
    obtain ⟨c0, e1, e2⟩ := a3 p' cv hcv
    exact ⟨c0, e1, eN _ _ e2 codeO_ne⟩
end
/-! ### the lambda made -/
section
variable {X : Cx} {pins : List (Addr × Obj)} {σ : L2.St} {H : Hp} {s : Shared}
theorem lam_mk {Tb : List (Addr × Str)} {c P : Addr} {params : Arguments} {body : Expr} {scope : Scope} {pos : Pos} {E Q : Value → Shared → Prop} (I : Inv X pins σ H s) (TB : TabB X.base X.mg c P) (hcode : X.env.code = .ref c)
    (hm : (P, X.env.qual ++ "<lambda>") ∈ Tb) (hu : ∀ p ∈ Tb, p.1 = P → p.2 = X.env.qual ++ "<lambda>") (hT : Tabs Tb H) (hdef : defaultsOf params X.env = ([], [])) (L : LamS X.env.scope scope)
    (h : ∀ (f c' : Addr) (pm ctv : Value) (H1 : Hp) (s' : Shared), Inv X pins σ H1 s' → ExtN H H1 → Tabs Tb H1 → (∀ (a : Addr) (qs : Array Value), H1 a = some (.tbl qs) → ∃ qs', H a = some (.tbl qs')) →
      s'.heap.get? f = some (PySem.W.kla_obj "<lambda>" (X.env.qual ++ "<lambda>") params body scope (cloFrom X.env.cells scope.names []) pm c' ctv) → H1 f = none → f ∉ frs X.stack → H1 c' = some (CodeO c' (X.env.qual ++ "<lambda>")) → Q (.ref f) s') :
    wpAny (model X.prog X.w) X.A (eval (.Lambda params body scope pos) X.env) Q E s := by
  obtain ⟨ps, hP, ht, ha⟩ := hT _ hm
  have hfree := L.has I.ok
  have gP : s.heap.get? P = some { cls := .none, data := .fields ps } := I.hok P _ hP
  have off_ : ∀ b, s.heap.objs.size ≤ b → b ∉ frs X.stack := fun b hb z => by
    rcases List.mem_cons.mp (I.stkSub _ z) with e | e
    · have hlt := I.lt
      rw [← e] at hlt
      exact absurd hlt (Nat.not_lt_of_le hb)
    · exact I.nofs hb e
  refine PySem.W.kla_eval hdef ?_
  cases hc : codeAmong pos ps.toList with
  | some cv =>
    obtain ⟨c', rfl, hco⟩ := ha pos cv hc
    refine PySem.W.kla_makeFunctionHit (mg := X.mg) (c := c) (P := P) (ps := ps) (closure_ok hfree) I.ok.glob (I.mod.glob.keeps I.bk) hcode (TB.code.keeps I.bk) gP ht hc (TB.bm.keeps I.bk) fun ctv h' tk hx hsz => ?_
    refine h h'.objs.size c' _ ctv H _ (I.kept (t' := tk) fun b o e => Heap.get?_push_of_some _ (hx b o e)) (ExtN.refl H) hT (fun a qs e => ⟨qs, e⟩) (Heap.get?_push_size _ rfl) (I.hok.fresh hsz) (off_ _ hsz) hco
  | none =>
    refine PySem.W.kla_makeFunction (mg := X.mg) (c := c) (P := P) (ps := ps) (closure_ok hfree) I.ok.glob (I.mod.glob.keeps I.bk) hcode (TB.code.keeps I.bk) gP ht hc TB.gP (TB.bm.keeps I.bk) fun c' ctv h' tk hx hge hlt hrec htb => ?_
    obtain ⟨c2, oc, vs, t, e2, hoc, hd, hv⟩ := hrec
    cases e2
    have nC : H c' = none := I.hok.fresh hge
    have hsz : s.heap.objs.size ≤ h'.objs.size := by omega
    obtain ⟨T1, eN⟩ := tabs_grow (pos := pos) (l1 := .none) (l2 := .none) hT hP nC ht ha hu
    have I1 := inv_table (t' := tk) (more := #[rawInt pos.line, rawInt pos.col, .ref c']) (h' := h'.push (PySem.W.kla_obj "<lambda>" (X.env.qual ++ "<lambda>") params body scope (cloFrom X.env.cells scope.names []) ((X.mg "__name__").getD .none) c' ctv)) I hP
      (fun b o hb e => Heap.get?_push_of_some _ (hx b o hb e)) (Heap.get?_push_of_some _ htb) hge ⟨oc, vs, t, Heap.get?_push_of_some _ hoc, hd, hv⟩
    refine h h'.objs.size c' _ ctv _ _ I1 eN T1 (fun a qs e => ?_) (Heap.get?_push_size _ rfl) ?_ (off_ _ hsz) upd_same
    · by_cases z : a = c'
      · rw [z, upd_same] at e
        unfold CodeO at e
        cases e
      · rw [upd_ne z] at e
        by_cases z2 : a = P
        · exact ⟨ps, by rw [z2]; exact hP⟩
        · rw [upd_ne z2] at e
          exact ⟨qs, e⟩
    · have hl := Heap.lt_size gP
      rw [upd_ne (Nat.ne_of_gt hlt), upd_ne (Nat.ne_of_gt (Nat.lt_of_lt_of_le hl hsz))]
      exact I.hok.fresh hsz
end
end Ht

set_option maxRecDepth 100000
set_option maxHeartbeats 16000000
/-! HtR: the def that tries what it is handed. -/
namespace Ht
open PySem L2 Evl PySem.SeqAt PyProof.Rows LamX

theorem deeper_guards {A : Around} {env : Env} (h : A.guards = some []) : (A.deeper env).guards = some [] := by
  first | exact h | simpa [Around.deeper, Around.under] using h
/-- what it reads where it calls what it was handed -/
def tAct (f c' : Addr) (q : Str) (i : Nat) (tb : XK → TE) (σ : L2.St) (W : WX) : TE := fun σZ HZ Q => σZ[i]? = some (some (.ref f)) ∧ HZ c' = some (CodeO c' q) ∧ tb (L2.WE W σZ) σ HZ Q
section
variable {X : Cx} {pins : List (Addr × Obj)} {σ : L2.St} {H : Hp} {s : Shared}
theorem pe_try {CXg : CXT} {Eg : XK} {Ng : List Str} {qg : Str} {sg : Scope} {g f c' : Addr} {cdg pm ctv : Value} {params : Arguments} {body : Expr} {scope : Scope} {i : Nat} {a : Str} {pn : List (Addr × Obj)} {xe : Value → Shared → Prop} {W : WX} {tb : XK → TE} {p1 p2 : Pos}
    (I : Inv X pins σ H s) (L : LamS X.env.scope scope) (gF : s.heap.get? f = some (PySem.W.kla_obj "<lambda>" (X.env.qual ++ "<lambda>") params body scope (cloFrom X.env.cells scope.names []) pm c' ctv)) (nF : H f = none) (oF : f ∉ frs X.stack)
    (hbind : bindArgs (PySem.W.kla_fn "<lambda>" (X.env.qual ++ "<lambda>") params body scope (cloFrom X.env.cells scope.names []) pm (.ref c') ctv) ⟨[], []⟩ = pure [])
    (tk : Takes ((cxOf CXg X.prog X.w X.K X.mg X.base Ng qg sg g cdg X.A X.stack s H Eg).tr pn xe) W) (room : Room 1 (X.A.deeper (envOfC qg sg s.heap.objs.size g cdg)))
    (hbody : ∀ (s1 : Shared) (HZ : Hp) (E : XK), PE (lamCx X (X.A.deeper (envOfC qg sg s.heap.objs.size g cdg)) (envOfC qg sg s.heap.objs.size g cdg :: X.stack) s1 HZ E scope f c') body (tb E))
    (hN : Ng[i]? = some a) (hv : Vis sg a) (n1 : (a == ("__debug__" : Str)) = false) (n2 : (a == ("__classdict__" : Str)) = false) :
    PE ((cxOf CXg X.prog X.w X.K X.mg X.base Ng qg sg g cdg X.A X.stack s H Eg).tr pn xe) (.Call (.Name a p1) [] [] p2) (tAct f c' (X.env.qual ++ "<lambda>") i tb σ W) := by
  refine ⟨fun pinsZ sZ σZ HZ Q IZ hq => ?_⟩
  obtain ⟨slot, code, want⟩ := hq
  have rd := pe_var (X := (cxOf CXg X.prog X.w X.K X.mg X.base Ng qg sg g cdg X.A X.stack s H Eg).tr pn xe) (pos := p1) (i := i) hN hv n1 n2
  refine wpAny_Call_Name_kw (thn (rd.run pinsZ sZ σZ HZ (fun v H1 => v = .ref f ∧ H1 = HZ) IZ ⟨.ref f, slot, rfl, rfl⟩) fun u s1 hu => ?_)
  obtain ⟨v, H1, J, rv, ev, eH⟩ := hu
  subst ev
  rw [eH] at J
  have eu : u = Value.ref f := rv
  subst eu
  have obj := J.base.keep f _ gF nF oF (fun z => nomatch (show f ∈ ([] : List Addr) from z))
  obtain ⟨⟨oc, vs, t, hoc, hdc, hvc⟩, _, _⟩ := J.hok c' _ code
  refine PySem.W.callWith_F0 ⟨_, _, _, _, obj⟩ (wpAny_call (codeAny_mono (?_ : codeAny (model X.prog X.w) (X.A.deeper (envOfC qg sg s.heap.objs.size g cdg)) (.call (.ref f) ⟨[], []⟩) (CR (L2.CX X.prog X.w) (envOfC qg sg s.heap.objs.size g cdg :: X.stack) X.prog X.w HZ s1 Q (L2.WE W σZ)) s1) fun r s' hr => ?_))
  · refine PySem.W.kla_callFunE room.depth obj rfl L.co L.gen rfl ⟨c', oc, vs, t, rfl, hoc, hdc, hvc⟩ ?_
    rw [hbind]
    refine wpAny_pure (wpAny_newFunctionEnv (fun y hy => (L.own y hy).2) (fun y hy => absurd hy (by simp)) (fun h₁ hns hsb => ⟨J.nolimit.fresh _ hsb, ?_⟩) L.kind)
    have kept : ∀ b o, s1.heap.get? b = some o → h₁.get? b = some o := fun b o e => hsb.extBut b o (Nat.ne_of_lt (Heap.lt_size e)) (Heap.get?_push_of_some _ e)
    have JL : Inv (lamCx X (X.A.deeper (envOfC qg sg s.heap.objs.size g cdg)) (envOfC qg sg s.heap.objs.size g cdg :: X.stack) s1 HZ (L2.WE W σZ) scope f c') [] σ HZ { s1 with heap := h₁, toks := s1.toks + ([] : List (Str × Value)).length } := lam_start2 I L J.env0 room.hd J.base hns kept
    show codeAny _ _ (.expr body (lamEnv X scope s1.heap.objs.size f c')) _ _
    refine PySem.W.kla_codeExpr (wpAny_mono ((hbody s1 HZ _).run [] _ _ HZ Q JL want) (fun v s' hv => ?_) fun e s' he => he)
    obtain ⟨w', H', J', rv', q'⟩ := hv
    exact ⟨w', H', J'.os, J'.bare, J'.base, J'.hok, rv', q'⟩
  · cases r with
    | error e => exact passAt tk σZ pinsZ HZ s1 e s' J hr
    | ok fl =>
      cases fl with
      | ret u => exact J.after hr
      | next => exact hr.elim
      | brk => exact hr.elim
      | cont => exact hr.elim
end
/-! ### what it makes of the value -/
def tXs0 (tv : TE) : List SX → TA
  | [] => fun _ H Q => Q [] H
  | .fld :: xs => fun σ H Q => tv σ H fun v H1 => tXs0 tv xs σ H1 fun vs H2 => Q (v :: vs) H2
  | .con d :: xs => fun σ H Q => tXs0 tv xs σ H fun vs H1 => Q (conV d :: vs) H1
def tM0 (tv : TE) : Mk → List SX → TE
  | .one, [.fld] => tv
  | .tup, xs => tTup (tXs0 tv xs)
  | .lst, xs => tLst (tXs0 tv xs)
  | _, _ => fun _ _ _ => False
section
variable {X : Cx} {a : Str} {tv : TE}
theorem pe_con {d : PyData} {c : Const} {j : Nat} {pos : Pos} (h : conOk d c = true) : PE X (.Constant c j pos) (fun _ H Q => Q (conV d) H) := by
  unfold conOk at h
  split at h
  · have e := of_decide_eq_true h
    subst e
    exact pe_int
  · have e := of_decide_eq_true h
    subst e
    exact pe_bl
  · have e := of_decide_eq_true h
    subst e
    exact pe_str
  · exact pe_non
  · cases h
theorem pa_x0 (hc : ∀ p1 p2, PE X (.Call (.Name a p1) [] [] p2) tv) : ∀ {xs : List SX} {es : List Expr}, chkXs0 a xs es = true → PA X es (tXs0 tv xs)
  | [], [], _ => pa_nil
  | x :: xs, e :: es, h => by
    simp only [chkXs0, Bool.and_eq_true] at h
    obtain ⟨⟨h1, h2⟩, h3⟩ := h
    have r := pa_x0 hc h3
    unfold chkX0 at h2
    split at h2
    · have e := of_decide_eq_true h2
      subst e
      exact pa_imp (pa_cons (hc _ _) r (star_ok h1)) fun σ H Q q => q
    · exact pa_imp (pa_cons (pe_con h2) r (star_ok h1)) fun σ H Q q => q
    · cases h2
  | [], _ :: _, h => by simp [chkXs0] at h
  | _ :: _, [], h => by simp [chkXs0] at h
theorem pe_m0 (hc : ∀ p1 p2, PE X (.Call (.Name a p1) [] [] p2) tv) {m : Mk} {xs : List SX} {e : Expr} (h : chkM0 a m xs e = true) : PE X e (tM0 tv m xs) := by
  unfold chkM0 at h
  split at h
  · unfold chkX0 at h
    split at h
    · have e := of_decide_eq_true h
      subst e
      exact hc _ _
    · exact pe_imp (pe_con h) fun σ H Q q => q.elim
    · cases h
  · exact pe_tup (pa_x0 hc h)
  · exact pe_lst (pa_x0 hc h)
  · cases h
/-- one call among constants -/
theorem txs_no {xs : List SX} (h : xs.filter isFld = []) {σ : L2.St} {H : Hp} {Q : List V → Hp → Prop} (v : V) (q : Q (xs.map (valX v)) H) : tXs0 tv xs σ H Q := by
  induction xs generalizing Q with
  | nil => exact q
  | cons x xs ih =>
    cases x with
    | fld => simp [isFld] at h
    | con d => exact ih (by rw [List.filter_cons_of_neg (by simp [isFld])] at h; exact h) q
theorem txs_one {xs : List SX} (h : one0 xs = true) {σ : L2.St} {H : Hp} {Q : List V → Hp → Prop} (q : tv σ H fun v H1 => Q (xs.map (valX v)) H1) (mono : ∀ {Q1 Q2 : VK}, (∀ v H, Q1 v H → Q2 v H) → tv σ H Q1 → tv σ H Q2) : tXs0 tv xs σ H Q := by
  induction xs generalizing Q with
  | nil => simp [one0] at h
  | cons x xs ih =>
    cases x with
    | fld =>
      have h0 : xs.filter isFld = [] := by
        unfold one0 at h
        rw [List.filter_cons_of_pos (by rfl)] at h
        simpa using h
      exact mono (fun v H1 q => txs_no (tv := tv) h0 v q) q
    | con d => exact ih (by unfold one0 at h ⊢; rw [List.filter_cons_of_neg (by simp [isFld])] at h; exact h) q
end
end Ht

set_option maxRecDepth 100000
set_option maxHeartbeats 16000000
/-! HtV: x(lambda: e) is worth what the small language says. -/
namespace Ht
open PySem L2 Evl PySem.SeqAt PyProof.Rows LamX

def tMv (v : V) : Mk → List SX → Hp → VK → Prop
  | .one, [.fld], H, Q => Q v H
  | .tup, xs, H, Q => (xs.map (valX v)).length ≤ sizeLine ∧ ∀ p, H p = none → Q (.ref p) (upd H p (.tup (xs.map (valX v))))
  | .lst, xs, H, Q => (xs.map (valX v)).length ≤ sizeLine ∧ ∀ p, H p = none → Q (.ref p) (upd H p (.lst (xs.map (valX v))))
  | _, _, _, _ => False
theorem m0_of {tv : TE} {m : Mk} {xs : List SX} (h1 : one0 xs = true) (hm : m = .one → xs = [.fld]) (mono : ∀ {σ : L2.St} {H : Hp} {Q1 Q2 : VK}, (∀ v H, Q1 v H → Q2 v H) → tv σ H Q1 → tv σ H Q2) {σ : L2.St} {H : Hp} {Q : VK} (q : tv σ H fun v H1 => tMv v m xs H1 Q) : tM0 tv m xs σ H Q := by
  cases m with
  | one =>
    have := hm rfl
    subst this
    exact q
  | tup => exact txs_one h1 q (fun i => mono i)
  | lst => exact txs_one h1 q (fun i => mono i)
section
variable {K : PySem.W.Frag} {T : Xs} {xt ad : List Addr} {S : Sto} {H : Hp} {v : V} {y r : PyData}
theorem rd_mv {m : Mk} {xs : List SX} {Q : VK} (so : StOk K T xt ad S H) (hy : Dp K (hide xt ad H) v y) (h1 : m = .one → xs = [.fld]) (h : suD y m xs = some r) (k : ∀ z H', Step xt ad H ad H' → StOk K T xt ad S H' → Dp K (hide xt ad H') z r → Q z H') : tMv v m xs H Q := by
  cases m with
  | one =>
    have := h1 rfl
    subst this
    have e : r = y := by
      simp only [suD, flatX, if_true, sxD] at h
      exact (some_inj h).symm
    subst e
    exact k _ _ Step.refl so hy
  | tup =>
    simp only [suD] at h
    split at h
    · rename_i hx
      cases (some_inj h)
      refine ⟨by rw [List.length_map]; exact hx.1, fun p hp => ?_⟩
      obtain ⟨st, so1, dp⟩ := new_tup so hp (sxs_dp hy hx.2)
      exact k _ _ st so1 dp
    · cases h
  | lst =>
    simp only [suD] at h
    split at h
    · rename_i hx
      cases (some_inj h)
      refine ⟨by rw [List.length_map]; exact hx.1, fun p hp => ?_⟩
      obtain ⟨st, so1, dp⟩ := new_lst so hp (sxs_dp hy hx.2)
      exact k _ _ st so1 dp
    · cases h
end
theorem lamC_find {y : Exn} {S : Sto} {i : Nat} (mk : Mk → List SX → SU) : ∀ hs : List (Nat × Mk × List SX), (∀ z, y.arg = some z → ∀ h, (hs.map fun h => (h.1, mk h.2.1 h.2.2)).find? (hitP y) = some h → ∃ m xs, h.2 = mk m xs ∧ lamC hs y S = opt (suD z m xs) S) ∧ ((hs.map fun h => (h.1, mk h.2.1 h.2.2)).find? (hitP y) = none → lamC hs y S = .no)
  | [] => ⟨fun _ _ _ h => by simp at h, fun _ => rfl⟩
  | h :: hs => by
    obtain ⟨i1, i2⟩ := lamC_find (y := y) (S := S) (i := i) mk hs
    by_cases q : y.cls = h.1
    · have hp : hitP y (h.1, mk h.2.1 h.2.2) = true := decide_eq_true q
      refine ⟨fun z hz h' hf => ?_, fun hf => ?_⟩
      · rw [List.map_cons, List.find?_cons, hp] at hf
        cases (some_inj hf)
        exact ⟨_, _, rfl, by rw [lamC, if_pos q, hz]⟩
      · rw [List.map_cons, List.find?_cons, hp] at hf
        cases hf
    · have hp : hitP y (h.1, mk h.2.1 h.2.2) = false := decide_eq_false q
      have el : lamC (h :: hs) y S = lamC hs y S := by rw [lamC, if_neg q]
      rw [List.map_cons, List.find?_cons, hp, el]
      exact ⟨i1, i2⟩
theorem nodup_map_eq {α β : Type} {f : α → β} : ∀ {l : List α}, (l.map f).Nodup → ∀ {a b : α}, a ∈ l → b ∈ l → f a = f b → a = b
  | [], _, _, _, h, _, _ => nomatch h
  | x :: l, hn, a, b, ha, hb, e => by
    rw [List.map_cons, List.nodup_cons] at hn
    rcases List.mem_cons.mp ha with ea | ha'
    · rcases List.mem_cons.mp hb with eb | hb'
      · rw [ea, eb]
      · exact absurd (List.mem_map.mpr ⟨b, hb', by rw [← e, ea]⟩) hn.1
    · rcases List.mem_cons.mp hb with eb | hb'
      · exact absurd (List.mem_map.mpr ⟨a, ha', by rw [e, eb]⟩) hn.1
      · exact nodup_map_eq hn.2 ha' hb' e
section
variable {T : Xs} {P : Ph} {G : Gt} {N : List Str} {X : Cx} {W : WX} {sc : Scope}
/-- the lambda's body stands as the caller stands, two frames deeper -/
theorem XOk.lamb (o : XOk T P G N X W sc) (r4 : Room 4 X.A) (hcal : ∀ (k : Nat) x, G.fns[k]? = some x → ∃ f, X.mg x = some (.ref f) ∧ PySem.W.keepIn X.K (.ref f) = true ∧ Callee T X 2 f (P.f k)) {A : Around} {scope : Scope} {outer : List Env} {s : Shared} {H : Hp} {E : XK} {f c' : Addr} (hA : ∀ n, Room (n + 2) X.A → Room n (A.deeper (lamEnv X scope s.heap.objs.size f c'))) (hg : A.guards = some []) :
    XOk T P G.bare N (lamCx X A outer s H E scope f c') (fun c d _ H => E c d H) scope := by
  have r2 : Room 2 (A.deeper (lamEnv X scope s.heap.objs.size f c')) := hA 2 r4
  refine ⟨o.nm, rfl, o.nd, ?_, deeper_guards hg, takes_of rfl rfl rfl rfl, rfl, o.blt, o.con, fun k x hx => ?_, r2, fun h => absurd rfl h, o.exc, fun k x Nl st h => by simp [Gt.bare] at h, fun h => absurd rfl h, o.tnd⟩
  · have := r2.un
    show (A.deeper (lamEnv X scope s.heap.objs.size f c')).units + 200 < cLine
    omega
  · obtain ⟨fa, h1, h2, n, hr, F⟩ := hcal k x hx
    exact ⟨fa, h1, h2, n, hA n hr, F⟩
theorem tE_mono {K : PySem.W.Frag} {c : CE} {σ : L2.St} {H : Hp} {Q1 Q2 : VK} (i : ∀ v H, Q1 v H → Q2 v H) (h : tE K T W P c σ H Q1) : tE K T W P c σ H Q2 := by
  obtain ⟨xt, ad, Γ, S, en, so, po⟩ := h
  refine ⟨xt, ad, Γ, S, en, so, ?_⟩
  revert po
  cases ev P c Γ S with
  | no => exact fun z => z
  | ok x S1 => exact fun po v ad' H' st so re => i _ _ (po v ad' H' st so re)
  | err x Γ S1 => exact fun po => po
/-- what the def makes of what it was handed -/
theorem recv {K : PySem.W.Frag} {prog : Program} {w : World} {mg : Str → Option Value} {e : CE} {L : LD} {σ σZ : L2.St} {xt ad : List Addr} {Γ : Gm} {S : Sto} {H : Hp} {Q : VK} {D : Ends} {KV : VK} {W0 : WX} (mk : Mk → List SX → SU) (en : EnvOk K xt ad Γ σ H) (so : StOk K T xt ad S H)
    (po : Post K T W0 xt ad H (RdE K xt) (lamR L (ev P e Γ S)) Q)
    (he : ∀ h ∈ (L.hs.map fun h => (h.1, mk h.2.1 h.2.2)), ∃ x f C, T.cls[h.1]? = some (C, some f) ∧ ExcT prog w K mg T h.1 x f C)
    (hv : ∀ v ad' H' S' y r, Step xt ad H ad' H' → StOk K T xt ad' S' H' → Dp K (hide xt ad' H') v y → suD y L.m L.xs = some r → (∀ z H'', Step xt ad' H' ad' H'' → StOk K T xt ad' S' H'' → Dp K (hide xt ad' H'') z r → Q z H'') → KV v H')
    (hx : ∀ m xs C f dd v a ad' H' S' y r, Step xt ad H ad' H' → StOk K T xt ad' S' H' → Dp K (hide xt ad' H') v y → H' dd = some (.xd [(f, v)]) → suD y m xs = some r → (∀ z H'', Step xt ad' H' ad' H'' → StOk K T xt ad' S' H'' → Dp K (hide xt ad' H'') z r → Q z H'') →
      tU L.i C a f (.ref C) (some dd) (mk m xs) (off L.i D) (σZ.set L.i (some (.ref a))) H') :
    tE K T (fun c d _ H => L2.WE (wCl K L.i (fun _ _ _ _ => False) D ((L.hs.map fun h => (h.1, mk h.2.1 h.2.2)).map (clT T L.i))) σZ c d H) P e σ H KV := by
  refine ⟨xt, ad, Γ, S, en, so, ?_⟩
  revert po
  cases ev P e Γ S with
  | no => exact fun po => po.elim
  | ok x S1 =>
    cases x with
    | c n => exact fun po => po.elim
    | d y =>
      intro po v ad' H' st so' re
      obtain ⟨r, hr, k⟩ := opt_post (show Post K T W0 xt ad H (RdE K xt) (opt (suD y L.m L.xs) S1) Q from po)
      exact hv v ad' H' S1 y r st so' re hr fun z H'' st2 so2 dp => k z ad' H'' (st.trans st2) so2 dp
  | err y Γ1 S1 =>
    intro po cls d ad' H' σ' st so' en' xo _
    have po : Post K T W0 xt ad H (RdE K xt) (lamC L.hs y S1) Q := po
    obtain ⟨C', f', hT', rfl, xo⟩ := xo
    refine wcl_of (Wout := fun _ _ _ _ => False) hT' he (fun h C f hf hc hT a ha => ?_) fun hf => ?_
    · rw [hc, hT] at hT'
      cases hT'
      cases hy : y.arg with
      | none => rw [hy] at xo; exact xo.elim
      | some z =>
        rw [hy] at xo
        obtain ⟨dd, v, rfl, hdd, hdp⟩ := xo
        obtain ⟨m, xs, e1, e2⟩ := (lamC_find (S := S1) (i := 0) mk L.hs).1 z hy h hf
        rw [e2] at po
        obtain ⟨r, hr, k⟩ := opt_post po
        rw [e1]
        exact hx m xs _ f dd v a ad' H' S1 z r st so' hdp (hide_ex _ _ hdd) hr fun z H'' st2 so2 dp => k z ad' H'' (st.trans st2) so2 dp
    · rw [(lamC_find (S := S1) (i := 0) mk L.hs).2 hf] at po
      exact po.elim
end
end Ht

set_option maxRecDepth 100000
set_option maxHeartbeats 16000000
/-! HtY: x(lambda: e) is sound. -/
namespace Ht
open PySem L2 Evl PySem.SeqAt PyProof.Rows LamX

theorem no_args {ps : Arguments} (h : noArgs ps = true) : ps = ⟨[], [], none, [], [], none, []⟩ := by
  obtain ⟨a1, a2, a3, a4, a5, a6, a7⟩ := ps
  simp only [noArgs, Bool.and_eq_true, List.isEmpty_iff, Option.isNone_iff_eq_none] at h
  obtain ⟨⟨⟨⟨⟨⟨rfl, rfl⟩, rfl⟩, rfl⟩, rfl⟩, rfl⟩, rfl⟩ := h
  rfl
theorem m0_one {a : Str} {m : Mk} {xs : List SX} {e : Expr} (h1 : one0 xs = true) (h : chkM0 a m xs e = true) : m = .one → xs = [.fld] := by
  rintro rfl
  match xs, h1, h with
  | [.fld], _, _ => rfl
  | [.con d], h1, _ => simp [one0, isFld] at h1
  | [], h1, _ => simp [one0] at h1
  | _ :: _ :: _, _, h => simp [chkM0] at h
theorem start_len {N : List Str} {v : V} (h : 1 ≤ N.length) : (L2.start N [v]).length = N.length := by
  unfold L2.start
  simp
  omega
theorem start_0 {N : List Str} {v : V} : (L2.start N [v])[0]? = some (some v) := by
  unfold L2.start
  simp
section
variable {T : Xs} {P : Ph} {G : Gt} {N : List Str} {X : Cx} {W : WX} {sc : Scope}
theorem lam_snd (o : XOk T P G N X W sc) {L : LD} {e : CE} {x : Str} {ps : Arguments} {b : Expr} {scope : Scope} {p lpos pos : Pos} {Nl : List Str} {st : Stmt}
    (hg : glB sc x = true) (hna : noArgs ps = true) (hl : LamX.lamSB sc scope = true) (hB : L.B = G.lv) (hL : G.lams[L.k]? = some (x, Nl, st)) (hld : chkLD G Nl (defScope st) L.i L.j L (defBody st) = true)
    (he : ∀ {X' : Cx} {W' : WX}, XOk T P G.bare N X' W' scope → PE X' b (tE X'.K T W' P e)) :
    PE X (.Call (.Name x p) [.Lambda ps b scope lpos] [] pos) (tE X.K T W P (.lam L e)) := by
  have hdef : defaultsOf ps X.env = ([], []) := by rw [no_args hna]; rfl
  obtain ⟨g1, g2, _⟩ := gl_of o.sc hg
  obtain ⟨fR, fd, a, hm, F, Sg, hbind⟩ := (o.lam L.k x Nl st hL).ex
  have hne : G.lams ≠ [] := fun z => by rw [z] at hL; simp at hL
  obtain ⟨c, Pt, hcode, TB, hmT⟩ := o.cod hne
  have hu : ∀ q ∈ T.tabs, q.1 = Pt → q.2 = X.env.qual ++ "<lambda>" := fun q hq e => by
    have := nodup_map_eq o.tnd hq hmT e
    rw [this]
  have Ls : LamS X.env.scope scope := lamS_by (by rw [o.sc]; exact hl)
  have hF := F
  obtain ⟨oc, od, kV, doc, pm, an, cdv, ct, osl, rfl, lk, hcd⟩ := F.ex
  refine ⟨fun pins s σ H Q I h => ?_⟩
  obtain ⟨xt, ad, Γ, S, en, so, po⟩ := h
  simp only [ev] at po
  have hlv : lvlOk P L.B S = true := by
    cases h9 : lvlOk P L.B S with
    | true => rfl
    | false =>
      rw [h9, if_neg Bool.false_ne_true] at po
      exact po.elim
  rw [if_pos hlv] at po
  rw [hB] at hlv
  obtain ⟨r4, hcal⟩ := o.lrm hne S hlv
  refine wpAny_Call_Name_kw (ld_glob I g1 hm ?_ g2)
  refine PySem.W.callWith_K (h₀ := X.base) I.ok.mod.kin hF.kp ?_ (by rfl) (by rfl)
  show wpAny _ _ (spliced ((false, eval (.Lambda ps b scope lpos) X.env) :: backTo pos (starEach [] X.env))) _ _ s
  refine Calls.spliced_cons (lam_mk I TB hcode hmT hu (tabs_of so) hdef Ls fun f c' pm' ctv H1 s' I1 eN T1 tn gF nF oF hco => ?_)
  refine Calls.spliced_nil ⟨I1.kIn, ?_⟩
  obtain ⟨st1, so1⟩ := tab_step so eN T1 (fun a qs e => let ⟨qs', e'⟩ := tn a qs e; so.tn a qs' e')
  have en1 := envOk_step st1 en
  have po1 := Post.step st1 po
  have rc : codeAny (model X.prog X.w) X.A (.call (.ref fR) ⟨[.ref f], []⟩) (CR (L2.CX X.prog X.w) X.stack X.prog X.w H1 s' Q (fun _ _ _ => False)) s' := by
    refine run_ofS (CX := L2.CX X.prog X.w) (K := X.K) (mg := X.mg) (base := X.base) (k := 3) (N := Nl) (ps := [a]) (us := [.ref f]) (vs := [.ref f]) lk hcd Sg (r4.mono (by omega)) I1.env0 (BindsTo.of_eq (hbind kV doc pm an cdv ct [.ref f] rfl)) (.cons rfl .nil) rfl fun hr' => ?_
    have hA : ∀ n, Room (n + 2) X.A → ∀ (A : Around) (env : Env), A = X.A.deeper (envOfC x (defScope st) s'.heap.objs.size fR cdv) → Room n (A.deeper env) := fun n r A env e => by
      subst e
      exact (r.deeper _).deeper _
    have body_ : ∀ (s1 : Shared) (HZ : Hp) (E : XK), PE (lamCx X (X.A.deeper (envOfC x (defScope st) s'.heap.objs.size fR cdv)) (envOfC x (defScope st) s'.heap.objs.size fR cdv :: X.stack) s1 HZ E scope f c') b (tE X.K T (fun c d _ H => E c d H) P e) := fun s1 HZ E =>
      he (o.lamb r4 hcal (fun n r => hA n r _ _ rfl) (deeper_guards o.grd))
    have hla : 1 ≤ Nl.length := by
      have := congrArg List.length Sg.pre
      rw [List.length_take] at this
      simp at this
      omega
    have hbd : bindArgs (PySem.W.kla_fn "<lambda>" (X.env.qual ++ "<lambda>") ps b scope (cloFrom X.env.cells scope.names []) pm' (.ref c') ctv) ⟨[], []⟩ = pure [] := by rw [no_args hna]; rfl
    have tk0 : Takes (cxOf (L2.CX X.prog X.w) X.prog X.w X.K X.mg X.base Nl x (defScope st) fR cdv X.A X.stack s' H1 (fun _ _ _ => False)) (fun _ _ _ _ => False) := takes_of rfl rfl rfl rfl
    have mono : ∀ {W' : WX} {σ1 : L2.St} {H2 : Hp} {Q1 Q2 : VK}, (∀ v H, Q1 v H → Q2 v H) → tAct f c' (X.env.qual ++ "<lambda>") 0 (fun E => tE X.K T (fun c d _ H => E c d H) P e) σ W' σ1 H2 Q1 → tAct f c' (X.env.qual ++ "<lambda>") 0 (fun E => tE X.K T (fun c d _ H => E c d H) P e) σ W' σ1 H2 Q2 := fun i q => ⟨q.1, q.2.1, tE_mono i q.2.2⟩
    unfold chkLD at hld
    split at hld
    · rename_i v pv e0 pa t n su hp r pt w pw pr hbody
      simp only [Bool.and_eq_true, decide_eq_true_eq] at hld
      obtain ⟨⟨⟨⟨⟨⟨⟨⟨⟨⟨⟨⟨hc, hj⟩, hw⟩, hvj⟩, hlv⟩, hnc⟩, hij⟩, hj0⟩, hi0⟩, hn0⟩, h1⟩, hm0⟩, hks⟩ := hld
      subst hw
      obtain ⟨cok, hex⟩ := cls_ok (X := cxOf (L2.CX X.prog X.w) X.prog X.w X.K X.mg X.base Nl x (defScope st) fR cdv X.A X.stack s' H1 (fun _ _ _ => False)) (T := T) o.exc Sg.nd (fun _ => rfl) rfl rfl hc hks
      have hc0 := hc
      simp only [clsB, Bool.and_eq_true, decide_eq_true_eq] at hc0
      have hln : (defScope st).names.lookup n = some .local := by
        have := hc0.1.1.2
        split at this
        · assumption
        · cases this
      simp only [nameOk, Bool.and_eq_true, decide_eq_true_eq] at hn0 hvj
      have hlw : L2.Loc (defScope st) w := by
        unfold locB at hlv
        split at hlv
        · rename_i q; exact .inl q
        · rename_i q; exact .inr q
        · cases hlv
      rw [hbody]
      refine ⟨_, pss_cons (ps_try_cl (X := cxOf (L2.CX X.prog X.w) X.prog X.w X.K X.mg X.base Nl x (defScope st) fR cdv X.A X.stack s' H1 (fun _ _ _ => False)) (n := n) (i := L.i) (Wout := fun _ _ _ _ => False)
        (tb := fun W' => tAsg (tM0 (tAct f c' (X.env.qual ++ "<lambda>") 0 (fun E => tE X.K T (fun c d _ H => E c d H) P e) σ W') L.m L.xs) (gName L.j)) rfl rfl Sg.nd hc0.1.1.1 hln tk0
        (fun W' pn xe tk _ => pss_one (ps_set (i := L.j) Sg.nd hj hlw (pe_m0 (fun p1 p2 => pe_try I1 Ls gF nF oF hbd tk (hr'.mono (by omega)) body_ hn0.1.1.1 (vis_of hn0.1.1.2) (by simpa using hn0.1.2) (by simpa using hn0.2)) hm0) (swaps_no hnc) (.inl rfl))) cok)
        (pss_one (ps_ret (pe_var (i := L.j) hj (vis_of hvj.1.1.2) (by simpa using hvj.1.2) (by simpa using hvj.2)))), ?_⟩
      have hjl : L.j < (L2.start Nl [V.ref f]).length := by
        rw [start_len hla]
        exact (List.getElem?_eq_some_iff.mp hj).1
      have hil : L.i < (L2.start Nl [V.ref f]).length := by
        rw [start_len hla]
        exact (List.getElem?_eq_some_iff.mp hc0.1.1.1).1
      refine m0_of (tv := tAct f c' (X.env.qual ++ "<lambda>") 0 (fun E => tE X.K T (fun c d _ H => E c d H) P e) σ _) h1 (m0_one h1 hm0) mono ⟨start_0, hco, ?_⟩
      refine recv (prog := X.prog) (w := X.w) (mg := X.mg) (mk := fun m xs => .set L.j m xs) en1 so1 po1 hex (fun v ad' H' S' y r st so hy hr k => ?_) fun m xs C f' dd v a' ad' H' S' y r st so hy hdd hr k => ?_
      · refine rd_mv so hy (m0_one h1 hm0) hr fun z H'' st2 so2 dp => ?_
        refine ⟨z, ?_, k z H'' st2 so2 dp⟩
        show ((L2.start Nl [V.ref f]).set L.j (some z))[L.j]? = some (some z)
        rw [List.getElem?_set_self hjl]
      · have hsu : SuI L.i C a' f' (.ref C) (some dd) v ((L2.start Nl [V.ref f]).set L.i (some (.ref a'))) H' := ⟨List.getElem?_set_self hil, rfl, dd, rfl, hdd⟩
        refine rd_m so hsu hy hr fun z H'' st2 so2 dp => ?_
        refine ⟨z, ?_, k z H'' st2 so2 dp⟩
        have hij' : L.i ≠ L.j := by simpa using hij
        show ((((L2.start Nl [V.ref f]).set L.i (some (.ref a'))).set L.j (some z)).set L.i none)[L.j]? = some (some z)
        rw [List.getElem?_set_ne hij', List.getElem?_set_self (by rw [List.length_set]; exact hjl)]
    · rename_i v0 pv0 jk pk pa0 v pv e0 pa t n su hp r pt w pw pr hbody
      simp only [Bool.and_eq_true, decide_eq_true_eq] at hld
      obtain ⟨⟨⟨⟨⟨⟨⟨⟨⟨⟨⟨⟨⟨h00, hc⟩, hj⟩, hw⟩, hvj⟩, hlv⟩, hnc⟩, hij⟩, hj0⟩, hi0⟩, hn0⟩, h1⟩, hm0⟩, hks⟩ := hld
      subst h00
      subst hw
      obtain ⟨cok, hex⟩ := cls_ok (X := cxOf (L2.CX X.prog X.w) X.prog X.w X.K X.mg X.base Nl x (defScope st) fR cdv X.A X.stack s' H1 (fun _ _ _ => False)) (T := T) o.exc Sg.nd (fun _ => rfl) rfl rfl hc hks
      have hc0 := hc
      simp only [clsB, Bool.and_eq_true, decide_eq_true_eq] at hc0
      have hln : (defScope st).names.lookup n = some .local := by
        have := hc0.1.1.2
        split at this
        · assumption
        · cases this
      simp only [nameOk, Bool.and_eq_true, decide_eq_true_eq] at hn0 hvj
      have hlw : L2.Loc (defScope st) w := by
        unfold locB at hlv
        split at hlv
        · rename_i q; exact .inl q
        · rename_i q; exact .inr q
        · cases hlv
      rw [hbody]
      refine ⟨_, pss_cons (ps_set (i := L.j) Sg.nd hj hlw pe_non (swaps_no rfl) (.inl rfl)) (pss_cons (ps_try_cl (X := cxOf (L2.CX X.prog X.w) X.prog X.w X.K X.mg X.base Nl x (defScope st) fR cdv X.A X.stack s' H1 (fun _ _ _ => False)) (n := n) (i := L.i) (Wout := fun _ _ _ _ => False)
        (tb := fun W' => tAsg (tM0 (tAct f c' (X.env.qual ++ "<lambda>") 0 (fun E => tE X.K T (fun c d _ H => E c d H) P e) σ W') L.m L.xs) (gName L.j)) rfl rfl Sg.nd hc0.1.1.1 hln tk0
        (fun W' pn xe tk _ => pss_one (ps_set (i := L.j) Sg.nd hj hlw (pe_m0 (fun p1 p2 => pe_try I1 Ls gF nF oF hbd tk (hr'.mono (by omega)) body_ hn0.1.1.1 (vis_of hn0.1.1.2) (by simpa using hn0.1.2) (by simpa using hn0.2)) hm0) (swaps_no hnc) (.inl rfl))) cok)
        (pss_one (ps_ret (pe_var (i := L.j) hj (vis_of hvj.1.1.2) (by simpa using hvj.1.2) (by simpa using hvj.2))))), ?_⟩
      have hj0' : L.j ≠ 0 := by simpa using hj0
      have hs0 : ((L2.start Nl [V.ref f]).set L.j (some V.non))[0]? = some (some (V.ref f)) := by
        rw [List.getElem?_set_ne hj0']
        exact start_0
      have hjl : L.j < ((L2.start Nl [V.ref f]).set L.j (some V.non)).length := by
        rw [List.length_set, start_len hla]
        exact (List.getElem?_eq_some_iff.mp hj).1
      have hil : L.i < ((L2.start Nl [V.ref f]).set L.j (some V.non)).length := by
        rw [List.length_set, start_len hla]
        exact (List.getElem?_eq_some_iff.mp hc0.1.1.1).1
      refine m0_of (tv := tAct f c' (X.env.qual ++ "<lambda>") 0 (fun E => tE X.K T (fun c d _ H => E c d H) P e) σ _) h1 (m0_one h1 hm0) mono ⟨hs0, hco, ?_⟩
      refine recv (prog := X.prog) (w := X.w) (mg := X.mg) (mk := fun m xs => .set L.j m xs) en1 so1 po1 hex (fun v ad' H' S' y r st so hy hr k => ?_) fun m xs C f' dd v a' ad' H' S' y r st so hy hdd hr k => ?_
      · refine rd_mv so hy (m0_one h1 hm0) hr fun z H'' st2 so2 dp => ?_
        refine ⟨z, ?_, k z H'' st2 so2 dp⟩
        show (((L2.start Nl [V.ref f]).set L.j (some V.non)).set L.j (some z))[L.j]? = some (some z)
        rw [List.getElem?_set_self hjl]
      · have hsu : SuI L.i C a' f' (.ref C) (some dd) v (((L2.start Nl [V.ref f]).set L.j (some V.non)).set L.i (some (.ref a'))) H' := ⟨List.getElem?_set_self hil, rfl, dd, rfl, hdd⟩
        refine rd_m so hsu hy hr fun z H'' st2 so2 dp => ?_
        refine ⟨z, ?_, k z H'' st2 so2 dp⟩
        have hij' : L.i ≠ L.j := by simpa using hij
        show (((((L2.start Nl [V.ref f]).set L.j (some V.non)).set L.i (some (.ref a'))).set L.j (some z)).set L.i none)[L.j]? = some (some z)
        rw [List.getElem?_set_ne hij', List.getElem?_set_self (by rw [List.length_set]; exact hjl)]
    · rename_i e0 pa t n su hp r pt hbody
      simp only [Bool.and_eq_true, decide_eq_true_eq] at hld
      obtain ⟨⟨⟨⟨⟨hc, hi0⟩, hn0⟩, h1⟩, hm0⟩, hks⟩ := hld
      obtain ⟨cok, hex⟩ := cls_ok (X := cxOf (L2.CX X.prog X.w) X.prog X.w X.K X.mg X.base Nl x (defScope st) fR cdv X.A X.stack s' H1 (fun _ _ _ => False)) (T := T) o.exc Sg.nd (fun _ => rfl) rfl rfl hc hks
      have hc0 := hc
      simp only [clsB, Bool.and_eq_true, decide_eq_true_eq] at hc0
      have hln : (defScope st).names.lookup n = some .local := by
        have := hc0.1.1.2
        split at this
        · assumption
        · cases this
      simp only [nameOk, Bool.and_eq_true, decide_eq_true_eq] at hn0
      rw [hbody]
      refine ⟨_, pss_one (ps_try_cl (X := cxOf (L2.CX X.prog X.w) X.prog X.w X.K X.mg X.base Nl x (defScope st) fR cdv X.A X.stack s' H1 (fun _ _ _ => False)) (n := n) (i := L.i) (Wout := fun _ _ _ _ => False)
        (tb := fun W' => tRet (tM0 (tAct f c' (X.env.qual ++ "<lambda>") 0 (fun E => tE X.K T (fun c d _ H => E c d H) P e) σ W') L.m L.xs)) rfl rfl Sg.nd hc0.1.1.1 hln tk0
        (fun W' pn xe tk _ => pss_one (ps_ret (pe_m0 (fun p1 p2 => pe_try I1 Ls gF nF oF hbd tk (hr'.mono (by omega)) body_ hn0.1.1.1 (vis_of hn0.1.1.2) (by simpa using hn0.1.2) (by simpa using hn0.2)) hm0))) cok), ?_⟩
      have hil : L.i < (L2.start Nl [V.ref f]).length := by
        rw [start_len hla]
        exact (List.getElem?_eq_some_iff.mp hc0.1.1.1).1
      refine m0_of (tv := tAct f c' (X.env.qual ++ "<lambda>") 0 (fun E => tE X.K T (fun c d _ H => E c d H) P e) σ _) h1 (m0_one h1 hm0) mono ⟨start_0, hco, ?_⟩
      refine recv (prog := X.prog) (w := X.w) (mg := X.mg) (mk := fun m xs => .ret m xs) en1 so1 po1 hex (fun v ad' H' S' y r st so hy hr k => ?_) fun m xs C f' dd v a' ad' H' S' y r st so hy hdd hr k => ?_
      · exact rd_mv so hy (m0_one h1 hm0) hr fun z H'' st2 so2 dp => k z H'' st2 so2 dp
      · have hsu : SuI L.i C a' f' (.ref C) (some dd) v ((L2.start Nl [V.ref f]).set L.i (some (.ref a'))) H' := ⟨List.getElem?_set_self hil, rfl, dd, rfl, hdd⟩
        exact rd_m so hsu hy hr fun z H'' st2 so2 dp => k z H'' st2 so2 dp
    · cases hld
  refine wpAny_call (codeAny_mono rc fun r s2 hq => ?_)
  cases r with
  | error e =>
    exfalso
    obtain ⟨_, _, _, _, _, _, _, _, _, _, _, _, z⟩ := hq
    exact z
  | ok fl =>
    cases fl with
    | ret u => exact I1.after hq
    | next => exact hq.elim
    | brk => exact hq.elim
    | cont => exact hq.elim
end
end Ht

set_option maxRecDepth 100000
set_option maxHeartbeats 16000000
/-! HtH: the check holds what it promises, for expressions. -/
namespace Ht
open PySem L2 Evl PySem.SeqAt PyProof.Rows

section
variable {T : Xs} {P : Ph} {G : Gt} {N : List Str}
theorem chain_marks {op op' : CmpOp} {b c : Expr} (h : okE c = true) : lastMarks [op, op'] [b, c] = false := by
  show behindInMarks op' c = false
  exact marks_ok h
theorem seqI_it {K : PySem.W.Frag} {xt ad : List Addr} {H : Hp} {S S1 : Sto} {v : V} {e : E} {I : Its} (so : StOk K T xt ad S H) (r : RdE K xt ad H v e) (h : seqI e S = .ok I S1) :
    S1 = S ∧ ((∃ z, v = .str z ∧ ItD K T xt ad H (L2.Its z) I) ∨ ∃ a, v = .ref a ∧ (((∃ xs, SqL K H a xs) ∧ ItD K T xt ad H (Itl K a) I) ∨ ((∃ xs, SqT K H a xs) ∧ ItD K T xt ad H (Itt K a) I))) := by
  unfold seqI at h
  split at h
  · rename_i z
    cases h
    have r : Dp K (hide xt ad H) v (.str z) := r
    cases r
    refine ⟨rfl, .inl ⟨z, rfl, fun xt2 ad2 H2 S2 _ x2 so2 _ i => ⟨fun x e => ?_, fun hi => ?_⟩⟩⟩
    · rw [List.getElem?_map, Option.map_eq_some_iff] at e
      obtain ⟨c, hc, rfl⟩ := e
      have hc' : z.cps[i]? = some c := by rw [← Array.getElem?_toList]; exact hc
      refine ⟨(Array.getElem?_eq_some_iff.mp hc').1, fun u H3 hy => ?_⟩
      obtain ⟨e3, c2, h2, rfl⟩ := hy
      subst e3
      rw [hc'] at h2
      cases h2
      exact ⟨Step.refl, so2, .str _⟩
    · have hi' : (z.cps.toList.map fun c => PyData.str ⟨#[c]⟩).length ≤ i := hi
      rw [List.length_map, Array.length_toList] at hi'
      exact hi'
  · rename_i x nx
    split at h
    · rename_i xs hx
      cases h
      refine ⟨rfl, ?_⟩
      cases x with
      | list ys =>
        have e1 := some_inj hx
        subst e1
        cases r with
        | @lst a vs _ s da =>
          refine .inr ⟨a, rfl, .inl ⟨⟨_, ex_l hide_ex s⟩, fun xt2 ad2 H2 S2 _ x2 so2 _ i => ⟨fun x e => ?_, fun hi => ⟨_, ex_l hide_ex (ex_l x2 s), by rw [dpa_len da]; exact hi⟩⟩⟩⟩
          obtain ⟨v, hv, dv⟩ := dpa_get da e
          refine ⟨⟨_, v, ex_l hide_ex (ex_l x2 s), hv⟩, fun v2 H3 hy => ?_⟩
          obtain ⟨e3, hy⟩ := hy
          subst e3
          have := hy _ (ex_l hide_ex (ex_l x2 s))
          rw [hv] at this
          cases this
          exact ⟨Step.refl, so2, dp_mono x2 dv⟩
      | tuple ys =>
        have e1 := some_inj hx
        subst e1
        cases r with
        | @tup a vs _ s da =>
          refine .inr ⟨a, rfl, .inr ⟨⟨_, ex_t hide_ex s⟩, fun xt2 ad2 H2 S2 _ x2 so2 _ i => ⟨fun x e => ?_, fun hi => ⟨_, ex_t hide_ex (ex_t x2 s), by rw [dpa_len da]; exact hi⟩⟩⟩⟩
          obtain ⟨v, hv, dv⟩ := dpa_get da e
          refine ⟨⟨_, v, ex_t hide_ex (ex_t x2 s), hv⟩, fun v2 H3 hy => ?_⟩
          obtain ⟨e3, hy⟩ := hy
          subst e3
          have := hy _ (ex_t hide_ex (ex_t x2 s))
          rw [hv] at this
          cases this
          exact ⟨Step.refl, so2, dp_mono x2 dv⟩
      | _ => cases hx
    · cases h
  · rename_i n
    split at h
    · rename_i xs hn
      cases h
      refine ⟨rfl, ?_⟩
      obtain ⟨a, e1, e2⟩ := r
      obtain ⟨a', e3, vs, e4, da⟩ := so.at' n _ hn
      rw [e1] at e3
      cases e3
      have key : ∀ {xt2 ad2 : List Addr} {H2 : Hp} {S2 : Sto}, (∃ more, ad2 = ad ++ more) → StOk K T xt2 ad2 S2 H2 → Its.still (some n) xs S2 → ∃ ws, H2 a = some (.lst ws) ∧ DpAll K (hide xt2 ad2 H2) ws xs := fun {xt2 ad2 H2 S2} hm so2 hst => by
        obtain ⟨m, em⟩ := hm
        obtain ⟨a2, e5, ws, e6, da2⟩ := so2.at' n _ hst
        rw [em, List.getElem?_append_left (List.getElem?_eq_some_iff.mp e1).1, e1] at e5
        cases e5
        exact ⟨ws, e6, da2⟩
      refine .inr ⟨a, e2, .inl ⟨⟨vs, SqL.of e4⟩, fun xt2 ad2 H2 S2 hm x2 so2 hst i => ⟨fun x e => ?_, fun hi => ?_⟩⟩⟩
      · obtain ⟨ws, e6, da2⟩ := key hm so2 hst
        obtain ⟨v, hv, dv⟩ := dpa_get da2 e
        refine ⟨⟨_, v, SqL.of e6, hv⟩, fun v2 H3 hy => ?_⟩
        obtain ⟨e3, hy⟩ := hy
        subst e3
        have := hy _ (SqL.of e6)
        rw [hv] at this
        cases this
        exact ⟨Step.refl, so2, dv⟩
      · obtain ⟨ws, e6, da2⟩ := key hm so2 hst
        exact ⟨ws, SqL.of e6, by rw [dpa_len da2]; exact hi⟩
    · cases h
theorem range_it {K : PySem.W.Frag} {xt ad : List Addr} {H : Hp} {lo : Int} {n : Nat} : ItD K T xt ad H (Itr lo n) ⟨rangeD lo n, none⟩ := fun xt2 ad2 H2 S2 _ x2 so2 _ i => by
  have hl : (rangeD lo n).length = n := by unfold rangeD; rw [List.length_map, List.length_range]
  refine ⟨fun x e => ?_, fun hi => by show n ≤ i; rw [← hl]; exact hi⟩
  have hi : i < n := by rw [← hl]; exact (List.getElem?_eq_some_iff.mp e).1
  refine ⟨hi, fun v H3 hy => ?_⟩
  obtain ⟨e3, e4⟩ := hy
  subst e3 e4
  refine ⟨Step.refl, so2, ?_⟩
  have : (rangeD lo n)[i]? = some (.int (lo + (i : Int))) := by
    unfold rangeD
    rw [List.getElem?_map, List.getElem?_range hi]
    rfl
  have e' : some x = some (PyData.int (lo + (i : Int))) := e.symm.trans this
  cases e'
  exact .int _
theorem some_eq {α : Type} {a b : α} {o : Option α} (h1 : o = some a) (h2 : o = some b) : a = b := by
  rw [h1] at h2
  cases h2
  rfl
theorem dpa_getv {K : PySem.W.Frag} {G : Hp} {vs : List V} {xs : List PyData} {i : Nat} {v : V} (h : DpAll K G vs xs) (e : vs[i]? = some v) : ∃ x, xs[i]? = some x ∧ Dp K G v x := by
  have hl := dpa_len h
  have hi : i < xs.length := by
    rw [← hl]
    exact (List.getElem?_eq_some_iff.mp e).1
  obtain ⟨v', e1, d⟩ := dpa_get h (List.getElem?_eq_getElem hi)
  rw [e] at e1
  cases e1
  exact ⟨_, List.getElem?_eq_getElem hi, d⟩
/-- two of a kind, walked together -/
theorem zip_get {xs ys : List PyData} {i : Nat} {p : PyData} (e : ((xs.zip ys).map fun p => PyData.tuple [p.1, p.2])[i]? = some p) : ∃ x y, xs[i]? = some x ∧ ys[i]? = some y ∧ p = .tuple [x, y] := by
  rw [List.getElem?_map, Option.map_eq_some_iff] at e
  obtain ⟨⟨x, y⟩, e1, e2⟩ := e
  rw [List.getElem?_zip_eq_some] at e1
  exact ⟨x, y, e1.1, e1.2, e2.symm⟩
theorem zip_itL {K : PySem.W.Frag} {xt ad : List Addr} {H : Hp} {a b : Addr} {vs ws : List V} {xs ys : List PyData} (ha : SqL K (hide xt ad H) a vs) (hb : SqL K (hide xt ad H) b ws) (da : DpAll K (hide xt ad H) vs xs) (db : DpAll K (hide xt ad H) ws ys) :
    ItD K T xt ad H (Itz K a b) ⟨(xs.zip ys).map fun p => .tuple [p.1, p.2], none⟩ := fun xt2 ad2 H2 S2 _ x2 so2 _ i => by
  have ha2 := ex_l (hide_ex (xt := xt2) (ad := ad2) (H := H2)) (ex_l x2 ha)
  have hb2 := ex_l (hide_ex (xt := xt2) (ad := ad2) (H := H2)) (ex_l x2 hb)
  refine ⟨fun p e => ?_, fun hi => ?_⟩
  · obtain ⟨x, y, e1, e2, rfl⟩ := zip_get e
    obtain ⟨v, f1, d1⟩ := dpa_get da e1
    obtain ⟨w, f2, d2⟩ := dpa_get db e2
    refine ⟨⟨vs, ws, v, w, ha2, hb2, f1, f2⟩, fun u H3 hy => ?_⟩
    obtain ⟨T, v', w', rfl, hT, rfl, g1, g2⟩ := hy
    have z1 := some_eq f1 (g1 vs ha2)
    have z2 := some_eq f2 (g2 ws hb2)
    subst z1 z2
    exact new_tup so2 hT (.cons (dp_mono x2 d1) (.cons (dp_mono x2 d2) .nil))
  · refine ⟨vs, ws, ha2, hb2, ?_⟩
    have hi' : ((xs.zip ys).map fun p => PyData.tuple [p.1, p.2]).length ≤ i := hi
    rw [List.length_map, List.length_zip] at hi'
    rw [dpa_len da, dpa_len db]
    omega
theorem zip_itT {K : PySem.W.Frag} {xt ad : List Addr} {H : Hp} {a b : Addr} {vs ws : List V} {xs ys : List PyData} (ha : SqT K (hide xt ad H) a vs) (hb : SqT K (hide xt ad H) b ws) (da : DpAll K (hide xt ad H) vs xs) (db : DpAll K (hide xt ad H) ws ys) :
    ItD K T xt ad H (RZ.ItzT K a b) ⟨(xs.zip ys).map fun p => .tuple [p.1, p.2], none⟩ := fun xt2 ad2 H2 S2 _ x2 so2 _ i => by
  have ha2 := ex_t (hide_ex (xt := xt2) (ad := ad2) (H := H2)) (ex_t x2 ha)
  have hb2 := ex_t (hide_ex (xt := xt2) (ad := ad2) (H := H2)) (ex_t x2 hb)
  refine ⟨fun p e => ?_, fun hi => ?_⟩
  · obtain ⟨x, y, e1, e2, rfl⟩ := zip_get e
    obtain ⟨v, f1, d1⟩ := dpa_get da e1
    obtain ⟨w, f2, d2⟩ := dpa_get db e2
    refine ⟨⟨vs, ws, v, w, ha2, hb2, f1, f2⟩, fun u H3 hy => ?_⟩
    obtain ⟨T, v', w', rfl, hT, rfl, g1, g2⟩ := hy
    have z1 := some_eq f1 (g1 vs ha2)
    have z2 := some_eq f2 (g2 ws hb2)
    subst z1 z2
    exact new_tup so2 hT (.cons (dp_mono x2 d1) (.cons (dp_mono x2 d2) .nil))
  · refine ⟨vs, ws, ha2, hb2, ?_⟩
    have hi' : ((xs.zip ys).map fun p => PyData.tuple [p.1, p.2]).length ≤ i := hi
    rw [List.length_map, List.length_zip] at hi'
    rw [dpa_len da, dpa_len db]
    omega
theorem keys_some : ∀ {ks : List Str} {keys : List (Option Expr)}, keysB ks keys = true → keys.all (·.isSome) = true
  | [], [], _ => rfl
  | k :: ks, e :: es, h => by
    simp only [keysB, Bool.and_eq_true] at h
    rw [List.all_cons, keys_some h.2]
    have := h.1
    cases e with
    | none => simp [keyB] at this
    | some e => rfl
  | [], _ :: _, h => by simp [keysB] at h
  | _ :: _, [], h => by simp [keysB] at h
theorem key_of_B {k : Str} {e : Option Expr} (h : keyB k e = true) : ∃ n p, e = some (.Constant (.str k) n p) := by
  unfold keyB at h
  split at h
  · rename_i x n p
    have := of_decide_eq_true h
    subst this
    exact ⟨n, p, rfl⟩
  · cases h
theorem kv_pairs : ∀ (ks : List Str) (vs : List V), (ks.map V.str).zip vs = ((ks.map Sum.inr).zip vs).map (fun kv => (L2.kV kv.1, kv.2))
  | [], _ => rfl
  | k :: ks, [] => rfl
  | k :: ks, v :: vs => by
    have := kv_pairs ks vs
    simp only [List.map_cons, List.zip_cons_cons, this]
    rfl
theorem seqI_err {e : E} {S : Sto} {x : Exn} {g : Gm} {s' : Sto} (h : seqI e S = .err x g s') : False := by
  unfold seqI at h
  split at h
  · cases h
  · split at h <;> cases h
  · split at h <;> cases h
theorem okI_of {sc : Scope} {c : CI} {t e : Expr} (h : chkI G N sc c t e = true) : okE e = true := by
  unfold chkI at h
  split at h
  · rw [Bool.and_eq_true] at h
    exact h.1
  · rfl
  · rfl
  · rfl
  · cases h
theorem inv_blt {sc : Scope} {b : Blt} {es : CEs} {e : Expr} (h : chkE G N sc (.blt b es) e = true) :
    ∃ x p a as pos, e = .Call (.Name x p) (a :: as) [] pos ∧ (glB sc x && G.blts.contains x && decide (x = bltN b) && chkEs G N sc es (a :: as)) = true := by
  cases e with
  | Call fe as kws pos =>
    cases fe with
    | Name x p =>
      cases as with
      | nil => simp [chkE] at h
      | cons a as =>
        cases kws with
        | nil => exact ⟨_, _, _, _, _, rfl, by simpa only [chkE] using h⟩
        | cons k kws => simp [chkE] at h
    | _ => simp [chkE] at h
  | _ => simp [chkE] at h
theorem inv_isi {sc : Scope} {a : CE} {t : Cty} {e : Expr} (h : chkE G N sc (.isi a t) e = true) :
    ∃ x p y z pz pos, e = .Call (.Name x p) [y, .Name z pz] [] pos ∧ (decide (x = "isinstance") && glB sc x && G.blts.contains x && decide (z = ctyN t) && glB sc z && G.blts.contains z && okE y && chkE G N sc a y) = true := by
  cases e with
  | Call fe as kws pos =>
    cases fe with
    | Name x p =>
      match as, kws, h with
      | [y, .Name z pz], [], h => exact ⟨x, p, y, z, pz, pos, rfl, by simpa only [chkE] using h⟩
      | [], _, h => simp [chkE] at h
      | [_], _, h => simp [chkE] at h
      | [_, .Name _ _], _ :: _, h => simp [chkE] at h
      | [_, z], kws, h =>
        cases z with
        | Name z pz =>
          cases kws with
          | nil => exact ⟨x, p, _, z, pz, pos, rfl, by simpa only [chkE] using h⟩
          | cons k kws => simp [chkE] at h
        | _ => simp [chkE] at h
      | _ :: _ :: _ :: _, _, h => simp [chkE] at h
    | _ => simp [chkE] at h
  | _ => simp [chkE] at h
theorem inv_pop {sc : Scope} {c1 : CE} {e : Expr} (h : chkE G N sc (.pop c1) e = true) :
    ∃ x p apos cpos, e = .Call (.Attribute (.Name x p) "pop" apos) [] [] cpos ∧ ((apos.endLine == cpos.line) && chkE G N sc c1 (.Name x p)) = true := by
  cases e with
  | Call fe as kws pos =>
    cases fe with
    | Attribute v nm apos =>
      cases v with
      | Name x p =>
        match as, kws, h with
        | [], [], h =>
          simp only [chkE, Bool.and_eq_true, decide_eq_true_eq] at h
          obtain ⟨⟨h1, h2⟩, h3⟩ := h
          subst h1
          exact ⟨x, p, apos, pos, rfl, by simp only [Bool.and_eq_true]; exact ⟨h2, h3⟩⟩
        | [], _ :: _, h => simp [chkE] at h
        | _ :: _, _, h => simp [chkE] at h
      | _ => simp [chkE] at h
    | _ => simp [chkE] at h
  | _ => simp [chkE] at h
theorem inv_popi {sc : Scope} {c1 c2 : CE} {e : Expr} (h : chkE G N sc (.popi c1 c2) e = true) :
    ∃ x p apos a cpos, e = .Call (.Attribute (.Name x p) "pop" apos) [a] [] cpos ∧ ((apos.endLine == cpos.line) && okE a && chkE G N sc c1 (.Name x p) && chkE G N sc c2 a) = true := by
  cases e with
  | Call fe as kws pos =>
    cases fe with
    | Attribute v nm apos =>
      cases v with
      | Name x p =>
        match as, kws, h with
        | [a], [], h =>
          simp only [chkE, Bool.and_eq_true, decide_eq_true_eq] at h
          obtain ⟨⟨⟨⟨h1, h2⟩, h3⟩, h4⟩, h5⟩ := h
          subst h1
          exact ⟨x, p, apos, a, pos, rfl, by simp only [Bool.and_eq_true]; exact ⟨⟨⟨h2, h3⟩, h4⟩, h5⟩⟩
        | [], _, h => simp [chkE] at h
        | [_], _ :: _, h => simp [chkE] at h
        | _ :: _ :: _, _, h => simp [chkE] at h
      | _ => simp [chkE] at h
    | _ => simp [chkE] at h
  | _ => simp [chkE] at h
theorem inv_call {sc : Scope} {f : Nat} {es : CEs} {e : Expr} (h : chkE G N sc (.call f es) e = true) :
    (∃ x p pos, es = .nil ∧ e = .Call (.Name x p) [] [] pos ∧ (glB sc x && decide (G.fns[f]? = some x)) = true) ∨
    ∃ x p a as pos, e = .Call (.Name x p) (a :: as) [] pos ∧ (glB sc x && decide (G.fns[f]? = some x) && chkEs G N sc es (a :: as)) = true := by
  cases e with
  | Call fe as kws pos =>
    cases fe with
    | Name x p =>
      cases as with
      | nil =>
        cases es with
        | nil =>
          cases kws with
          | nil => exact .inl ⟨_, _, _, rfl, rfl, by simpa only [chkE] using h⟩
          | cons k kws => simp [chkE] at h
        | cons a b => cases kws <;> simp [chkE] at h
      | cons a as =>
        cases kws with
        | nil =>
          refine .inr ⟨_, _, _, _, _, rfl, ?_⟩
          cases es <;> simpa only [chkE] using h
        | cons k kws => cases es <;> simp [chkE] at h
    | _ => cases es <;> simp [chkE] at h
  | _ => cases es <;> simp [chkE] at h
theorem inv_app {sc : Scope} {c1 c2 : CE} {e : Expr} (h : chkE G N sc (.app c1 c2) e = true) :
    ∃ x p apos a cpos, e = .Call (.Attribute (.Name x p) "append" apos) [a] [] cpos ∧ ((apos.endLine == cpos.line) && okE a && chkE G N sc c1 (.Name x p) && chkE G N sc c2 a) = true := by
  cases e with
  | Call fe as kws pos =>
    cases fe with
    | Attribute v nm apos =>
      cases v with
      | Name x p =>
        cases as with
        | nil => simp [chkE] at h
        | cons a as =>
          cases as with
          | nil =>
            cases kws with
            | nil =>
              simp only [chkE, Bool.and_eq_true, decide_eq_true_eq] at h
              obtain ⟨⟨⟨⟨h1, h2⟩, h3⟩, h4⟩, h5⟩ := h
              subst h1
              exact ⟨x, p, apos, a, pos, rfl, by simp only [Bool.and_eq_true]; exact ⟨⟨⟨h2, h3⟩, h4⟩, h5⟩⟩
            | cons k kws => simp [chkE] at h
          | cons a2 as => simp [chkE] at h
      | _ => simp [chkE] at h
    | _ => simp [chkE] at h
  | _ => simp [chkE] at h
theorem inv_ext {sc : Scope} {c1 c2 : CE} {e : Expr} (h : chkE G N sc (.ext c1 c2) e = true) :
    ∃ x p apos a cpos, e = .Call (.Attribute (.Name x p) "extend" apos) [a] [] cpos ∧ ((apos.endLine == cpos.line) && okE a && chkE G N sc c1 (.Name x p) && chkE G N sc c2 a) = true := by
  unfold chkE at h
  split at h <;> first | contradiction | skip
  all_goals (rename_i e1; cases e1)
  simp only [Bool.and_eq_true, decide_eq_true_eq] at h
  obtain ⟨⟨⟨⟨rfl, h2⟩, h3⟩, h4⟩, h5⟩ := h
  exact ⟨_, _, _, _, _, rfl, by simp only [Bool.and_eq_true]; exact ⟨⟨⟨h2, h3⟩, h4⟩, h5⟩⟩
theorem inv_dzip {sc : Scope} {a b : CE} {e : Expr} (h : chkE G N sc (.dzip a b) e = true) :
    ∃ p p2 u v pos pos2, e = .Call (.Name "dict" p) [.Call (.Name "zip" p2) [u, v] [] pos2] [] pos ∧ glB sc "dict" = true ∧ G.blts.contains "dict" = true ∧ glB sc "zip" = true ∧ G.blts.contains "zip" = true ∧ okE u = true ∧ okE v = true ∧ chkE G N sc a u = true ∧ chkE G N sc b v = true := by
  unfold chkE at h
  split at h <;> first | contradiction | skip
  all_goals (rename_i e1; cases e1)
  simp only [Bool.and_eq_true, decide_eq_true_eq] at h
  obtain ⟨⟨⟨⟨⟨⟨⟨⟨⟨rfl, h1⟩, h2⟩, rfl⟩, h3⟩, h4⟩, h5⟩, h6⟩, h7⟩, h8⟩ := h
  exact ⟨_, _, _, _, _, _, rfl, h1, h2, h3, h4, h5, h6, h7, h8⟩
theorem inv_rev {sc : Scope} {a : CE} {e : Expr} (h : chkE G N sc (.rev a) e = true) :
    ∃ x k p1 p2 p3 pos, e = .Subscript x (.Slice none none (some (.UnaryOp .USub (.Constant (.int 1) k p1) p2)) p3) pos ∧ chkE G N sc a x = true := by
  unfold chkE at h
  split at h <;> first | contradiction | skip
  all_goals (rename_i e1; cases e1)
  simp only [Bool.and_eq_true, decide_eq_true_eq] at h
  obtain ⟨rfl, h1⟩ := h
  exact ⟨_, _, _, _, _, _, rfl, h1⟩
theorem mergeK_put {K : PySem.W.Frag} {Gh : Hp} {v : V} {d : PyData} {k : Str} (hd : Dp K Gh v d) {ws : List (Key × V)} {kvs : List (Str × PyData)} (r : KvOk K Gh ws kvs) : KvOk K Gh (L2.putK ws (.inr k) v) (insS kvs k d) := by
  unfold L2.putK insS
  by_cases hk : (kvs.lookup k).isSome = true
  · rw [if_pos (kv_some r hk), if_pos hk]
    exact kv_put hd r
  · have hn : (kvs.lookup k).isNone = true := by
      cases e : kvs.lookup k with
      | none => rfl
      | some x => exact absurd (by rw [e]; rfl) hk
    have hz : ¬ (ws.any fun kv => decide (kv.1 = (.inr k : Key))) = true := by
      intro z
      obtain ⟨p, hp, e⟩ := List.any_eq_true.mp z
      exact kv_new r hn p hp (of_decide_eq_true e)
    rw [if_neg hz, if_neg hk]
    exact kv_app hd r
theorem mergeK_all {K : PySem.W.Frag} {Gh : Hp} : ∀ {ks : List Str} {vs : List V} {ds : List PyData} {ws : List (Key × V)} {kvs : List (Str × PyData)}, DpAll K Gh vs ds → KvOk K Gh ws kvs → KvOk K Gh (mergeK ws ((ks.map Sum.inr).zip vs)) (mergeS kvs (ks.zip ds))
  | [], _, _, _, _, _, r => r
  | k :: ks, _, _, _, _, .nil, r => r
  | k :: ks, _, _, _, _, .cons h t, r => mergeK_all (ks := ks) t (mergeK_put h r)
theorem strs_of {K : PySem.W.Frag} {Gh : Hp} : ∀ {vs : List V} {xs : List PyData} {ks : List Str}, DpAll K Gh vs xs → strsOf xs = some ks → vs = (ks.map (Sum.inr : Str → Key)).map kV
  | _, _, _, .nil, e => by
    have e' : some [] = some _ := e
    cases e'
    rfl
  | _, _, _, .cons (.str i) t, e => by
    simp only [strsOf, Option.map_eq_some_iff] at e
    obtain ⟨r, e1, e2⟩ := e
    subst e2
    rw [strs_of t e1]
    rfl
  | _, _, _, .cons .non t, e => by simp [strsOf] at e
  | _, _, _, .cons (.bl b) t, e => by simp [strsOf] at e
  | _, _, _, .cons (.int b) t, e => by simp [strsOf] at e
  | _, _, _, .cons (.lst _ _) t, e => by simp [strsOf] at e
  | _, _, _, .cons (.tup _ _) t, e => by simp [strsOf] at e
theorem row_pk {K : PySem.W.Frag} {xt ad : List Addr} {H : Hp} {v : V} {x : PyData} {xs : List PyData} (p : Pk K xt ad H v x) (h : seqOf x = some xs) : ∃ a vs, v = .ref a ∧ ZG.Row K H a vs ∧ DpAll K (hide xt ad H) vs xs := by
  cases x with
  | list ys =>
    have e := some_inj h
    subst e
    obtain ⟨a, vs, e1, e2, e3⟩ := p.list
    exact ⟨a, vs, e1, .inl e2, e3⟩
  | tuple ys =>
    have e := some_inj h
    subst e
    obtain ⟨a, vs, e1, e2, e3, _⟩ := p.tuple
    exact ⟨a, vs, e1, .inr e2, e3⟩
  | _ => cases h
theorem ext_snd {X : Cx} {H : Hp} {xt ad : List Addr} {S : Sto} {x y : E} {v w : V} {Q : VK} {W : WX} (so : StOk X.K T xt ad S H) (rx : RdE X.K xt ad H v x) (ry : RdE X.K xt ad H w y) (po : Post X.K T W xt ad H (RdE X.K xt) (extE x y S) Q) : ZG.rExtA X.K v [w] H Q := by
  unfold extE at po
  split at po
  · rename_i n d
    split at po
    · rename_i xs ys hn hy
      split at po
      · rename_i hz
        obtain ⟨a, e1, e2⟩ := rx
        obtain ⟨a', e3, vs, e4, da⟩ := so.at' n _ hn
        rw [e1] at e3
        cases e3
        subst e2
        obtain ⟨b, ws, e5, rw2, db⟩ := row_pk (.inl ry) hy
        subst e5
        refine ⟨a, b, vs, ws, rfl, rfl, e4, rw2, by rw [dpa_len da, dpa_len db]; exact hz, ?_⟩
        have hp : a ∈ ad := List.mem_of_getElem? e1
        obtain ⟨st, so1⟩ := step_set (o := .lst (vs ++ ws)) (c := .lst (xs ++ ys)) so e1 (by rw [hn]; intro _ z; cases z) ⟨_, upd_same, by rw [hide_upd (.inr hp)]; exact dpa_app da db⟩
        exact po .non ad _ st so1 .non
      · exact po.elim
    · exact po.elim
  · exact po.elim
theorem dz_snd {X : Cx} {H : Hp} {xt ad : List Addr} {S : Sto} {x y : E} {v w : V} {Q : VK} {W : WX} (so : StOk X.K T xt ad S H) (rx : RdE X.K xt ad H v x) (ry : RdE X.K xt ad H w y) (po : Post X.K T W xt ad H (RdE X.K xt) (dzE x y S) Q) :
    ∃ (a b : Addr) (ks : List Key) (ys : List V), [v, w] = [.ref a, .ref b] ∧ ZG.Row X.K H a (ks.map kV) ∧ ZG.Row X.K H b ys ∧ ∀ p, H p = none → Q (.ref p) (upd H p (.dK (mergeK [] (ks.zip ys)))) := by
  unfold dzE at po
  split at po
  · rename_i d e p1 p2
    split at po
    · rename_i xs ys q1 q2
      split at po
      · rename_i ks hk
        obtain ⟨a, vs, ea, ra, da⟩ := row_pk (pk_of so rx p1) q1
        obtain ⟨b, ws, eb, rb, db⟩ := row_pk (pk_of so ry p2) q2
        subst ea eb
        have ev := strs_of da hk
        subst ev
        refine ⟨a, b, ks.map Sum.inr, ws, rfl, ra, rb, fun p hp => ?_⟩
        obtain ⟨st, so1⟩ := step_cell (o := .dK (mergeK [] ((ks.map Sum.inr).zip ws))) (c := .dct (mergeS [] (ks.zip ys))) so hp ⟨_, upd_same, mergeK_all (dpa_mono (hide_new hp) db) .nil⟩
        refine po _ _ _ st so1 ⟨p, ?_, rfl⟩
        rw [← so.len]
        simp
      · exact po.elim
    · exact po.elim
  · exact po.elim
theorem inv_lc {sc : Scope} {elt : CE} {tg : CT} {it : CI} {ts : CO} {own : List Nat} {e : Expr} (h : chkE G N sc (.lc elt tg it ts own) e = true) :
    ∃ e' t i ifs scope pos, e = .ListComp e' [⟨t, i, ifs, 0⟩] scope pos ∧ (blkC N sc scope (ownL N own) && chkI G N sc it t i && chkT N (relS scope sc) (fun x => scope.names.lookup x == some .cell) tg t &&
      subT own tg && chkC G N (relS scope sc) ts ifs && chkE G N (relS scope sc) elt e') = true := by
  cases e with
  | ListComp e' gs scope pos =>
    match gs, h with
    | [], h => simp [chkE] at h
    | _ :: _ :: _, h => simp [chkE] at h
    | [⟨t, i, ifs, z⟩], h =>
      simp only [chkE, Bool.and_eq_true, decide_eq_true_eq] at h
      obtain ⟨⟨⟨⟨⟨⟨h0, h1⟩, h2⟩, h3⟩, h4⟩, h5⟩, h6⟩ := h
      subst h0
      exact ⟨e', t, i, ifs, scope, pos, rfl, by simp only [Bool.and_eq_true]; exact ⟨⟨⟨⟨⟨h1, h2⟩, h3⟩, h4⟩, h5⟩, h6⟩⟩
  | _ => simp [chkE] at h
theorem inv_lc2 {sc : Scope} {elt : CE} {tg : CT} {it : CI} {ts : CO} {own : List Nat} {tg1 : CT} {it1 : CI} {ts1 : CO} {own1 : List Nat} {e : Expr} (h : chkE G N sc (.lc2 elt tg it ts own tg1 it1 ts1 own1) e = true) :
    ∃ e' t i ifs t1 i1 ifs1 scope pos, e = .ListComp e' [⟨t, i, ifs, 0⟩, ⟨t1, i1, ifs1, 0⟩] scope pos ∧ (blkC N sc scope (ownL N own) && (own1.all fun k => own.contains k) && chkI G N sc it t i && chkT N (relS scope sc) (fun x => scope.names.lookup x == some .cell) tg t &&
      subT own tg && chkC G N (relS scope sc) ts ifs && chkI G N (relS scope sc) it1 t1 i1 && chkT N (relS scope sc) (fun x => scope.names.lookup x == some .cell) tg1 t1 && subT own1 tg1 && chkC G N (relS scope sc) ts1 ifs1 && chkE G N (relS scope sc) elt e') = true := by
  cases e with
  | ListComp e' gs scope pos =>
    match gs, h with
    | [], h => simp [chkE] at h
    | [_], h => simp [chkE] at h
    | _ :: _ :: _ :: _, h => simp [chkE] at h
    | [⟨t, i, ifs, z⟩, ⟨t1, i1, ifs1, z1⟩], h =>
      unfold chkE at h
      rw [Bool.and_eq_true, Bool.and_eq_true, decide_eq_true_eq, decide_eq_true_eq] at h
      obtain ⟨⟨h0, h01⟩, h1⟩ := h
      subst h0
      subst h01
      exact ⟨e', t, i, ifs, t1, i1, ifs1, scope, pos, rfl, h1⟩
  | _ => simp [chkE] at h
theorem inv_mlc {sc : Scope} {elt : CE} {tg : CT} {it : CI} {ts : CO} {own : List Nat} {e : Expr} (h : chkM0' G N sc (.lc elt tg it ts own) e = true) :
    ∃ e' t i ifs scope pos, e = .ListComp e' [⟨t, i, ifs, 0⟩] scope pos ∧ (blkC N sc scope (ownL N own) && chkI G N sc it t i && chkT N (relS scope sc) (fun x => scope.names.lookup x == some .cell) tg t &&
      subT own tg && chkC G N (relS scope sc) ts ifs && chkE G N (relS scope sc) elt e') = true := by
  unfold chkM0' at h
  split at h <;> first | contradiction | skip
  all_goals (rename_i e1; cases e1)
  rw [Bool.and_eq_true, decide_eq_true_eq] at h
  obtain ⟨h0, h1⟩ := h
  subst h0
  exact ⟨_, _, _, _, _, _, rfl, h1⟩
theorem inv_cmp {sc : Scope} {op : CmpOp} {a b : CE} {e : Expr} (h : chkE G N sc (.cmp op a b) e = true) :
    ∃ x y pos, e = .Compare x [op] [y] pos ∧ (okE y && chkE G N sc a x && chkE G N sc b y) = true := by
  cases e with
  | Compare x ops ys pos =>
    match ops, ys, h with
    | [op'], [y], h =>
      simp only [chkE, Bool.and_eq_true, decide_eq_true_eq] at h
      obtain ⟨⟨⟨h1, h2⟩, h3⟩, h4⟩ := h
      subst h1
      exact ⟨x, y, pos, rfl, by simp only [Bool.and_eq_true]; exact ⟨⟨h2, h3⟩, h4⟩⟩
    | [], _, h => simp [chkE] at h
    | [_], [], h => simp [chkE] at h
    | [_], _ :: _ :: _, h => simp [chkE] at h
    | _ :: _ :: _, _, h => simp [chkE] at h
  | _ => simp [chkE] at h
theorem inv_chain {sc : Scope} {op op' : CmpOp} {a b c : CE} {e : Expr} (h : chkE G N sc (.chain op op' a b c) e = true) :
    ∃ x y z pos, e = .Compare x [op, op'] [y, z] pos ∧ (okE y && okE z && chkE G N sc a x && chkE G N sc b y && chkE G N sc c z) = true := by
  cases e with
  | Compare x ops ys pos =>
    match ops, ys, h with
    | [o1, o2], [y, z], h =>
      simp only [chkE, Bool.and_eq_true, decide_eq_true_eq] at h
      obtain ⟨⟨⟨⟨⟨⟨h1, h2⟩, h3⟩, h4⟩, h5⟩, h6⟩, h7⟩ := h
      subst h1 h2
      exact ⟨x, y, z, pos, rfl, by simp only [Bool.and_eq_true]; exact ⟨⟨⟨⟨h3, h4⟩, h5⟩, h6⟩, h7⟩⟩
    | [], _, h => simp [chkE] at h
    | [_], _, h => simp [chkE] at h
    | [_, _], [], h => simp [chkE] at h
    | [_, _], [_], h => simp [chkE] at h
    | [_, _], _ :: _ :: _ :: _, h => simp [chkE] at h
    | _ :: _ :: _ :: _, _, h => simp [chkE] at h
  | _ => simp [chkE] at h
theorem inv_rng1 {sc : Scope} {a : CE} {t e : Expr} (h : chkI G N sc (.rng1 a) t e = true) :
    ∃ x p y pos, e = .Call (.Name x p) [y] [] pos ∧ (decide (x = "range") && glB sc x && G.blts.contains x && okE y && chkE G N sc a y) = true := by
  cases e with
  | Call fe as kws pos =>
    cases fe with
    | Name x p =>
      match as, kws, h with
      | [y], [], h => exact ⟨x, p, y, pos, rfl, by simpa only [chkI] using h⟩
      | [], _, h => simp [chkI] at h
      | [_], _ :: _, h => simp [chkI] at h
      | _ :: _ :: _, _, h => simp [chkI] at h
    | _ => simp [chkI] at h
  | _ => simp [chkI] at h
theorem inv_rng2 {sc : Scope} {a b : CE} {t e : Expr} (h : chkI G N sc (.rng2 a b) t e = true) :
    ∃ x p y z pos, e = .Call (.Name x p) [y, z] [] pos ∧ (decide (x = "range") && glB sc x && G.blts.contains x && okE y && okE z && chkE G N sc a y && chkE G N sc b z) = true := by
  cases e with
  | Call fe as kws pos =>
    cases fe with
    | Name x p =>
      match as, kws, h with
      | [y, z], [], h => exact ⟨x, p, y, z, pos, rfl, by simpa only [chkI] using h⟩
      | [], _, h => simp [chkI] at h
      | [_], _, h => simp [chkI] at h
      | [_, _], _ :: _, h => simp [chkI] at h
      | _ :: _ :: _ :: _, _, h => simp [chkI] at h
    | _ => simp [chkI] at h
  | _ => simp [chkI] at h
theorem inv_zip {sc : Scope} {a b : CE} {t e : Expr} (h : chkI G N sc (.zip a b) t e = true) :
    ∃ es k tp x p y z pos, t = .Tuple es k tp ∧ e = .Call (.Name x p) [y, z] [] pos ∧ (decide (x = "zip") && glB sc x && G.blts.contains x && okE y && okE z && chkE G N sc a y && chkE G N sc b z) = true := by
  cases t with
  | Tuple es k tp =>
    cases e with
    | Call fe as kws pos =>
      cases fe with
      | Name x p =>
        match as, kws, h with
        | [y, z], [], h => exact ⟨es, k, tp, x, p, y, z, pos, rfl, rfl, by simpa only [chkI] using h⟩
        | [], _, h => simp [chkI] at h
        | [_], _, h => simp [chkI] at h
        | [_, _], _ :: _, h => simp [chkI] at h
        | _ :: _ :: _ :: _, _, h => simp [chkI] at h
      | _ => simp [chkI] at h
    | _ => simp [chkI] at h
  | _ => simp [chkI] at h
theorem inv_lam {sc : Scope} {L : LD} {c : CE} {e : Expr} (h : chkE G N sc (.lam L c) e = true) : ∃ x p ps b scope lpos pos Nl st, e = .Call (.Name x p) [.Lambda ps b scope lpos] [] pos ∧ glB sc x = true ∧ noArgs ps = true ∧ LamX.lamSB sc scope = true ∧ chkE G.bare N scope c b = true ∧
    L.B = G.lv ∧ G.lams[L.k]? = some (x, Nl, st) ∧ chkLD G Nl (defScope st) L.i L.j L (defBody st) = true := by
  unfold chkE at h
  split at h <;> first | contradiction | skip
  all_goals (rename_i e1; cases e1)
  simp only [Bool.and_eq_true] at h
  obtain ⟨⟨⟨⟨h1, h2⟩, h3⟩, h4⟩, h5⟩ := h
  split at h5
  · rename_i y Nl st hL
    simp only [Bool.and_eq_true, decide_eq_true_eq] at h5
    obtain ⟨⟨hB, rfl⟩, h6⟩ := h5
    exact ⟨_, _, _, _, _, _, _, _, _, rfl, h1, h2, h3, h4, hB, hL, h6⟩
  · cases h5
/-- a new list, hidden, becomes a thing of the store -/
theorem mk_new {X : Cx} {xt ad : List Addr} {H : Hp} {S : Sto} {W : WX} {Q : VK} {vs : List V} {xs : List PyData} {p : Addr} (so : StOk X.K T xt ad S H) (hp : H p = none) (da : DpAll X.K (hide xt ad H) vs xs)
    (po : Post X.K T W xt ad H (RdE X.K xt) (.ok (.c S.length) (S ++ [.lst xs])) Q) : Q (.ref p) (upd H p (.lst vs)) := by
  obtain ⟨st, so1⟩ := step_cell (o := .lst vs) (c := .lst xs) so hp ⟨_, upd_same, dpa_mono (hide_new hp) da⟩
  refine po _ _ _ st so1 ⟨p, ?_, rfl⟩
  rw [← so.len]
  simp
mutual
theorem sndE : ∀ (c : CE) {G : Gt} {X : Cx} {W : WX} {sc : Scope} {e : Expr}, XOk T P G N X W sc → chkE G N sc c e = true → PE X e (tE X.K T W P c)
  | .var i, G, X, W, sc, e, o, h => by
    cases e with
    | Name x pos =>
      simp only [chkE, nameOk, Bool.and_eq_true, decide_eq_true_eq] at h
      obtain ⟨⟨⟨h1, h2⟩, h3⟩, h4⟩ := h
      refine pe_imp (pe_var (i := i) (by rw [o.nm]; exact h1) (by rw [o.sc]; exact vis_of h2) (by simpa using h3) (by simpa using h4)) fun σ H Q q => ?_
      obtain ⟨xt, ad, Γ, S, en, so, po⟩ := q
      simp only [ev] at po
      split at po
      · rename_i e he
        obtain ⟨v, h1, h2⟩ := en.2 i e he
        exact ⟨v, h1, po v ad H Step.refl so h2⟩
      · exact po.elim
    | _ => simp [chkE] at h
  | .con d, G, X, W, sc, e, o, h => by
    cases e with
    | Constant c k pos => exact con_snd (by simpa [chkE] using h)
    | _ => simp [chkE] at h
  | .glo k, G, X, W, sc, e, o, h => by
    cases e with
    | Name x pos =>
      simp only [chkE, Bool.and_eq_true, decide_eq_true_eq] at h
      obtain ⟨g1, g2, g3⟩ := gl_of o.sc h.1
      obtain ⟨d, u, v, h1, h2, h3, h4⟩ := o.con k x h.2
      refine pe_imp (pe_glob g1 h2 h3 g2) fun σ H Q q => ?_
      obtain ⟨xt, ad, Γ, S, en, so, po⟩ := q
      simp only [ev, h1] at po
      exact po v ad H Step.refl so (h4 _)
    | _ => simp [chkE] at h
  | .bin op a b, G, X, W, sc, e, o, h => by
    cases e with
    | BinOp x op' y pos =>
      simp only [chkE, Bool.and_eq_true, decide_eq_true_eq] at h
      obtain ⟨⟨h1, h2⟩, h3⟩ := h
      subst h1
      refine pe_imp (pe_op (op_binD (T := T) op) (sndE a o h2) (sndE b o h3)) fun σ H Q q => ?_
      obtain ⟨xt, ad, Γ, S, en, so, po⟩ := q
      simp only [ev] at po
      refine ⟨xt, ad, Γ, S, en, so, Post.bind po fun e1 S1 v1 ad1 H1 st1 so1 r1 po1 => ?_⟩
      refine ⟨xt, ad1, Γ, S1, envOk_step st1 en, so1, Post.bind po1 fun e2 S2 v2 ad2 H2 st2 so2 r2 po2 => ?_⟩
      obtain ⟨d, e, r, p1, p2, p3, k⟩ := opt2_post po2
      exact ⟨xt, ad2, S2, d, e, r, so2, pk_of so2 (rdE_step st2 r1) p1, pk_of so2 r2 p2, p3, fun z H' st so' dz => k z ad2 H' st so' dz⟩
    | _ => simp [chkE] at h
  | .neg a, G, X, W, sc, e, o, h => by
    cases e with
    | UnaryOp op x pos =>
      cases op with
      | USub =>
        simp only [chkE] at h
        refine pe_imp (pe_un un_neg (sndE a o h)) fun σ H Q q => ?_
        obtain ⟨xt, ad, Γ, S, en, so, po⟩ := q
        simp only [ev] at po
        refine ⟨xt, ad, Γ, S, en, so, Post.bind po fun e1 S1 v1 ad1 H1 st1 so1 r1 po1 => ?_⟩
        obtain ⟨d, r, p1, p3, k⟩ := opt1_post po1
        unfold negD at p3
        split at p3
        · rename_i i
          have er := some_inj p3
          subst er
          exact ⟨i, (pk_of so1 r1 p1).int, k _ ad1 H1 Step.refl so1 (.int _)⟩
        · cases p3
      | _ => simp [chkE] at h
    | _ => simp [chkE] at h
  | .cmp op a b, G, X, W, sc, e, o, h => by
    cases e with
    | Compare x ops ys pos =>
      match ops, ys, h with
      | [op'], [y], h =>
        simp only [chkE, Bool.and_eq_true, decide_eq_true_eq] at h
        obtain ⟨⟨⟨h1, h2⟩, h3⟩, h4⟩ := h
        subst h1
        refine pe_imp (pe_cmpR (op_cmpD o.units op) (sndE a o h3) (sndE b o h4) (marks_ok h2)) fun σ H Q q => ?_
        obtain ⟨xt, ad, Γ, S, en, so, po⟩ := q
        simp only [ev] at po
        refine ⟨xt, ad, Γ, S, en, so, Post.bind po fun e1 S1 v1 ad1 H1 st1 so1 r1 po1 => ?_⟩
        refine ⟨xt, ad1, Γ, S1, envOk_step st1 en, so1, Post.bind po1 fun e2 S2 v2 ad2 H2 st2 so2 r2 po2 => ?_⟩
        obtain ⟨d, e, r, p1, p2, p3, k⟩ := opt2_post po2
        obtain ⟨b, p4, p5⟩ := Option.map_eq_some_iff.mp p3
        subst p5
        exact ⟨xt, ad2, d, e, b, pk_of so2 (rdE_step st2 r1) p1, pk_of so2 r2 p2, p4, k _ ad2 H2 Step.refl so2 (.bl _)⟩
      | [], _, h => simp [chkE] at h
      | [_], [], h => simp [chkE] at h
      | [_], _ :: _ :: _, h => simp [chkE] at h
      | _ :: _ :: _, _, h => simp [chkE] at h
    | _ => simp [chkE] at h
  | .chain op1 op2 a b c, G, X, W, sc, e, o, h => by
    cases e with
    | Compare x ops ys pos =>
      match ops, ys, h with
      | [o1, o2], [y, z], h =>
        simp only [chkE, Bool.and_eq_true, decide_eq_true_eq] at h
        obtain ⟨⟨⟨⟨⟨⟨h1, h2⟩, h3⟩, h4⟩, h5⟩, h6⟩, h7⟩ := h
        subst h1 h2
        refine pe_imp (pe_chain (op_cmpD o.units op1) (op_cmpD o.units op2) (sndE a o h5) (sndE b o h6) (sndE c o h7) (chain_marks h4)) fun σ H Q q => ?_
        obtain ⟨xt, ad, Γ, S, en, so, po⟩ := q
        simp only [ev] at po
        refine ⟨xt, ad, Γ, S, en, so, Post.bind po fun e1 S1 v1 ad1 H1 st1 so1 r1 po1 => ?_⟩
        refine ⟨xt, ad1, Γ, S1, envOk_step st1 en, so1, Post.bind po1 fun e2 S2 v2 ad2 H2 st2 so2 r2 po2 => ?_⟩
        split at po2
        · rename_i d e p1 p2
          split at po2
          · rename_i p3
            refine ⟨xt, ad2, d, e, true, pk_of so2 (rdE_step st2 r1) p1, pk_of so2 r2 p2, p3, true, rfl, ?_⟩
            rw [if_pos rfl]
            refine ⟨xt, ad2, Γ, S2, envOk_step (st1.trans st2) en, so2, Post.bind po2 fun e3 S3 v3 ad3 H3 st3 so3 r3 po3 => ?_⟩
            obtain ⟨d', e', r, p1', p2', p3', k⟩ := opt2_post po3
            obtain ⟨b, p4, p5⟩ := Option.map_eq_some_iff.mp p3'
            subst p5
            exact ⟨xt, ad3, d', e', b, pk_of so3 (rdE_step st3 r2) p1', pk_of so3 r3 p2', p4, k _ ad3 H3 Step.refl so3 (.bl _)⟩
          · rename_i p3
            refine ⟨xt, ad2, d, e, false, pk_of so2 (rdE_step st2 r1) p1, pk_of so2 r2 p2, p3, false, rfl, ?_⟩
            rw [if_neg Bool.false_ne_true]
            exact po2 _ ad2 H2 Step.refl so2 (.bl _)
          · exact po2.elim
        · exact po2.elim
      | [], _, h => simp [chkE] at h
      | [_], _, h => simp [chkE] at h
      | [_, _], [], h => simp [chkE] at h
      | [_, _], [_], h => simp [chkE] at h
      | [_, _], _ :: _ :: _ :: _, h => simp [chkE] at h
      | _ :: _ :: _ :: _, _, h => simp [chkE] at h
    | _ => simp [chkE] at h
  | .not a, G, X, W, sc, e, o, h => by
    cases e with
    | UnaryOp op x pos =>
      cases op with
      | Not =>
        simp only [chkE] at h
        refine pe_imp (pe_notT (sndE a o h)) fun σ H Q q => ?_
        obtain ⟨xt, ad, Γ, S, en, so, po⟩ := q
        simp only [ev] at po
        refine ⟨xt, ad, Γ, S, en, so, Post.bind po fun x S1 v ad1 H1 st1 so1 r1 po1 => ?_⟩
        cases hb : truE x S1 with
        | none =>
          rw [hb] at po1
          exact po1.elim
        | some b =>
          rw [hb] at po1
          exact ⟨b, tru_of so1 r1 hb, po1 _ ad1 H1 Step.refl so1 (.bl _)⟩
      | _ => simp [chkE] at h
    | _ => simp [chkE] at h
  | .and a b, G, X, W, sc, e, o, h => by
    cases e with
    | BoolOp op vs pos =>
      match op, vs, h with
      | .And, x :: y :: r, h =>
        simp only [chkE, Bool.and_eq_true] at h
        have hb : PE X (.BoolOp .And (y :: r) pos) (tE X.K T W P b) := by
          cases r with
          | nil => exact pe_one (sndE b o h.2)
          | cons z r => exact sndE b o h.2
        refine pe_imp (pe_and (sndE a o h.1) hb) fun σ H Q q => ?_
        obtain ⟨xt, ad, Γ, S, en, so, po⟩ := q
        simp only [ev] at po
        refine ⟨xt, ad, Γ, S, en, so, Post.bind po fun e1 S1 v1 ad1 H1 st1 so1 r1 po1 => ?_⟩
        split at po1
        · cases r1
          exact ⟨true, rfl, by rw [if_pos rfl]; exact ⟨xt, ad1, Γ, S1, envOk_step st1 en, so1, po1⟩⟩
        · cases r1
          exact ⟨false, rfl, by rw [if_neg Bool.false_ne_true]; exact po1 _ ad1 H1 Step.refl so1 (.bl _)⟩
        · exact po1.elim
      | .And, [], h => simp [chkE] at h
      | .And, [_], h => simp [chkE] at h
      | .Or, _, h => simp [chkE] at h
    | _ => simp [chkE] at h
  | .or a b, G, X, W, sc, e, o, h => by
    cases e with
    | BoolOp op vs pos =>
      match op, vs, h with
      | .Or, x :: y :: r, h =>
        simp only [chkE, Bool.and_eq_true] at h
        have hb : PE X (.BoolOp .Or (y :: r) pos) (tE X.K T W P b) := by
          cases r with
          | nil => exact pe_one (sndE b o h.2)
          | cons z r => exact sndE b o h.2
        refine pe_imp (pe_or (sndE a o h.1) hb) fun σ H Q q => ?_
        obtain ⟨xt, ad, Γ, S, en, so, po⟩ := q
        simp only [ev] at po
        refine ⟨xt, ad, Γ, S, en, so, Post.bind po fun e1 S1 v1 ad1 H1 st1 so1 r1 po1 => ?_⟩
        split at po1
        · cases r1
          exact ⟨false, rfl, by rw [if_neg Bool.false_ne_true]; exact ⟨xt, ad1, Γ, S1, envOk_step st1 en, so1, po1⟩⟩
        · cases r1
          exact ⟨true, rfl, by rw [if_pos rfl]; exact po1 _ ad1 H1 Step.refl so1 (.bl _)⟩
        · exact po1.elim
      | .Or, [], h => simp [chkE] at h
      | .Or, [_], h => simp [chkE] at h
      | .And, _, h => simp [chkE] at h
    | _ => simp [chkE] at h
  | .ife t a b, G, X, W, sc, e, o, h => by
    cases e with
    | IfExp x y z pos =>
      simp only [chkE, Bool.and_eq_true] at h
      refine pe_imp (pe_ifExp (sndT t o h.1.1).1 (sndE a o h.1.2) (sndE b o h.2)) fun σ H Q q => ?_
      obtain ⟨xt, ad, Γ, S, en, so, po⟩ := q
      simp only [ev] at po
      refine ⟨xt, ad, Γ, S, en, so, Post.bind po fun k S1 v1 ad1 H1 st1 so1 r1 po1 => ?_⟩
      subst r1
      cases v1 with
      | true =>
        rw [if_pos rfl] at po1
        rw [if_pos rfl]
        exact ⟨xt, ad1, Γ, S1, envOk_step st1 en, so1, po1⟩
      | false =>
        rw [if_neg Bool.false_ne_true] at po1
        rw [if_neg Bool.false_ne_true]
        exact ⟨xt, ad1, Γ, S1, envOk_step st1 en, so1, po1⟩
    | _ => simp [chkE] at h
  | .tup es, G, X, W, sc, e, o, h => by
    cases e with
    | Tuple xs k pos =>
      simp only [chkE] at h
      refine pe_imp (pe_tup (sndD es o h)) fun σ H Q q => ?_
      obtain ⟨xt, ad, Γ, S, en, so, po⟩ := q
      simp only [ev] at po
      refine ⟨xt, ad, Γ, S, en, so, Post.bind po fun ds S1 vs ad1 H1 st1 so1 da po1 => ?_⟩
      split at po1
      · rename_i hz
        refine ⟨by rw [dpa_len da]; exact hz, fun p hp => ?_⟩
        obtain ⟨st, so2, dp⟩ := new_tup so1 hp da
        exact po1 _ ad1 _ st so2 dp
      · exact po1.elim
    | _ => simp [chkE] at h
  | .lst es, G, X, W, sc, e, o, h => by
    cases e with
    | List xs pos =>
      simp only [chkE] at h
      refine pe_imp (pe_lst (sndD es o h)) fun σ H Q q => ?_
      obtain ⟨xt, ad, Γ, S, en, so, po⟩ := q
      simp only [ev] at po
      refine ⟨xt, ad, Γ, S, en, so, Post.bind po fun ds S1 vs ad1 H1 st1 so1 da po1 => ?_⟩
      split at po1
      · rename_i hz
        refine ⟨by rw [dpa_len da]; exact hz, fun p hp => ?_⟩
        obtain ⟨st, so2, dp⟩ := new_lst so1 hp da
        exact po1 _ ad1 _ st so2 dp
      · exact po1.elim
    | _ => simp [chkE] at h
  | .dct ks es, G, X, W, sc, e, o, h => by
    cases e with
    | Dict keys vals pos =>
      simp only [chkE, Bool.and_eq_true, decide_eq_true_eq] at h
      obtain ⟨⟨⟨h1, h2⟩, h3⟩, h4⟩ := h
      by_cases h0 : keys = []
      · subst h0
        have hv : vals = [] := List.length_eq_zero_iff.mp h3.symm
        subst hv
        have hk : ks = [] := by
          cases ks with
          | nil => rfl
          | cons k ks => simp [keysB] at h1
        have he : es = .nil := by
          cases es with
          | nil => rfl
          | cons a b => simp [chkEs] at h2
        subst hk he
        refine pe_imp pe_dnewK fun σ H Q q => ?_
        obtain ⟨xt, ad, Γ, S, en, so, po⟩ := q
        simp only [ev, evD, R.bind_ok] at po
        intro p hp
        obtain ⟨st, so1⟩ := step_cell (o := .dK []) (c := .dct []) so hp ⟨_, upd_same, .nil⟩
        refine po _ _ _ st so1 ⟨p, ?_, rfl⟩
        rw [← so.len]
        simp
      obtain ⟨trs, hp, hrun⟩ := sndP es ks (pos := pos) o h1 h2
      refine pe_imp (pe_disp (hp h3) (keys_some h1) h3 h0 h4) fun σ H Q q => ?_
      obtain ⟨xt, ad, Γ, S, en, so, po⟩ := q
      simp only [ev] at po
      intro p hp0
      have hx := so.new_notxt hp0
      refine hrun h3 σ _ _ ⟨p :: xt, ad, Γ, S, env_hide so hp0 en, (step_hide so hp0).1, Post.under so hp0 po fun ds S1 vs ad1 H1 st1 stp so1 da po1 => ?_⟩
      have e1 : H1 p = some (.dK []) := by rw [stp.xs p List.mem_cons_self (by rw [upd_same]; exact fun z => nomatch z), upd_same]
      split at po1
      · rename_i kvs hk
        unfold dctK at hk
        split at hk
        · rename_i hc
          have e2 := some_inj hk
          subst e2
          refine ⟨e1, (ks.map Sum.inr).zip vs, kv_pairs ks vs, ?_, ?_⟩
          · rw [List.length_zip, List.length_map]
            exact Nat.le_trans (Nat.min_le_left _ _) hc.2.1
          · rw [mergeK_new _ _ (by rw [List.nil_append]; exact zip_pw hc.2.2), List.nil_append]
            obtain ⟨so2, e2⟩ := step_hidden (o := .dK ((ks.map Sum.inr).zip vs)) so1
            obtain ⟨so3, e3⟩ := step_keep (c := .dct (ks.zip ds)) so2 hx ⟨_, upd_same, by rw [e2]; exact kv_zip hc.1 da⟩
            have hpa := (so1.xs p List.mem_cons_self).2
            obtain ⟨m, em⟩ := st1.pre
            refine po1 (.ref p) (ad1 ++ [p]) _ ⟨⟨m ++ [p], by rw [em, List.append_assoc]⟩, ?_, fun a ha n => ?_, fun a ha n => ?_⟩ so3 ⟨p, ?_, rfl⟩
            · rw [e3, e2]
              exact (step_hide so hp0).2.trans stp.ex
            · rw [upd_ne (not_eq_of (so.new_notin hp0) ha)]
              exact st1.cell a ha n
            · rw [upd_ne (not_eq_of hx ha)]
              exact st1.xs a ha n
            · rw [List.getElem?_append_right (by rw [so1.len]; exact Nat.le_refl _), so1.len, Nat.sub_self]
              rfl
        · cases hk
      · exact po1.elim
    | _ => simp [chkE] at h
  | .idx a i, G, X, W, sc, e, o, h => by
    cases e with
    | Subscript x y pos =>
      simp only [chkE, Bool.and_eq_true] at h
      refine pe_imp (pe_ix (ix_all (T := T) (Nat.lt_of_le_of_lt (by omega) o.units)) (sndE a o h.1.2) (sndE i o h.2) (plain_ix h.1.1)) fun σ H Q q => ?_
      obtain ⟨xt, ad, Γ, S, en, so, po⟩ := q
      simp only [ev] at po
      refine ⟨xt, ad, Γ, S, en, so, Post.bind po fun e1 S1 v1 ad1 H1 st1 so1 r1 po1 => ?_⟩
      refine ⟨xt, ad1, Γ, S1, envOk_step st1 en, so1, Post.bind po1 fun e2 S2 v2 ad2 H2 st2 so2 r2 po2 => ?_⟩
      obtain ⟨r, p3, k⟩ := opt_post po2
      exact ⟨xt, ad2, S2, e1, e2, r, so2, rdE_step st2 r1, r2, p3, fun z dz => k z ad2 H2 Step.refl so2 dz⟩
    | _ => simp [chkE] at h
  | .slc a lo hi, G, X, W, sc, e, o, h => by
    cases e with
    | Subscript x y pos =>
      cases y with
      | Slice l u st p2 =>
        cases st with
        | none =>
          simp only [chkE, Bool.and_eq_true] at h
          refine pe_imp (pe_slice (sl_all (T := T)) (sndE a o h.1.1) (sndO lo o h.1.2) (sndO hi o h.2)) fun σ H Q q => ?_
          obtain ⟨xt, ad, Γ, S, en, so, po⟩ := q
          simp only [ev] at po
          refine ⟨xt, ad, Γ, S, en, so, Post.bind po fun e1 S1 v1 ad1 H1 st1 so1 r1 po1 => ?_⟩
          refine ⟨xt, ad1, Γ, S1, envOk_step st1 en, so1, Post.bind po1 fun l2 S2 l2' ad2 H2 st2 so2 r2 po2 => ?_⟩
          refine ⟨xt, ad2, Γ, S2, envOk_step (st1.trans st2) en, so2, Post.bind po2 fun l3 S3 l3' ad3 H3 st3 so3 r3 po3 => ?_⟩
          subst r2 r3
          obtain ⟨d, r, p1, p3, k⟩ := opt1_post po3
          exact ⟨xt, ad3, S3, d, r, so3, pk_of so3 (rdE_step (st2.trans st3) r1) p1, p3, fun z H' st so' dz => k z ad3 H' st so' dz⟩
        | some z => simp [chkE] at h
      | _ => simp [chkE] at h
    | _ => simp [chkE] at h
  | .call f es, G, X, W, sc, e, o, h => by
    rcases inv_call h with ⟨x, p, pos, e0, he, h2⟩ | ⟨x, p, a, as, pos, he, h2⟩
    · subst e0 he
      simp only [Bool.and_eq_true, decide_eq_true_eq] at h2
      exact call0_snd o h2.1 h2.2
    subst he
    clear h
    have h := h2
    clear h2
    simp only [Bool.and_eq_true, decide_eq_true_eq] at h
    exact call_snd o h.1.1 h.1.2 (okEs_of h.2) (sndA es o h.2)
  | .blt b es, G, X, W, sc, e, o, h => by
    obtain ⟨x, p, a, as, pos, he, h2⟩ := inv_blt h
    subst he
    clear h
    have h := h2
    clear h2
    simp only [Bool.and_eq_true, decide_eq_true_eq] at h
    refine pe_imp (pe_bltD o h.1.1.1 h.1.1.2 h.1.2 (okEs_of h.2) (sndA es o h.2)) fun σ H Q q => ?_
    obtain ⟨xt, ad, Γ, S, en, so, po⟩ := q
    simp only [ev] at po
    refine ⟨xt, ad, Γ, S, en, so, Post.bind po fun xs S1 vs ad1 H1 st1 so1 re po1 => ?_⟩
    split at po1
    · rename_i ds hd
      obtain ⟨r, p3, k⟩ := opt_post po1
      exact ⟨xt, ad1, S1, ds, r, so1, pks_of so1 re hd, p3, fun z H' st so' dz => k z ad1 H' st so' dz⟩
    · exact po1.elim
  | .app c1 c2, G, X, W, sc, e, o, h => by
    obtain ⟨x, p, apos, a, cpos, he, h2⟩ := inv_app h
    subst he
    clear h
    have h := h2
    clear h2
    simp only [Bool.and_eq_true] at h
    obtain ⟨⟨⟨h1, h2⟩, h3⟩, h4⟩ := h
    refine pe_imp (pe_bm PySem.F.plainAttrs_list PySem.F.slot_list_append PySem.F.type_list_append mt_append (sndE c1 o h3) (pa_cons (sndE c2 o h4) pa_nil (star_ok h2)) rfl (by rw [star_ok h2]; rfl) h1 (star_ok h2) rfl) fun σ H Q q => ?_
    obtain ⟨xt, ad, Γ, S, en, so, po⟩ := q
    simp only [ev] at po
    refine ⟨xt, ad, Γ, S, en, so, Post.bind po fun e1 S1 v1 ad1 H1 st1 so1 r1 po1 => ?_⟩
    split at po1
    case isFalse => exact po1.elim
    rename_i hl
    have hty : tyV X.K "list" v1 H1 := by
      unfold isLst at hl
      split at hl
      · split at hl
        · rename_i xs hn
          obtain ⟨a, e1, e2⟩ := r1
          subst e2
          obtain ⟨a', e3, vs, e4, da⟩ := so1.at' _ _ hn
          rw [e1] at e3
          cases e3
          exact .inl ⟨rfl, vs, SqL.of e4⟩
        · cases hl
      · cases hl
    refine ⟨hty, xt, ad1, Γ, S1, envOk_step st1 en, so1, Post.bind po1 fun e2 S2 v2 ad2 H2 st2 so2 r2 po2 => ?_⟩
    exact (app_snd so2 (rdE_step st2 r1) r2 po2).2
  | .isi a t, G, X, W, sc, e, o, h => by
    obtain ⟨x, p, y, z, pz, pos, he, h2⟩ := inv_isi h
    subst he
    clear h
    have h := h2
    clear h2
    simp only [Bool.and_eq_true, decide_eq_true_eq] at h
    obtain ⟨⟨⟨⟨⟨⟨⟨h1, h2⟩, h3⟩, h4⟩, h5⟩, h6⟩, h7⟩, h8⟩ := h
    exact isi_snd o h1 h2 h3 h4 h5 h6 h7 (sndE a o h8)
  | .pop c1, G, X, W, sc, e, o, h => by
    obtain ⟨x, p, apos, cpos, he, h2⟩ := inv_pop h
    subst he
    clear h
    have h := h2
    clear h2
    simp only [Bool.and_eq_true] at h
    refine pe_imp (pe_bm0 PySem.F.plainAttrs_list PySem.F.slot_list_pop PySem.F.type_list_pop mt_pop (sndE c1 o h.2) rfl h.1) fun σ H Q q => ?_
    obtain ⟨xt, ad, Γ, S, en, so, po⟩ := q
    simp only [ev] at po
    exact ⟨xt, ad, Γ, S, en, so, Post.bind po fun e1 S1 v1 ad1 H1 st1 so1 r1 po1 => pop_snd so1 r1 po1⟩
  | .popi c1 c2, G, X, W, sc, e, o, h => by
    obtain ⟨x, p, apos, a, cpos, he, h2⟩ := inv_popi h
    subst he
    clear h
    have h := h2
    clear h2
    simp only [Bool.and_eq_true] at h
    obtain ⟨⟨⟨h1, h2⟩, h3⟩, h4⟩ := h
    refine pe_imp (pe_bm PySem.F.plainAttrs_list PySem.F.slot_list_pop PySem.F.type_list_pop mt_popAt (sndE c1 o h3) (pa_cons (sndE c2 o h4) pa_nil (star_ok h2)) rfl (by rw [star_ok h2]; rfl) h1 (star_ok h2) rfl) fun σ H Q q => ?_
    obtain ⟨xt, ad, Γ, S, en, so, po⟩ := q
    simp only [ev] at po
    refine ⟨xt, ad, Γ, S, en, so, Post.bind po fun e1 S1 v1 ad1 H1 st1 so1 r1 po1 => ?_⟩
    split at po1
    case isFalse => exact po1.elim
    rename_i hl
    have hty : tyV X.K "list" v1 H1 := by
      unfold isLst at hl
      split at hl
      · split at hl
        · rename_i xs hn
          obtain ⟨a, e1, e2⟩ := r1
          subst e2
          obtain ⟨a', e3, vs, e4, da⟩ := so1.at' _ _ hn
          rw [e1] at e3
          cases e3
          exact .inl ⟨rfl, vs, SqL.of e4⟩
        · cases hl
      · cases hl
    refine ⟨hty, xt, ad1, Γ, S1, envOk_step st1 en, so1, Post.bind po1 fun e2 S2 v2 ad2 H2 st2 so2 r2 po2 => ?_⟩
    exact popi_snd so2 (rdE_step st2 r1) r2 po2
  | .lam L c, G, X, W, sc, e, o, h => by
    obtain ⟨x, p, ps, bd, scope, lpos, pos, Nl, st, he, h1, h2, h3, h4, hB, h5, h6⟩ := inv_lam h
    subst he
    exact lam_snd o h1 h2 h3 hB h5 h6 fun o' => sndE c o' h4
  | .dzip a b, G, X, W, sc, e, o, h => by
    obtain ⟨p, p2, u, v, pos, pos2, he, h1, h2, h3, h4, h5, h6, h7, h8⟩ := inv_dzip h
    subst he
    refine pe_imp (ZG.pe_dzip o.calm (gl_of o.sc h1).1 (o.blt _ h2) (gl_of o.sc h3).1 (o.blt _ h4) (pa_cons (sndE a o h7) (pa_cons (sndE b o h8) pa_nil (star_ok h6)) (star_ok h5)) (star_ok h5) (by rw [star_ok h6]; rfl)) fun σ H Q q => ?_
    obtain ⟨xt, ad, Γ, S, en, so, po⟩ := q
    simp only [ev] at po
    refine ⟨xt, ad, Γ, S, en, so, Post.bind po fun e1 S1 v1 ad1 H1 st1 so1 r1 po1 => ?_⟩
    refine ⟨xt, ad1, Γ, S1, envOk_step st1 en, so1, Post.bind po1 fun e2 S2 v2 ad2 H2 st2 so2 r2 po2 => ?_⟩
    exact dz_snd so2 (rdE_step st2 r1) r2 po2
  | .mk m, G, X, W, sc, e, o, h => sndM m o (by simpa only [chkE] using h)
  | .rev a, G, X, W, sc, e, o, h => by
    obtain ⟨x, k, p1, p2, p3, pos, he, h1⟩ := inv_rev h
    subst he
    refine pe_imp (pe_revL (sndE a o h1)) fun σ H Q q => ?_
    obtain ⟨xt, ad, Γ, S, en, so, po⟩ := q
    simp only [ev] at po
    refine ⟨xt, ad, Γ, S, en, so, Post.bind po fun e1 S1 v1 ad1 H1 st1 so1 r1 po1 => ?_⟩
    obtain ⟨d, r, q1, q2, k⟩ := opt1_post po1
    unfold revD at q2
    split at q2
    · rename_i xs
      have er := some_inj q2
      subst er
      obtain ⟨a, vs, rfl, ha, da⟩ := (pk_of so1 r1 q1).list
      refine ⟨a, vs, rfl, ha, fun p hp => ?_⟩
      obtain ⟨st, so2, dp⟩ := new_lst so1 hp (dpa_rev da)
      exact k _ _ _ st so2 dp
    · cases q2
  | .ext c1 c2, G, X, W, sc, e, o, h => by
    obtain ⟨x, p, apos, a, cpos, he, h2⟩ := inv_ext h
    subst he
    clear h
    have h := h2
    clear h2
    simp only [Bool.and_eq_true] at h
    obtain ⟨⟨⟨h1, h2⟩, h3⟩, h4⟩ := h
    refine pe_imp (pe_bm PySem.F.plainAttrs_list PySem.F.slot_list_extend PySem.F.type_list_extend ZG.mt_extA (sndE c1 o h3) (pa_cons (sndE c2 o h4) pa_nil (star_ok h2)) rfl (by rw [star_ok h2]; rfl) h1 (star_ok h2) rfl) fun σ H Q q => ?_
    obtain ⟨xt, ad, Γ, S, en, so, po⟩ := q
    simp only [ev] at po
    refine ⟨xt, ad, Γ, S, en, so, Post.bind po fun e1 S1 v1 ad1 H1 st1 so1 r1 po1 => ?_⟩
    split at po1
    case isFalse => exact po1.elim
    rename_i hl
    have hty : tyV X.K "list" v1 H1 := by
      unfold isLst at hl
      split at hl
      · split at hl
        · rename_i xs hn
          obtain ⟨a, e1, e2⟩ := r1
          subst e2
          obtain ⟨a', e3, vs, e4, da⟩ := so1.at' _ _ hn
          rw [e1] at e3
          cases e3
          exact .inl ⟨rfl, vs, SqL.of e4⟩
        · cases hl
      · cases hl
    refine ⟨hty, xt, ad1, Γ, S1, envOk_step st1 en, so1, Post.bind po1 fun e2 S2 v2 ad2 H2 st2 so2 r2 po2 => ?_⟩
    exact ext_snd so2 (rdE_step st2 r1) r2 po2
  | .lc elt tg it ts own, G, X, W, sc, e, o, h => by
    obtain ⟨e', t, i, ifs, scope, pos, he, h2⟩ := inv_lc h
    subst he
    clear h
    have h := h2
    clear h2
    simp only [Bool.and_eq_true] at h
    obtain ⟨⟨⟨⟨⟨h1, h2⟩, h3⟩, h4⟩, h5⟩, h6⟩ := h
    have oki := okI_of h2
    have hi := sndI it (t := t) o h2
    have hg : ∀ (s : Shared) (H : Hp) (C : Addr) (cl : List (Str × Addr)) (fp : List Addr), PG (X.blk s H scope (compEnvC scope cl C X.env) fp) t (gT X.K tg) := fun s H C cl fp => by
      have ob := o.blk s H C cl fp scope
      exact sndG ob.nm ob.sc ob.nd ob.calm (fun x hx => hx) tg t h3
    exact pe_imp (pe_lc o.calm (by rw [o.nm]; exact o.nd) hi (by rw [o.nm, o.sc]; exact blkOk_by h1) hg (fun s H C cl fp => sndC ts (o.blk s H C cl fp scope) h5) (fun s H C cl fp => sndE elt (o.blk s H C cl fp scope) h6) (fun x => fold_ok oki x))
      (lc_snd (pos := pos) o h1 h4 oki hi hg (fun s H C cl fp => sndC ts (o.blk s H C cl fp scope) h5) (fun s H C cl fp => sndE elt (o.blk s H C cl fp scope) h6))
  | .lc2 elt tg it ts own tg1 it1 ts1 own1, G, X, W, sc, e, o, h => by
    obtain ⟨e', t, i, ifs, t1, i1, ifs1, scope, pos, he, h2⟩ := inv_lc2 h
    subst he
    clear h
    have h := h2
    clear h2
    simp only [Bool.and_eq_true] at h
    obtain ⟨⟨⟨⟨⟨⟨⟨⟨⟨⟨h1, hv⟩, h2⟩, h3⟩, h4⟩, h5⟩, k2⟩, k3⟩, k4⟩, k5⟩, h6⟩ := h
    have oki := okI_of h2
    have oki1 := okI_of k2
    have hi := sndI it (t := t) o h2
    have hv' : ∀ i ∈ own1, i ∈ (ownL N own).map (·.2) := fun i hi => by
      have := List.contains_iff_mem.mp (List.all_eq_true.mp hv i hi)
      unfold ownL
      rw [List.map_map]
      exact List.mem_map.mpr ⟨i, this, rfl⟩
    have hg : ∀ (s : Shared) (H : Hp) (C : Addr) (cl : List (Str × Addr)) (fp : List Addr), PG (X.blk s H scope (compEnvC scope cl C X.env) fp) t (gT X.K tg) := fun s H C cl fp => by
      have ob := o.blk s H C cl fp scope
      exact sndG ob.nm ob.sc ob.nd ob.calm (fun x hx => hx) tg t h3
    have hg1 : ∀ (s : Shared) (H : Hp) (C : Addr) (cl : List (Str × Addr)) (fp : List Addr), PG (X.blk s H scope (compEnvC scope cl C X.env) fp) t1 (gT X.K tg1) := fun s H C cl fp => by
      have ob := o.blk s H C cl fp scope
      exact sndG ob.nm ob.sc ob.nd ob.calm (fun x hx => hx) tg1 t1 k3
    exact pe_imp (pe_lc2 (vs1 := own1) o.calm (by rw [o.nm]; exact o.nd) hi (by rw [o.nm, o.sc]; exact blkOk_by h1) hv' hg (fun s H C cl fp => sndC ts (o.blk s H C cl fp scope) h5)
      (fun s H C cl fp => sndI it1 (t := t1) (o.blk s H C cl fp scope) k2) hg1 (fun s H C cl fp => sndC ts1 (o.blk s H C cl fp scope) k5) (fun s H C cl fp => sndE elt (o.blk s H C cl fp scope) h6) (fun x => fold_ok oki x) (fun env x => fold_ok oki1 x))
      (lc2_snd h4 k4)
theorem sndT : ∀ (c : CE) {G : Gt} {X : Cx} {W : WX} {sc : Scope} {e : Expr}, XOk T P G N X W sc → chkE G N sc c e = true → PT X e (tT X.K T W P c) ∧ (∀ op vs pos, e = .BoolOp op vs pos → PW X e (tT X.K T W P c))
  | .var i, G, X, W, sc, e, o, h => by
    have pe := sndE (.var i) o h
    cases e with
    | Name x pos => exact ⟨tru_snd (fun _ => rfl) pe evT_var, fun _ _ _ z => nomatch z⟩
    | _ => simp [chkE] at h
  | .con d, G, X, W, sc, e, o, h => by
    have hn : ∀ Γ S, evT P (.con d) Γ S = .no := fun Γ S => by simp only [evT]
    refine ⟨pt_no hn, fun op vs pos z => ?_⟩
    subst z
    simp [chkE] at h
  | .glo k, G, X, W, sc, e, o, h => by
    have hn : ∀ Γ S, evT P (.glo k) Γ S = .no := fun Γ S => by simp only [evT]
    refine ⟨pt_no hn, fun op vs pos z => ?_⟩
    subst z
    simp [chkE] at h
  | .bin op a b, G, X, W, sc, e, o, h => by
    have hn : ∀ Γ S, evT P (.bin op a b) Γ S = .no := fun Γ S => by simp only [evT]
    refine ⟨pt_no hn, fun op vs pos z => ?_⟩
    subst z
    simp [chkE] at h
  | .neg a, G, X, W, sc, e, o, h => by
    have hn : ∀ Γ S, evT P (.neg a) Γ S = .no := fun Γ S => by simp only [evT]
    refine ⟨pt_no hn, fun op vs pos z => ?_⟩
    subst z
    simp [chkE] at h
  | .cmp op a b, G, X, W, sc, e, o, h => by
    obtain ⟨x, y, pos, he, h2⟩ := inv_cmp h
    subst he
    clear h
    have h := h2
    clear h2
    simp only [Bool.and_eq_true] at h
    refine ⟨pt_imp (pt_cmpR (op_cmpE (T := T) o.units op) (sndE a o h.1.2) (sndE b o h.2) (marks_ok h.1.1)) fun σ H Q q => ?_, fun _ _ _ z => nomatch z⟩
    obtain ⟨xt, ad, Γ, S, en, so, po⟩ := q
    simp only [evT] at po
    refine ⟨xt, ad, Γ, S, en, so, Post.bind po fun e1 S1 v1 ad1 H1 st1 so1 r1 po1 => ?_⟩
    refine ⟨xt, ad1, Γ, S1, envOk_step st1 en, so1, Post.bind po1 fun e2 S2 v2 ad2 H2 st2 so2 r2 po2 => ?_⟩
    obtain ⟨b, hb, q⟩ := optB_post po2 so2
    exact ⟨xt, ad2, S2, e1, e2, b, so2, rdE_step st2 r1, r2, hb, b, rfl, q⟩
  | .chain op1 op2 a b c, G, X, W, sc, e, o, h => by
    obtain ⟨x, y, z, pos, he, h2⟩ := inv_chain h
    subst he
    clear h
    have h := h2
    clear h2
    simp only [Bool.and_eq_true] at h
    obtain ⟨⟨⟨⟨h3, h4⟩, h5⟩, h6⟩, h7⟩ := h
    refine ⟨pt_imp (pt_chain (op_cmpD o.units op1) (op_cmpD o.units op2) (sndE a o h5) (sndE b o h6) (sndE c o h7) (chain_marks h4)) fun σ H Q q => ?_, fun _ _ _ z => nomatch z⟩
    obtain ⟨xt, ad, Γ, S, en, so, po⟩ := q
    simp only [evT] at po
    refine ⟨xt, ad, Γ, S, en, so, Post.bind po fun e1 S1 v1 ad1 H1 st1 so1 r1 po1 => ?_⟩
    refine ⟨xt, ad1, Γ, S1, envOk_step st1 en, so1, Post.bind po1 fun e2 S2 v2 ad2 H2 st2 so2 r2 po2 => ?_⟩
    split at po2
    · rename_i d e p1 p2
      split at po2
      · rename_i p3
        refine ⟨xt, ad2, d, e, true, pk_of so2 (rdE_step st2 r1) p1, pk_of so2 r2 p2, p3, true, rfl, ?_⟩
        rw [if_pos rfl]
        refine ⟨xt, ad2, Γ, S2, envOk_step (st1.trans st2) en, so2, Post.bind po2 fun e3 S3 v3 ad3 H3 st3 so3 r3 po3 => ?_⟩
        split at po3
        · rename_i d' e' p1' p2'
          obtain ⟨b, hb, q⟩ := optB_post po3 so3
          exact ⟨xt, ad3, d', e', b, pk_of so3 (rdE_step st3 r2) p1', pk_of so3 r3 p2', hb, b, rfl, q⟩
        · exact po3.elim
      · rename_i p3
        refine ⟨xt, ad2, d, e, false, pk_of so2 (rdE_step st2 r1) p1, pk_of so2 r2 p2, p3, false, rfl, ?_⟩
        rw [if_neg Bool.false_ne_true]
        exact ⟨false, rfl, po2 _ ad2 H2 Step.refl so2 rfl⟩
      · exact po2.elim
    · exact po2.elim
  | .not a, G, X, W, sc, e, o, h => by
    cases e with
    | UnaryOp op x pos =>
      cases op with
      | Not =>
        simp only [chkE] at h
        refine ⟨pt_imp (pt_not (sndT a o h).1) fun σ H Q q => ?_, fun _ _ _ z => nomatch z⟩
        obtain ⟨xt, ad, Γ, S, en, so, po⟩ := q
        simp only [evT] at po
        refine ⟨xt, ad, Γ, S, en, so, Post.bind po fun b S1 v ad1 H1 st1 so1 r1 po1 => ?_⟩
        subst r1
        exact po1 _ ad1 H1 Step.refl so1 rfl
      | _ => simp [chkE] at h
    | _ => simp [chkE] at h
  | .and a b, G, X, W, sc, e, o, h => by
    cases e with
    | BoolOp op vs pos =>
      match op, vs, h with
      | .And, x :: y :: r, h =>
        simp only [chkE, Bool.and_eq_true] at h
        have hb : PW X (.BoolOp .And (y :: r) pos) (tT X.K T W P b) := by
          cases r with
          | nil => exact pw_and1 (sndT b o h.2).1
          | cons z r => exact (sndT b o h.2).2 _ _ _ rfl
        have key : PW X (.BoolOp .And (x :: y :: r) pos) (tT X.K T W P (.and a b)) := by
          refine pw_imp (pw_and (sndT a o h.1).1 hb) fun σ H Q q => ?_
          obtain ⟨xt, ad, Γ, S, en, so, po⟩ := q
          simp only [evT] at po
          refine ⟨xt, ad, Γ, S, en, so, Post.bind po fun k S1 v1 ad1 H1 st1 so1 r1 po1 => ?_⟩
          subst r1
          cases v1 with
          | true =>
            rw [if_pos rfl] at po1
            rw [if_pos rfl]
            exact ⟨xt, ad1, Γ, S1, envOk_step st1 en, so1, po1⟩
          | false =>
            rw [if_neg Bool.false_ne_true] at po1
            rw [if_neg Bool.false_ne_true]
            exact po1 _ ad1 H1 Step.refl so1 rfl
        exact ⟨PW.pt key, fun _ _ _ _ => key⟩
      | .And, [], h => simp [chkE] at h
      | .And, [_], h => simp [chkE] at h
      | .Or, _, h => simp [chkE] at h
    | _ => simp [chkE] at h
  | .or a b, G, X, W, sc, e, o, h => by
    cases e with
    | BoolOp op vs pos =>
      match op, vs, h with
      | .Or, x :: y :: r, h =>
        simp only [chkE, Bool.and_eq_true] at h
        have hb : PW X (.BoolOp .Or (y :: r) pos) (tT X.K T W P b) := by
          cases r with
          | nil => exact pw_or1 (sndT b o h.2).1
          | cons z r => exact (sndT b o h.2).2 _ _ _ rfl
        have key : PW X (.BoolOp .Or (x :: y :: r) pos) (tT X.K T W P (.or a b)) := by
          refine pw_imp (pw_or (sndT a o h.1).1 hb) fun σ H Q q => ?_
          obtain ⟨xt, ad, Γ, S, en, so, po⟩ := q
          simp only [evT] at po
          refine ⟨xt, ad, Γ, S, en, so, Post.bind po fun k S1 v1 ad1 H1 st1 so1 r1 po1 => ?_⟩
          subst r1
          cases v1 with
          | true =>
            rw [if_pos rfl] at po1
            rw [if_pos rfl]
            exact po1 _ ad1 H1 Step.refl so1 rfl
          | false =>
            rw [if_neg Bool.false_ne_true] at po1
            rw [if_neg Bool.false_ne_true]
            exact ⟨xt, ad1, Γ, S1, envOk_step st1 en, so1, po1⟩
        exact ⟨PW.pt key, fun _ _ _ _ => key⟩
      | .Or, [], h => simp [chkE] at h
      | .Or, [_], h => simp [chkE] at h
      | .And, _, h => simp [chkE] at h
    | _ => simp [chkE] at h
  | .ife t a b, G, X, W, sc, e, o, h => by
    have hn : ∀ Γ S, evT P (.ife t a b) Γ S = .no := fun Γ S => by simp only [evT]
    refine ⟨pt_no hn, fun op vs pos z => ?_⟩
    subst z
    simp [chkE] at h
  | .tup es, G, X, W, sc, e, o, h => by
    have hn : ∀ Γ S, evT P (.tup es) Γ S = .no := fun Γ S => by simp only [evT]
    refine ⟨pt_no hn, fun op vs pos z => ?_⟩
    subst z
    simp [chkE] at h
  | .lst es, G, X, W, sc, e, o, h => by
    have hn : ∀ Γ S, evT P (.lst es) Γ S = .no := fun Γ S => by simp only [evT]
    refine ⟨pt_no hn, fun op vs pos z => ?_⟩
    subst z
    simp [chkE] at h
  | .dct ks es, G, X, W, sc, e, o, h => by
    have hn : ∀ Γ S, evT P (.dct ks es) Γ S = .no := fun Γ S => by simp only [evT]
    refine ⟨pt_no hn, fun op vs pos z => ?_⟩
    subst z
    simp [chkE] at h
  | .idx a i, G, X, W, sc, e, o, h => by
    have pe := sndE (.idx a i) o h
    cases e with
    | Subscript x y pos => exact ⟨tru_snd (fun _ => rfl) pe evT_idx, fun _ _ _ z => nomatch z⟩
    | _ => simp [chkE] at h
  | .slc a lo hi, G, X, W, sc, e, o, h => by
    have hn : ∀ Γ S, evT P (.slc a lo hi) Γ S = .no := fun Γ S => by simp only [evT]
    refine ⟨pt_no hn, fun op vs pos z => ?_⟩
    subst z
    simp [chkE] at h
  | .call f es, G, X, W, sc, e, o, h => by
    have pe := sndE (.call f es) o h
    cases e with
    | Call fe as kws pos => exact ⟨tru_snd (fun _ => rfl) pe evT_call, fun _ _ _ z => nomatch z⟩
    | _ => simp [chkE] at h
  | .blt b es, G, X, W, sc, e, o, h => by
    have pe := sndE (.blt b es) o h
    cases e with
    | Call fe as kws pos => exact ⟨tru_snd (fun _ => rfl) pe evT_blt, fun _ _ _ z => nomatch z⟩
    | _ => simp [chkE] at h
  | .isi a t, G, X, W, sc, e, o, h => by
    have pe := sndE (.isi a t) o h
    cases e with
    | Call fe as kws pos => exact ⟨tru_snd (fun _ => rfl) pe evT_isi, fun _ _ _ z => nomatch z⟩
    | _ => simp [chkE] at h
  | .pop a, G, X, W, sc, e, o, h => by
    have hn : ∀ Γ S, evT P (.pop a) Γ S = .no := fun Γ S => by simp only [evT]
    refine ⟨pt_no hn, fun op vs pos z => ?_⟩
    subst z
    simp [chkE] at h
  | .popi a b, G, X, W, sc, e, o, h => by
    have hn : ∀ Γ S, evT P (.popi a b) Γ S = .no := fun Γ S => by simp only [evT]
    refine ⟨pt_no hn, fun op vs pos z => ?_⟩
    subst z
    simp [chkE] at h
  | .lam L c, G, X, W, sc, e, o, h => by
    have hn : ∀ Γ S, evT P (.lam L c) Γ S = .no := fun Γ S => by simp only [evT]
    refine ⟨pt_no hn, fun op vs pos z => ?_⟩
    subst z
    simp [chkE] at h
  | .dzip a b, G, X, W, sc, e, o, h => by
    have hn : ∀ Γ S, evT P (.dzip a b) Γ S = .no := fun Γ S => by simp only [evT]
    refine ⟨pt_no hn, fun op vs pos z => ?_⟩
    subst z
    simp [chkE] at h
  | .ext a b, G, X, W, sc, e, o, h => by
    have hn : ∀ Γ S, evT P (.ext a b) Γ S = .no := fun Γ S => by simp only [evT]
    refine ⟨pt_no hn, fun op vs pos z => ?_⟩
    subst z
    simp [chkE] at h
  | .mk m, G, X, W, sc, e, o, h => by
    have hn : ∀ Γ S, evT P (.mk m) Γ S = .no := fun Γ S => by simp only [evT]
    refine ⟨pt_no hn, fun op vs pos z => ?_⟩
    subst z
    cases m <;> simp [chkE, chkM0'] at h
  | .rev a, G, X, W, sc, e, o, h => by
    have hn : ∀ Γ S, evT P (.rev a) Γ S = .no := fun Γ S => by simp only [evT]
    refine ⟨pt_no hn, fun op vs pos z => ?_⟩
    subst z
    simp [chkE] at h
  | .app a b, G, X, W, sc, e, o, h => by
    have hn : ∀ Γ S, evT P (.app a b) Γ S = .no := fun Γ S => by simp only [evT]
    refine ⟨pt_no hn, fun op vs pos z => ?_⟩
    subst z
    simp [chkE] at h
  | .lc elt tg it ts own, G, X, W, sc, e, o, h => by
    have hn : ∀ Γ S, evT P (.lc elt tg it ts own) Γ S = .no := fun Γ S => by simp only [evT]
    refine ⟨pt_no hn, fun op vs pos z => ?_⟩
    subst z
    simp [chkE] at h
  | .lc2 elt tg it ts own tg1 it1 ts1 own1, G, X, W, sc, e, o, h => by
    have hn : ∀ Γ S, evT P (.lc2 elt tg it ts own tg1 it1 ts1 own1) Γ S = .no := fun Γ S => by simp only [evT]
    refine ⟨pt_no hn, fun op vs pos z => ?_⟩
    subst z
    simp [chkE] at h
theorem sndM : ∀ (m : CM) {G : Gt} {X : Cx} {W : WX} {sc : Scope} {e : Expr}, XOk T P G N X W sc → chkM0' G N sc m e = true → PE X e (tE X.K T W P (.mk m))
  | .lc elt tg it ts own, G, X, W, sc, e, o, h => by
    obtain ⟨e', t, i, ifs, scope, pos, he, h2⟩ := inv_mlc h
    subst he
    clear h
    have h := h2
    clear h2
    simp only [Bool.and_eq_true] at h
    obtain ⟨⟨⟨⟨⟨h1, h2⟩, h3⟩, h4⟩, h5⟩, h6⟩ := h
    have oki := okI_of h2
    have hi := sndI it (t := t) o h2
    have hg : ∀ (s : Shared) (H : Hp) (C : Addr) (cl : List (Str × Addr)) (fp : List Addr), PG (X.blk s H scope (compEnvC scope cl C X.env) fp) t (gT X.K tg) := fun s H C cl fp => by
      have ob := o.blk s H C cl fp scope
      exact sndG ob.nm ob.sc ob.nd ob.calm (fun x hx => hx) tg t h3
    exact pe_imp (pe_lc o.calm (by rw [o.nm]; exact o.nd) hi (by rw [o.nm, o.sc]; exact blkOk_by h1) hg (fun s H C cl fp => sndC ts (o.blk s H C cl fp scope) h5) (fun s H C cl fp => sndE elt (o.blk s H C cl fp scope) h6) (fun x => fold_ok oki x)) (lcm_snd h4)
  | .lst es, G, X, W, sc, e, o, h => by
    cases e with
    | List xs pos =>
      simp only [chkM0'] at h
      refine pe_imp (pe_lst (sndD es o h)) fun σ H Q q => ?_
      obtain ⟨xt, ad, Γ, S, en, so, po⟩ := q
      simp only [ev, evM, bind_bind] at po
      refine ⟨xt, ad, Γ, S, en, so, Post.bind po fun ds S1 vs ad1 H1 st1 so1 da po1 => ?_⟩
      by_cases hz : ds.length ≤ sizeLine
      · rw [if_pos hz] at po1
        exact ⟨by rw [dpa_len da]; exact hz, fun p hp => mk_new so1 hp da po1⟩
      · rw [if_neg hz] at po1
        exact po1.elim
    | _ => simp [chkM0'] at h
  | .lis c, G, X, W, sc, e, o, h => by
    obtain ⟨p1, a, pos, he, h1, h2, h3, h4⟩ : ∃ p1 a pos, e = .Call (.Name "list" p1) [a] [] pos ∧ glB sc "list" = true ∧ G.blts.contains "list" = true ∧ okE a = true ∧ chkE G N sc c a = true := by
      unfold chkM0' at h
      split at h <;> first | contradiction | skip
      all_goals (rename_i e1; cases e1)
      simp only [Bool.and_eq_true, decide_eq_true_eq] at h
      obtain ⟨⟨⟨⟨rfl, g1⟩, g2⟩, g3⟩, g4⟩ := h
      exact ⟨_, _, _, rfl, g1, g2, g3, g4⟩
    subst he
    obtain ⟨g1, g2, g3⟩ := gl_of o.sc h1
    refine pe_imp (pe_callTy call_list_of g1 (o.blt _ h2) (by decide +kernel) (pa_cons (sndE c o h4) pa_nil (star_ok h3)) g3 g2 (star_ok h3) rfl) fun σ H Q q => ?_
    obtain ⟨xt, ad, Γ, S, en, so, po⟩ := q
    simp only [ev, evM, bind_bind] at po
    refine ⟨xt, ad, Γ, S, en, so, Post.bind po fun e1 S1 v1 ad1 H1 st1 so1 r1 po1 => ?_⟩
    split at po1
    · rename_i d hd
      split at po1
      · rename_i xs hx
        obtain ⟨a, vs, ea, ra, da⟩ := row_pk (pk_of so1 r1 hd) hx
        subst ea
        exact ⟨a, vs, rfl, ra, fun p hp => mk_new so1 hp da po1⟩
      · exact po1.elim
    · exact po1.elim
theorem sndA : ∀ (cs : CEs) {G : Gt} {X : Cx} {W : WX} {sc : Scope} {es : List Expr}, XOk T P G N X W sc → chkEs G N sc cs es = true → PA X es (tAs X.K T W P cs)
  | .nil, G, X, W, sc, es, o, h => by
    cases es with
    | nil =>
      refine pa_imp pa_nil fun σ H Q q => ?_
      obtain ⟨xt, ad, Γ, S, en, so, po⟩ := q
      simp only [evs] at po
      exact po [] ad H Step.refl so .nil
    | cons e es => simp [chkEs] at h
  | .cons c cs, G, X, W, sc, es, o, h => by
    cases es with
    | nil => simp [chkEs] at h
    | cons e es =>
      simp only [chkEs, Bool.and_eq_true] at h
      refine pa_imp (pa_cons (sndE c o h.1.2) (sndA cs o h.2) (star_ok h.1.1)) fun σ H Q q => ?_
      obtain ⟨xt, ad, Γ, S, en, so, po⟩ := q
      simp only [evs] at po
      refine ⟨xt, ad, Γ, S, en, so, Post.bind po fun e1 S1 v1 ad1 H1 st1 so1 r1 po1 => ?_⟩
      refine ⟨xt, ad1, Γ, S1, envOk_step st1 en, so1, Post.bind po1 fun e2 S2 v2 ad2 H2 st2 so2 r2 po2 => ?_⟩
      exact po2 _ ad2 H2 Step.refl so2 (.cons (rdE_step st2 r1) r2)
theorem sndD : ∀ (cs : CEs) {G : Gt} {X : Cx} {W : WX} {sc : Scope} {es : List Expr}, XOk T P G N X W sc → chkEs G N sc cs es = true → PA X es (tDs X.K T W P cs)
  | .nil, G, X, W, sc, es, o, h => by
    cases es with
    | nil =>
      refine pa_imp pa_nil fun σ H Q q => ?_
      obtain ⟨xt, ad, Γ, S, en, so, po⟩ := q
      simp only [evD] at po
      exact po [] ad H Step.refl so .nil
    | cons e es => simp [chkEs] at h
  | .cons c cs, G, X, W, sc, es, o, h => by
    cases es with
    | nil => simp [chkEs] at h
    | cons e es =>
      simp only [chkEs, Bool.and_eq_true] at h
      refine pa_imp (pa_cons (sndE c o h.1.2) (sndD cs o h.2) (star_ok h.1.1)) fun σ H Q q => ?_
      obtain ⟨xt, ad, Γ, S, en, so, po⟩ := q
      simp only [evD] at po
      refine ⟨xt, ad, Γ, S, en, so, Post.bind po fun e1 S1 v1 ad1 H1 st1 so1 r1 po1 => ?_⟩
      cases e1 with
      | c n => exact po1.elim
      | d x =>
        refine ⟨xt, ad1, Γ, S1, envOk_step st1 en, so1, Post.bind (show Post _ _ _ _ _ _ _ ((evD P cs Γ S1).bind _) _ from po1) fun e2 S2 v2 ad2 H2 st2 so2 r2 po2 => ?_⟩
        exact po2 _ ad2 H2 Step.refl so2 (.cons (dp_mono st2.ex r1) r2)
theorem sndP : ∀ (cs : CEs) (ks : List Str) {G : Gt} {X : Cx} {W : WX} {sc : Scope} {keys : List (Option Expr)} {es : List Expr} {pos : Pos}, XOk T P G N X W sc → keysB ks keys = true → chkEs G N sc cs es = true →
    ∃ trs, (keys.length = es.length → PPs X pos keys es trs) ∧ (keys.length = es.length → ∀ σ H (Q : List (V × V) → Hp → Prop), tDs X.K T W P cs σ H (fun vs H2 => Q ((ks.map V.str).zip vs) H2) → tPairs trs σ H Q)
  | .nil, ks, G, X, W, sc, keys, es, pos, o, hk, h => by
    cases es with
    | nil =>
      cases keys with
      | nil =>
        cases ks with
        | nil =>
          refine ⟨[], fun _ => pps_nil, fun _ σ H Q q => ?_⟩
          obtain ⟨xt, ad, Γ, S, en, so, po⟩ := q
          simp only [evD] at po
          exact po [] ad H Step.refl so .nil
        | cons k ks => simp [keysB] at hk
      | cons k keys => exact ⟨[], fun z => by simp at z, fun z => by simp at z⟩
    | cons e es => simp [chkEs] at h
  | .cons c cs, ks, G, X, W, sc, keys, es, pos, o, hk, h => by
    cases es with
    | nil => simp [chkEs] at h
    | cons e es =>
      cases keys with
      | nil => exact ⟨[], fun z => by simp at z, fun z => by simp at z⟩
      | cons k0 keys =>
        cases ks with
        | nil => simp [keysB] at hk
        | cons k ks =>
          simp only [chkEs, Bool.and_eq_true] at h
          simp only [keysB, Bool.and_eq_true] at hk
          obtain ⟨trs, h1, h2⟩ := sndP cs ks (pos := pos) o hk.2 h.2
          obtain ⟨n, p, ek⟩ := key_of_B hk.1
          subst ek
          refine ⟨(tC (.str k), tE X.K T W P c) :: trs, fun z => pps_cons pe_str (sndE c o h.1.2) (h1 (by simpa using z)), fun z σ H Q q => ?_⟩
          obtain ⟨xt, ad, Γ, S, en, so, po⟩ := q
          simp only [evD] at po
          show tE X.K T W P c σ H _
          refine ⟨xt, ad, Γ, S, en, so, Post.bind po fun e1 S1 v1 ad1 H1 st1 so1 r1 po1 => ?_⟩
          cases e1 with
          | c n => exact po1.elim
          | d x =>
            refine h2 (by simpa using z) σ H1 _ ⟨xt, ad1, Γ, S1, envOk_step st1 en, so1, Post.bind (show Post _ _ _ _ _ _ _ ((evD P cs Γ S1).bind _) _ from po1) fun e2 S2 v2 ad2 H2 st2 so2 r2 po2 => ?_⟩
            exact po2 _ ad2 H2 Step.refl so2 (.cons (dp_mono st2.ex r1) r2)
theorem sndO : ∀ (c : CO) {G : Gt} {X : Cx} {W : WX} {sc : Scope} {e : Option Expr}, XOk T P G N X W sc → chkO G N sc c e = true → PO X e (tOo X.K T W P c)
  | .none, G, X, W, sc, e, o, h => by
    cases e with
    | none =>
      refine po_imp po_none fun σ H Q q => ?_
      obtain ⟨xt, ad, Γ, S, en, so, po⟩ := q
      simp only [evO] at po
      exact po none ad H Step.refl so rfl
    | some e => simp [chkO] at h
  | .some c, G, X, W, sc, e, o, h => by
    cases e with
    | none => simp [chkO] at h
    | some e =>
      simp only [chkO] at h
      refine po_imp (po_some (sndE c o h)) fun σ H Q q => ?_
      obtain ⟨xt, ad, Γ, S, en, so, po⟩ := q
      simp only [evO] at po
      refine ⟨xt, ad, Γ, S, en, so, Post.bind po fun e1 S1 v1 ad1 H1 st1 so1 r1 po1 => ?_⟩
      split at po1
      · rename_i i
        cases r1
        exact ⟨i, rfl, po1 _ ad1 H1 Step.refl so1 rfl⟩
      · exact po1.elim
theorem sndC : ∀ (c : CO) {G : Gt} {X : Cx} {W : WX} {sc : Scope} {es : List Expr}, XOk T P G N X W sc → chkC G N sc c es = true → PTs X es (tCc X.K T W P c)
  | .none, G, X, W, sc, es, o, h => by
    cases es with
    | nil =>
      refine ⟨fun pins s σ H Q I q => pts_nil.run pins s σ H Q I ?_⟩
      obtain ⟨xt, ad, Γ, S, en, so, po⟩ := q
      simp only [evC] at po
      exact po true ad H Step.refl so rfl
    | cons e es => simp [chkC] at h
  | .some c, G, X, W, sc, es, o, h => by
    match es, h with
    | [e], h =>
      simp only [chkC] at h
      refine ⟨fun pins s σ H Q I q => (pts_one (sndT c o h).1).run pins s σ H Q I ?_⟩
      obtain ⟨xt, ad, Γ, S, en, so, po⟩ := q
      simp only [evC] at po
      exact ⟨xt, ad, Γ, S, en, so, po⟩
    | [], h => simp [chkC] at h
    | _ :: _ :: _, h => simp [chkC] at h
theorem sndI : ∀ (c : CI) {G : Gt} {X : Cx} {W : WX} {sc : Scope} {t e : Expr}, XOk T P G N X W sc → chkI G N sc c t e = true → PI X t e (tIt X.K T W P c)
  | .seq c, G, X, W, sc, t, e, o, h => by
    simp only [chkI, Bool.and_eq_true] at h
    refine pi_imp (pi_seq (sndE c o h.2)) fun σ H Q q => ?_
    obtain ⟨xt, ad, Γ, S, en, so, po⟩ := q
    simp only [evI] at po
    refine ⟨xt, ad, Γ, S, en, so, Post.bind po fun e1 S1 v1 ad1 H1 st1 so1 r1 po1 => ?_⟩
    cases hs : seqI e1 S1 with
    | no => rw [hs] at po1; exact po1.elim
    | err x g s' => exact (seqI_err hs).elim
    | ok I S2 =>
      rw [hs] at po1
      obtain ⟨e2, h3⟩ := seqI_it so1 r1 hs
      subst e2
      rcases h3 with ⟨z, e3, h4⟩ | ⟨a, e3, h4⟩
      · exact .inl ⟨z, e3, po1 _ ad1 H1 Step.refl so1 h4⟩
      refine .inr ⟨a, e3, ?_⟩
      rcases h4 with ⟨h4, h5⟩ | ⟨h4, h5⟩
      · exact .inl ⟨h4, po1 _ ad1 H1 Step.refl so1 h5⟩
      · exact .inr ⟨h4, po1 _ ad1 H1 Step.refl so1 h5⟩
  | .rng1 a, G, X, W, sc, t, e, o, h => by
    obtain ⟨x, p, y, pos, he, h2⟩ := inv_rng1 h
    subst he
    clear h
    have h := h2
    clear h2
    simp only [Bool.and_eq_true, decide_eq_true_eq] at h
    obtain ⟨⟨⟨⟨h1, h2⟩, h3⟩, h4⟩, h5⟩ := h
    subst h1
    obtain ⟨g1, g2, g3⟩ := gl_of o.sc h2
    refine pi_imp (pi_range1 g1 (o.blt _ h3) (pa_cons (sndE a o h5) pa_nil (star_ok h4)) (star_ok h4)) fun σ H Q q => ?_
    obtain ⟨xt, ad, Γ, S, en, so, po⟩ := q
    simp only [evI] at po
    refine ⟨xt, ad, Γ, S, en, so, Post.bind po fun e1 S1 v1 ad1 H1 st1 so1 r1 po1 => ?_⟩
    split at po1
    · rename_i j
      split at po1
      · rename_i hj
        cases r1
        exact ⟨j, rfl, hj.1, hj.2, po1 _ ad1 H1 Step.refl so1 range_it⟩
      · exact po1.elim
    · exact po1.elim
  | .rng2 a b, G, X, W, sc, t, e, o, h => by
    obtain ⟨x, p, y, z, pos, he, h2⟩ := inv_rng2 h
    subst he
    clear h
    have h := h2
    clear h2
    simp only [Bool.and_eq_true, decide_eq_true_eq] at h
    obtain ⟨⟨⟨⟨⟨⟨h1, h2⟩, h3⟩, h4⟩, h5⟩, h6⟩, h7⟩ := h
    subst h1
    obtain ⟨g1, g2, g3⟩ := gl_of o.sc h2
    refine pi_imp (pi_range2 g1 (o.blt _ h3) (pa_cons (sndE a o h6) (pa_cons (sndE b o h7) pa_nil (star_ok h5)) (star_ok h4)) (by rw [star_ok h4, star_ok h5]; rfl) (star_ok h5)) fun σ H Q q => ?_
    obtain ⟨xt, ad, Γ, S, en, so, po⟩ := q
    simp only [evI] at po
    refine ⟨xt, ad, Γ, S, en, so, Post.bind po fun e1 S1 v1 ad1 H1 st1 so1 r1 po1 => ?_⟩
    refine ⟨xt, ad1, Γ, S1, envOk_step st1 en, so1, Post.bind po1 fun e2 S2 v2 ad2 H2 st2 so2 r2 po2 => ?_⟩
    split at po2
    · rename_i i j
      split at po2
      · rename_i hj
        cases r1
        cases r2
        exact ⟨i, j, rfl, hj, po2 _ ad2 H2 Step.refl so2 range_it⟩
      · exact po2.elim
    · exact po2.elim
  | .zip a b, G, X, W, sc, t, e, o, h => by
    obtain ⟨es, k, tp, x, p, y, z, pos, ht, he, h2⟩ := inv_zip h
    subst ht he
    clear h
    have h := h2
    clear h2
    simp only [Bool.and_eq_true, decide_eq_true_eq] at h
    obtain ⟨⟨⟨⟨⟨⟨h1, h2⟩, h3⟩, h4⟩, h5⟩, h6⟩, h7⟩ := h
    subst h1
    obtain ⟨g1, g2, g3⟩ := gl_of o.sc h2
    refine pi_imp (RZ.pi_zipA g1 (o.blt _ h3) (pa_cons (sndE a o h6) (pa_cons (sndE b o h7) pa_nil (star_ok h5)) (star_ok h4)) (by rw [star_ok h4]) (by rw [star_ok h5]; rfl)) fun σ H Q q => ?_
    obtain ⟨xt, ad, Γ, S, en, so, po⟩ := q
    simp only [evI] at po
    refine ⟨xt, ad, Γ, S, en, so, Post.bind po fun e1 S1 v1 ad1 H1 st1 so1 r1 po1 => ?_⟩
    refine ⟨xt, ad1, Γ, S1, envOk_step st1 en, so1, Post.bind po1 fun e2 S2 v2 ad2 H2 st2 so2 r2 po2 => ?_⟩
    have r1' := rdE_step st2 r1
    cases e1 with
    | c n => exact po2.elim
    | d x1 =>
      cases e2 with
      | c n => exact po2.elim
      | d y1 =>
        have r1' : Dp X.K (hide xt ad2 H2) v1 x1 := r1'
        have r2' : Dp X.K (hide xt ad2 H2) v2 y1 := r2
        simp only at po2
        cases hz : zipD x1 y1 with
        | none => rw [hz] at po2; exact po2.elim
        | some zs =>
          rw [hz] at po2
          cases r1' with
          | lst s1 d1 =>
            cases r2' with
            | lst s2 d2 =>
              have e := some_inj hz
              subst e
              exact ⟨_, _, _, _, rfl, .inl ⟨ex_l hide_ex s1, ex_l hide_ex s2, po2 _ ad2 H2 Step.refl so2 (zip_itL s1 s2 d1 d2)⟩⟩
            | _ => simp [zipD] at hz
          | tup s1 d1 =>
            cases r2' with
            | tup s2 d2 =>
              have e := some_inj hz
              subst e
              exact ⟨_, _, _, _, rfl, .inr ⟨ex_t hide_ex s1, ex_t hide_ex s2, po2 _ ad2 H2 Step.refl so2 (zip_itT s1 s2 d1 d2)⟩⟩
            | _ => simp [zipD] at hz
          | _ => simp [zipD] at hz
end
end
end Ht

set_option maxRecDepth 100000
set_option maxHeartbeats 16000000
/-! HtI: statements. -/
namespace Ht
open PySem L2 Evl PySem.SeqAt PyProof.Rows

/-! ### the check of statements -/
/-- a comprehension given to a local name on one line -/
def lcLocal (sc : Scope) (x : Str) (py : Pos) : Expr → Bool
  | .ListComp _ _ scope pos => (match sc.names.lookup x with | some .local => true | _ => false) && (py.line == pos.line) && !(scope.names.any fun (n, k) => n == x && (k == .local || k == .cell))
  | _ => false
def lcCell (sc : Scope) (x : Str) : Expr → Bool
  | .ListComp _ _ _ _ => (match sc.names.lookup x with | some .cell => true | _ => false)
  | _ => false
def notTup : Expr → Bool
  | .Tuple _ _ _ => false
  | _ => true
def isNm : Expr → Bool
  | .Name _ _ => true
  | _ => false
def isLn (sc : Scope) : Expr → Bool
  | .Name x _ => match sc.names.lookup x with
    | some .local => true
    | _ => false
  | _ => false
def asgB (sc : Scope) : Expr → Expr → Bool
  | .Name x py, v => noComp v || lcCell sc x v || lcLocal sc x py v
  | .Tuple ts _ _, .Tuple vs _ _ => noComp (.Name "" default) && (!(ts.length == 2 || ts.length == 3) || !ts.all (isLn sc) || vs.all (foldedForSure 8))
  | .Tuple _ _ _, v => noComp v
  | _, _ => false
def parB (sc : Scope) (x y : Str) (px py : Pos) (a b : Expr) : Bool :=
  (match sc.names.lookup x with | some .local => true | _ => false) && (match sc.names.lookup y with | some .local => true | _ => false) && (py.line == px.line) && !(x == y) && okE a && okE b &&
    !([a, b].all (foldedForSure 8)) && !([a, b].all (constantsAlone 8))
def parB3 (sc : Scope) (x y z : Str) (px py pz : Pos) (a b c : Expr) : Bool :=
  isLn sc (.Name x px) && isLn sc (.Name y py) && isLn sc (.Name z pz) && (py.line == px.line) && (pz.line == px.line) && !(x == y) && !(x == z) && !(y == z) && okE a && okE b && okE c &&
    !([a, b, c].all (foldedForSure 8)) && !([a, b, c].all (constantsAlone 8))
def parC3 (G : Gt) (N : List Str) (sc : Scope) (i j l : Nat) (a b c : CE) : Expr → Expr → Bool
  | .Tuple [.Name x px, .Name y py, .Name z pz] _ _, .Tuple [u, v, w] _ _ => decide (N[i]? = some x) && decide (N[j]? = some y) && decide (N[l]? = some z) && !(decide (i = j)) && !(decide (i = l)) && !(decide (j = l)) && parB3 sc x y z px py pz u v w && chkE G N sc a u && chkE G N sc b v && chkE G N sc c w
  | _, _ => false
def parC (G : Gt) (N : List Str) (sc : Scope) (i j : Nat) (a b : CE) : Expr → Expr → Bool
  | .Tuple [.Name x px, .Name y py] _ _, .Tuple [u, v] _ _ => decide (N[i]? = some x) && decide (N[j]? = some y) && !(decide (i = j)) && parB sc x y px py u v && chkE G N sc a u && chkE G N sc b v
  | _, _ => false
/-- lists just made -/
def chkN (G : Gt) (N : List Str) (sc : Scope) : CE → Expr → Bool
  | .lst es, .List xs _ => chkEs G N sc es xs
  | .bin .Mult (.lst es) k, .BinOp (.List xs _) .Mult y _ => chkEs G N sc es xs && chkE G N sc k y
  | _, _ => false
mutual
def chkS (G : Gt) (N : List Str) (sc : Scope) : CS → Stmt → Bool
  | .asg t e, .Assign [tg] v _ => chkT N sc (fun _ => true) t tg && asgB sc tg v && chkE G N sc e v
  | .own i e, .Assign [.Name x _] v _ => decide (N[i]? = some x) && locB sc (fun _ => true) x && chkN G N sc e v
  | .aug i op e, .AugAssign (.Name x _) op' v _ => decide (N[i]? = some x) && locB sc (fun _ => true) x && decide (op' = op) && (decide (op = .Add) || decide (op = .Sub)) && chkE G N sc e v
  | .par i j a b, .Assign [tg] v _ => parC G N sc i j a b tg v
  | .par3 i j l a b c, .Assign [tg] v _ => parC3 G N sc i j l a b c tg v
  | .sub o i e, .Assign [.Subscript x y _] v _ => okE y && noComp v && chkE G N sc o x && chkE G N sc i y && chkE G N sc e v
  | .exp e, .Expr v _ => noComp v && chkE G N sc e v
  | .ret e, .Return (some v) _ => chkE G N sc e v
  | .ret0, .Return none _ => true
  | .ite t a b, .If x u v _ => chkE G N sc t x && chkSs G N sc a u && chkSs G N sc b v
  | .loop t it body, .For tg iter b [] _ => chkI G N sc it tg iter && chkT N sc (fun _ => true) t tg && chkSs G N sc body b
  | .whl t body, .While x b [] _ => chkE G N sc t x && chkSs G N sc body b
  | .rais c e, .Raise (some (.Call (.Name x _) [a] [] _)) none _ => glB sc x && decide ((G.excs[c]?).map (·.1) = some x) && okE a && chkE G N sc e a
  | .tryx body i hs, .Try b (.ExceptHandler t (some n) su p :: r) [] [] _ => clsB N sc n i && chkHs G N sc n i hs (.ExceptHandler t (some n) su p :: r) && chkSs G N sc body b
  | .dead, _ => true
  | .pass, .Pass _ => true
  | .brk, .Break _ => true
  | .cnt, .Continue _ => true
  | _, _ => false
def chkSs (G : Gt) (N : List Str) (sc : Scope) : CSs → List Stmt → Bool
  | .nil, [] => true
  | .cons s ss, x :: xs => chkS G N sc s x && chkSs G N sc ss xs
  | _, _ => false
end

/-! ### side conditions of assignments -/
theorem swaps_tup {v : Expr} {ts : List Expr} {k : Nat} {p : Pos} {l : Nat} {env : Env} : swapsWith v (some (.Tuple ts k p)) l env = pure false := by
  cases v <;> rfl
theorem swaps_sub {v x y : Expr} {p : Pos} {l : Nat} {env : Env} : swapsWith v (some (.Subscript x y p)) l env = pure false := by
  cases v <;> rfl
theorem swaps_cell {v : Expr} {x : Str} {py : Pos} {l : Nat} {env : Env} {sc : Scope} (hs : env.scope = sc) (h : lcCell sc x v = true) : swapsWith v (some (.Name x py)) l env = pure false := by
  cases v with
  | ListComp e gs scope pos =>
    simp only [lcCell] at h
    split at h
    · rename_i q
      have hk : env.kindOf x = some .cell := by
        show env.scope.names.lookup x = _
        rw [hs]
        exact q
      unfold swapsWith
      simp only [hk]
      have : (some NameKind.cell == some NameKind.local) = false := by decide
      simp only [this, Bool.and_false, Bool.false_and]
    · cases h
  | _ => cases h
theorem stores_name {v : Expr} {x : Str} {py : Pos} {env : Env} : swappedStores [.Name x py] v env = pure none := by
  cases v <;> rfl
theorem stores_sub {v x y : Expr} {p : Pos} {env : Env} : swappedStores [.Subscript x y p] v env = pure none := by
  cases v <;> rfl
theorem stores_tup {v : Expr} {ts : List Expr} {k : Nat} {p : Pos} {env : Env} (h : notTup v = true) : swappedStores [.Tuple ts k p] v env = pure none := by
  cases v <;> first | rfl | cases h
theorem filt_short {nm : Expr → Bool} (f : Expr → Option Str) (hf : ∀ e, nm e = false → f e = none) : ∀ l : List Expr, l.all nm = false → (l.filterMap f).length < l.length
  | [], z => by cases z
  | e :: l, z => by
    rw [List.filterMap_cons]
    have key : (l.filterMap f).length ≤ l.length := List.length_filterMap_le _ _
    by_cases hl : l.all nm = false
    · have := filt_short f hf l hl
      split <;> simp only [List.length_cons] <;> omega
    · have hl' : l.all nm = true := by simpa using hl
      have he : nm e = false := by
        rw [List.all_cons, hl', Bool.and_true] at z
        exact z
      rw [hf e he]
      simp only [List.length_cons]
      omega
theorem stores_tt {ts vs : List Expr} {k k2 : Nat} {p p2 : Pos} {env : Env} {sc : Scope} (hsc : env.scope = sc) (h : (!(ts.length == 2 || ts.length == 3) || !ts.all (isLn sc) || vs.all (foldedForSure 8)) = true) : swappedStores [.Tuple ts k p] (.Tuple vs k2 p2) env = pure none := by
  unfold swappedStores
  dsimp only
  by_cases h1 : (!(ts.length == 2 || ts.length == 3) || vs.length != ts.length || env.blockKind != ScopeKind.function) = true
  · rw [if_pos h1]
  · rw [if_neg h1]
    have h1' : (!(ts.length == 2 || ts.length == 3) || vs.length != ts.length || env.blockKind != ScopeKind.function) = false := by simpa using h1
    split
    · rfl
    · split
      · rfl
      · rename_i h5
        by_cases h3 : ts.all (isLn sc) = false
        · refine absurd ?_ h5
          rw [Bool.or_eq_true]
          exact .inl (bne_iff_ne.mpr (Nat.ne_of_lt (filt_short _ (fun e he => by
            cases e with
            | Name x p =>
              have hk : (env.kindOf x == some NameKind.local) = false := by
                have e1 : env.kindOf x = sc.names.lookup x := by rw [← hsc]; rfl
                rw [e1]
                simp only [isLn] at he
                cases hq : sc.names.lookup x with
                | none => rfl
                | some k =>
                  rw [hq] at he
                  cases k <;> first | rfl | cases he
              simp only [hk, Bool.false_and, Bool.false_eq_true, if_false]
            | _ => rfl) ts h3)))
        · have h3' : ts.all (isLn sc) = true := by simpa using h3
          have h4 : vs.all (foldedForSure 8) = true := by
            rw [Bool.or_eq_false_iff, Bool.or_eq_false_iff] at h1'
            rw [h1'.1.1, h3'] at h
            simpa using h
          rw [if_pos h4]
theorem sw_par {x y : Str} {px py pt pt2 : Pos} {kt k2 : Nat} {a b : Expr} {env : Env} {sc : Scope} (hs : env.scope = sc) (hk : env.scope.kind = .function) (h : parB sc x y px py a b = true) :
    swappedStores [.Tuple [.Name x px, .Name y py] kt pt] (.Tuple [a, b] k2 pt2) env = pure (some [x, y]) := by
  unfold parB at h
  simp only [Bool.and_eq_true] at h
  obtain ⟨⟨⟨⟨⟨⟨⟨h1, h2⟩, h3⟩, h4⟩, h5⟩, h6⟩, h7⟩, h8⟩ := h
  have e1 : env.kindOf x = some .local := by
    show env.scope.names.lookup x = _
    rw [hs]
    split at h1
    · assumption
    · cases h1
  have e2 : env.kindOf y = some .local := by
    show env.scope.names.lookup y = _
    rw [hs]
    split at h2
    · assumption
    · cases h2
  have hb : env.blockKind = .function := by unfold Env.blockKind; rw [hk]; rfl
  have ha : ∀ f : Expr → Bool, (∀ e, okE e = true → f e = false) → [a, b].any f = false := fun f hf => by
    rw [List.any_cons, List.any_cons, List.any_nil, hf a h5, hf b h6]
    rfl
  have h7' : [a, b].all (foldedForSure 8) = false := by rw [Bool.not_eq_true'] at h7; exact h7
  have h8' : [a, b].all (constantsAlone 8) = false := by rw [Bool.not_eq_true'] at h8; exact h8
  have hp : py.line = px.line := by simpa using h3
  have hxy : x ≠ y := by simpa using h4
  have hn : ∀ f : Expr → Option Str, f (.Name x px) = some x → f (.Name y py) = some y → [Expr.Name x px, Expr.Name y py].filterMap f = [x, y] := fun f h1 h2 => by
    rw [List.filterMap_cons, h1, List.filterMap_cons, h2]
    rfl
  have hd : (([x, y] : List Str).length != 2 || ([x, y] : List Str).eraseDups.length != ([x, y] : List Str).length) = false := by
    have : ([x, y] : List Str).eraseDups = [x, y] := by
      rw [List.eraseDups_cons]
      have : ([y] : List Str).filter (fun b => !b == x) = [y] := by
        rw [List.filter_cons, if_pos (by simpa using fun z => hxy z.symm)]
        rfl
      rw [this, List.eraseDups_cons]
      simp
    rw [this]
    rfl
  unfold swappedStores
  dsimp only
  rw [if_neg (by rw [hb]; exact Bool.false_ne_true), if_neg (by rw [ha _ (fun e he => by cases e <;> first | rfl | cases he)]; exact Bool.false_ne_true)]
  rw [hn _ (by show (if (env.kindOf x == some NameKind.local && px.line == px.line) = true then some x else none) = some x; rw [e1]; simp)
    (by show (if (env.kindOf y == some NameKind.local && py.line == px.line) = true then some y else none) = some y; rw [e2, hp]; simp)]
  rw [if_neg (by show ¬ ((([x, y] : List Str).length != 2 || ([x, y] : List Str).eraseDups.length != ([x, y] : List Str).length) = true); rw [hd]; exact Bool.false_ne_true), if_neg (by rw [h7']; exact Bool.false_ne_true), if_neg (by rw [h8']; exact Bool.false_ne_true)]

theorem ln_of {sc : Scope} {x : Str} {p : Pos} (h : isLn sc (.Name x p) = true) : sc.names.lookup x = some .local := by
  simp only [isLn] at h
  split at h
  · assumption
  · cases h
theorem sw_par3 {x y z : Str} {px py pz pt pt2 : Pos} {kt k2 : Nat} {a b c : Expr} {env : Env} {sc : Scope} (hs : env.scope = sc) (hk : env.scope.kind = .function) (h : parB3 sc x y z px py pz a b c = true) :
    swappedStores [.Tuple [.Name x px, .Name y py, .Name z pz] kt pt] (.Tuple [a, b, c] k2 pt2) env = pure (some [x, y, z]) := by
  unfold parB3 at h
  simp only [Bool.and_eq_true] at h
  obtain ⟨⟨⟨⟨⟨⟨⟨⟨⟨⟨⟨⟨h1, h2⟩, h3⟩, h4⟩, h5⟩, h6⟩, h7⟩, h8⟩, h9⟩, h10⟩, h11⟩, h12⟩, h13⟩ := h
  have lk : ∀ {u : Str} {p : Pos}, isLn sc (.Name u p) = true → env.kindOf u = some .local := fun {u p} z => by
    show env.scope.names.lookup u = _
    rw [hs]
    exact ln_of z
  have e1 := lk h1
  have e2 := lk h2
  have e3 := lk h3
  have hb : env.blockKind = .function := by unfold Env.blockKind; rw [hk]; rfl
  have ha : ∀ f : Expr → Bool, (∀ e, okE e = true → f e = false) → [a, b, c].any f = false := fun f hf => by
    rw [List.any_cons, List.any_cons, List.any_cons, List.any_nil, hf a h9, hf b h10, hf c h11]
    rfl
  have h12' : [a, b, c].all (foldedForSure 8) = false := by rw [Bool.not_eq_true'] at h12; exact h12
  have h13' : [a, b, c].all (constantsAlone 8) = false := by rw [Bool.not_eq_true'] at h13; exact h13
  have hp : py.line = px.line := by simpa using h4
  have hq : pz.line = px.line := by simpa using h5
  have hxy : x ≠ y := by simpa using h6
  have hxz : x ≠ z := by simpa using h7
  have hyz : y ≠ z := by simpa using h8
  have hn : ∀ f : Expr → Option Str, f (.Name x px) = some x → f (.Name y py) = some y → f (.Name z pz) = some z → [Expr.Name x px, Expr.Name y py, Expr.Name z pz].filterMap f = [x, y, z] := fun f h1 h2 h3 => by
    rw [List.filterMap_cons, h1, List.filterMap_cons, h2, List.filterMap_cons, h3]
    rfl
  have hd : (([x, y, z] : List Str).length != 3 || ([x, y, z] : List Str).eraseDups.length != ([x, y, z] : List Str).length) = false := by
    have : ([x, y, z] : List Str).eraseDups = [x, y, z] := by
      rw [List.eraseDups_cons]
      have : ([y, z] : List Str).filter (fun b => !b == x) = [y, z] := by
        rw [List.filter_cons, if_pos (by simpa using fun z => hxy z.symm), List.filter_cons, if_pos (by simpa using fun z => hxz z.symm)]
        rfl
      rw [this, List.eraseDups_cons]
      have : ([z] : List Str).filter (fun b => !b == y) = [z] := by
        rw [List.filter_cons, if_pos (by simpa using fun z => hyz z.symm)]
        rfl
      rw [this, List.eraseDups_cons]
      simp
    rw [this]
    rfl
  unfold swappedStores
  dsimp only
  rw [if_neg (by rw [hb]; exact Bool.false_ne_true), if_neg (by rw [ha _ (fun e he => by cases e <;> first | rfl | cases he)]; exact Bool.false_ne_true)]
  rw [hn _ (by show (if (env.kindOf x == some NameKind.local && px.line == px.line) = true then some x else none) = some x; rw [e1]; simp)
    (by show (if (env.kindOf y == some NameKind.local && py.line == px.line) = true then some y else none) = some y; rw [e2, hp]; simp)
    (by show (if (env.kindOf z == some NameKind.local && pz.line == px.line) = true then some z else none) = some z; rw [e3, hq]; simp)]
  rw [if_neg (by show ¬ ((([x, y, z] : List Str).length != 3 || ([x, y, z] : List Str).eraseDups.length != ([x, y, z] : List Str).length) = true); rw [hd]; exact Bool.false_ne_true), if_neg (by rw [h12']; exact Bool.false_ne_true), if_neg (by rw [h13']; exact Bool.false_ne_true)]

/-! ### readings of statements -/
def PostS (K : PySem.W.Frag) (T : Xs) (W : WX) (xt ad : List Addr) (H : Hp) (r : R Flow) (D : Ends) : Prop :=
  match r with
  | .ok fl S => ∀ σ' ad' H', Step xt ad H ad' H' → StOk K T xt ad' S H' → match fl with
    | .nxt Γ => EnvOk K xt ad' Γ σ' H' → D.nx σ' H'
    | .brk Γ => EnvOk K xt ad' Γ σ' H' → D.bk σ' H'
    | .cnt Γ => EnvOk K xt ad' Γ σ' H' → D.ct σ' H'
    | .ret e => ∀ v, RdE K xt ad' H' v e → D.rt v H'
  | .err x Γ S => ∀ cls d ad' H' σ', Step xt ad H ad' H' → StOk K T xt ad' S H' → EnvOk K xt ad' Γ σ' H' → ExnOk K T (hide xt ad' H') x cls d → W cls d σ' H'
  | .no => False
def tSt (K : PySem.W.Frag) (T : Xs) (W : WX) (P : Ph) (c : CS) : TS := fun D σ H => ∃ xt ad Γ S, EnvOk K xt ad Γ σ H ∧ StOk K T xt ad S H ∧ PostS K T W xt ad H (sv P c Γ S) D
def tSs (K : PySem.W.Frag) (T : Xs) (W : WX) (P : Ph) (c : CSs) : TS := fun D σ H => ∃ xt ad Γ S, EnvOk K xt ad Γ σ H ∧ StOk K T xt ad S H ∧ PostS K T W xt ad H (svs P c Γ S) D
section
variable {K : PySem.W.Frag} {T : Xs} {W : WX} {xt ad ad1 : List Addr} {H H1 : Hp} {D : Ends}
theorem PostS.step {r : R Flow} (st : Step xt ad H ad1 H1) (h : PostS K T W xt ad H r D) : PostS K T W xt ad1 H1 r D := by
  cases r with
  | ok e S => exact fun σ' ad' H' s so => h σ' ad' H' (st.trans s) so
  | err x Γ S => exact fun cls d ad' H' σ' s so en xo => h cls d ad' H' σ' (st.trans s) so en xo
  | no => exact h
/-- first a part, then the rest -/
theorem PostS.bind {α β : Type} {Rel : List Addr → Hp → β → α → Prop} {σ : L2.St} {r : R α} {k : α → Sto → R Flow} {Q : β → Hp → Prop} (h : PostS K T W xt ad H (r.bind k) D)
    (hk : ∀ e S v ad1 H1, Step xt ad H ad1 H1 → StOk K T xt ad1 S H1 → Rel ad1 H1 v e → PostS K T W xt ad1 H1 (k e S) D → r = .ok e S → Q v H1) :
    Post K T (fun c d σ' H' => σ' = σ → W c d σ H') xt ad H Rel r Q := by
  cases r with
  | ok e S => exact fun v ad' H' s so re => hk e S v ad' H' s so re (PostS.step s h) rfl
  | err x Γ S => exact fun cls d ad' H' σ' s so en xo e => e ▸ h cls d ad' H' σ' s so en xo
  | no => exact h
end
structure SOk (T : Xs) (P : Ph) (G : Gt) (N : List Str) (X : Cx) (W : WX) (sc : Scope) : Prop where
  x : XOk T P G N X W sc
  fn1 : ∀ x, X.fn x = true
  ps : PassesOwn (model X.prog X.w) X.A X.env X.xe
  kd : X.env.scope.kind = .function
  stk : X.stack = X.env :: X.outer
  frm : X.env.frame = some X.env.locals
theorem ps_imp {X : Cx} {s : Stmt} {t t' : TS} (p : PS X s t) (i : ∀ D σ H, t' D σ H → t D σ H) : PS X s t' := ⟨fun pins s σ H D I h => p.run pins s σ H D I (i D σ H h)⟩
theorem pss_imp {X : Cx} {s : List Stmt} {t t' : TS} (p : PSs X s t) (i : ∀ D σ H, t' D σ H → t D σ H) : PSs X s t' := ⟨fun pins s σ H D I h => p.run pins s σ H D I (i D σ H h)⟩
/-! ### stores to places -/
theorem set_dict {X : Cx} (hu : X.A.units + 1 < cLine) : PSet X (fun o i v H Q => ∃ a H', o = .ref a ∧ DPut H a i v H' ∧ Q H') := by
  intro pins s σ H o i v ov iv u Q I ro ri rv h
  obtain ⟨a, H', rfl, g, q⟩ := h
  cases ro
  exact d_setItem hu I g ri rv fun s4 I4 => ⟨H', I4, q⟩
def rSub (T : Xs) (K : PySem.W.Frag) : V → V → V → Hp → (Hp → Prop) → Prop := fun o i v H Q => ∃ xt ad S eo ei ev S', StOk K T xt ad S H ∧ RdE K xt ad H o eo ∧ RdE K xt ad H i ei ∧ RdE K xt ad H v ev ∧ subE eo ei ev S = some S' ∧
  ∀ H', Step xt ad H ad H' → StOk K T xt ad S' H' → Q H'
theorem set_all {T : Xs} {X : Cx} (hu : X.A.units + 1 < cLine) : PSet X (rSub T X.K) := by
  intro pins s σ H o i v ov iv u Q I ro ri rv h
  obtain ⟨xt, ad, S, eo, ei, ee, S', so, r1, r2, r3, hg, q⟩ := h
  unfold subE at hg
  split at hg
  · rename_i n k x
    split at hg
    · rename_i kvs hn
      split at hg
      · rename_i hz
        have e := some_inj hg
        subst e
        obtain ⟨a, e1, e2⟩ := r1
        obtain ⟨a', e3, ws, e4, kv⟩ := so.at' n _ hn
        rw [e1] at e3
        cases e3
        cases r2
        have hp : a ∈ ad := List.mem_of_getElem? e1
        refine set_dict hu pins s σ H o _ v ov iv u Q I ro ri rv ⟨a, _, e2, DPut.k (k := .inr k) e4 (by rw [kv_len kv]; exact hz.1), ?_⟩
        have ep : L2.putK ws (.inr k) v = ws.map fun kv => if kv.1 = (.inr k : Key) then (kv.1, v) else kv := by
          unfold L2.putK
          rw [if_pos (kv_some kv hz.2)]
        rw [ep]
        obtain ⟨st, so1⟩ := step_set (o := .dK (ws.map fun kv => if kv.1 = (.inr k : Key) then (kv.1, v) else kv)) (c := .dct (putS kvs k x)) so e1 (by rw [hn]; intro _ z; cases z) ⟨_, upd_same, by rw [hide_upd (.inr hp)]; exact kv_put r3 kv⟩
        exact q _ st so1
      · split at hg
        · rename_i hz
          have e := some_inj hg
          subst e
          obtain ⟨a, e1, e2⟩ := r1
          obtain ⟨a', e3, ws, e4, kv⟩ := so.at' n _ hn
          rw [e1] at e3
          cases e3
          cases r2
          have hp : a ∈ ad := List.mem_of_getElem? e1
          refine set_dict hu pins s σ H o _ v ov iv u Q I ro ri rv ⟨a, _, e2, DPut.k (k := .inr k) e4 (by rw [kv_len kv]; exact hz.1), ?_⟩
          rw [putK_new (kv_new kv hz.2)]
          obtain ⟨st, so1⟩ := step_set (o := .dK (ws ++ [(.inr k, v)])) (c := .dct (kvs ++ [(k, x)])) so e1 (by rw [hn]; intro _ z; cases z) ⟨_, upd_same, by rw [hide_upd (.inr hp)]; exact kv_app r3 kv⟩
          exact q _ st so1
        · cases hg
    · cases hg
  · rename_i n j x
    split at hg
    · rename_i xs hn
      obtain ⟨m, hm, e⟩ := Option.map_eq_some_iff.mp hg
      subst e
      obtain ⟨a, e1, e2⟩ := r1
      obtain ⟨a', e3, vs, e4, da⟩ := so.at' n _ hn
      rw [e1] at e3
      cases e3
      cases r2
      have hp : a ∈ ad := List.mem_of_getElem? e1
      refine set_list pins s σ H o _ v ov iv u Q I ro ri rv ⟨a, vs, j, m, e2, rfl, e4, by rw [dpa_len da]; exact hm, ?_⟩
      obtain ⟨st, so1⟩ := step_set (o := .lst (vs.set m v)) (c := .lst (xs.set m x)) so e1 (by rw [hn]; intro _ z; cases z) ⟨_, upd_same, by rw [hide_upd (.inr hp)]; exact dpa_set r3 m da⟩
      exact q _ st so1
    · cases hg
  · cases hg
/-! ### a list just made -/
section
variable {T : Xs} {P : Ph} {G : Gt} {N : List Str} {X : Cx} {W : WX} {sc : Scope}
/-- a reading that hands on a new list, known to nobody -/
def tN (K : PySem.W.Frag) (T : Xs) (W : WX) (P : Ph) (c : CE) : TE := fun σ H Q => ∃ xt ad Γ S, EnvOk K xt ad Γ σ H ∧ StOk K T xt ad S H ∧ match ev P c Γ S with
  | .ok e S1 => ∀ p vs xs ad1 H1, e = .d (.list xs) → p ∉ xt → (∃ more, ad1 = ad ++ more) → Ex (hide xt ad H) (hide (p :: xt) ad1 H1) → (∀ a ∈ ad, H a ≠ none → H1 a ≠ none) → (∀ a ∈ xt, H a ≠ none → H1 a = H a) →
      StOk K T (p :: xt) ad1 S1 H1 → H1 p = some (.lst vs) → DpAll K (hide (p :: xt) ad1 H1) vs xs → Q (.ref p) H1
  | .err x Γ' S1 => Post K T (fun c d σ' H' => σ' = σ → W c d σ H') xt ad H (RdE K xt) (.err x Γ' S1) Q
  | .no => False
theorem inv_rep {op : Operator} {a k : CE} {e : Expr} (h : chkN G N sc (.bin op a k) e = true) : ∃ es xs p1 y p2, op = .Mult ∧ a = .lst es ∧ e = .BinOp (.List xs p1) .Mult y p2 ∧ chkEs G N sc es xs = true ∧ chkE G N sc k y = true := by
  unfold chkN at h
  split at h
  · rename_i e1; cases e1
  · rename_i es k' xs p1 y p2 e1
    cases e1
    rw [Bool.and_eq_true] at h
    exact ⟨es, xs, p1, y, _, rfl, rfl, rfl, h.1, h.2⟩
  · cases h
theorem sndN (o : XOk T P G N X W sc) {c : CE} {e : Expr} (h : chkN G N sc c e = true) : PE X e (tN X.K T W P c) := by
  cases c with
  | lst es =>
    cases e with
    | List xs pos =>
      simp only [chkN] at h
      refine pe_imp (pe_lst (sndD es o h)) fun σ H Q q => ?_
      obtain ⟨xt, ad, Γ, S, en, so, po⟩ := q
      simp only [ev] at po
      refine ⟨xt, ad, Γ, S, en, so, ?_⟩
      cases hd : evD P es Γ S with
      | no => rw [hd] at po; exact po.elim
      | err x g s' => rw [hd] at po; exact po
      | ok ds S1 =>
        rw [hd, R.bind_ok] at po
        intro vs ad1 H1 st1 so1 da
        by_cases hz : ds.length ≤ sizeLine
        · rw [if_pos hz] at po
          refine ⟨by rw [dpa_len da]; exact hz, fun p hp => ?_⟩
          obtain ⟨so2, x2⟩ := step_hide (o := .lst vs) so1 hp
          refine po p vs ds ad1 _ rfl (so1.new_notxt hp) st1.pre (st1.ex.trans x2) (fun a ha n => ?_) (fun a ha n => ?_) so2 upd_same (dpa_mono x2 da)
          · obtain ⟨m, em⟩ := st1.pre
            rw [upd_ne (not_eq_of (so1.new_notin hp) (by rw [em]; exact List.mem_append_left _ ha))]
            exact st1.cell a ha n
          · rw [upd_ne (not_eq_of (so1.new_notxt hp) ha)]
            exact st1.xs a ha n
        · rw [if_neg hz] at po
          exact po.elim
    | _ => simp [chkN] at h
  | bin op a k =>
    obtain ⟨es, xs, p1, y, p2, e1, e2, e3, h1, h2⟩ := inv_rep h
    subst e1 e2 e3
    refine pe_imp (pe_op op_rep (pe_lst (sndD es o h1)) (sndE k o h2)) fun σ H Q q => ?_
    obtain ⟨xt, ad, Γ, S, en, so, po⟩ := q
    simp only [ev] at po
    refine ⟨xt, ad, Γ, S, en, so, ?_⟩
    cases hd : evD P es Γ S with
    | no => rw [hd] at po; exact po.elim
    | err x g s' => rw [hd] at po; exact po
    | ok ds S1 =>
      rw [hd, R.bind_ok] at po
      intro vs ad1 H1 st1 so1 da
      by_cases hz : ds.length ≤ sizeLine
      · rw [if_pos hz, R.bind_ok] at po
        refine ⟨by rw [dpa_len da]; exact hz, fun p hp => ?_⟩
        obtain ⟨stN, soN, dpN⟩ := new_lst so1 hp da
        refine ⟨xt, ad1, Γ, S1, envOk_step (st1.trans stN) en, soN, ?_⟩
        cases hk : ev P k Γ S1 with
        | no => rw [hk] at po; exact po.elim
        | err x g s' =>
          rw [hk] at po
          exact Post.step (st1.trans stN) po
        | ok e2 S2 =>
          rw [hk, R.bind_ok] at po
          intro v2 ad2 H2 st2 so2 r2
          cases e2 with
          | c n =>
            have e0 : opt2 (binD .Mult) (.d (.list ds)) (.c n) S2 = .no := by
              cases hS : S2[n]? with
              | none => simp [opt2, peek, hS]
              | some cell => cases cell <;> simp [opt2, peek, hS, binD]
            rw [e0] at po
            exact po.elim
          | d y2 =>
            cases y2 with
            | int j =>
              have e0 : opt2 (binD .Mult) (.d (.list ds)) (.d (.int j)) S2 = opt (if j ≤ 100000 ∧ -100000 ≤ j ∧ ds.length * j.toNat ≤ sizeLine then some (.list (List.replicate j.toNat ds).flatten) else none) S2 := by
                show opt (binD .Mult (.list ds) (.int j)) S2 = _
                rw [binD]
              rw [e0] at po
              by_cases hj : j ≤ 100000 ∧ -100000 ≤ j ∧ ds.length * j.toNat ≤ sizeLine
              · rw [if_pos hj] at po
                have r2' : Dp X.K (hide xt ad2 H2) v2 (.int j) := r2
                cases r2'
                have hl : H2 p = some (.lst vs) := by
                  have e0 : hide xt ad1 (upd H1 p (.lst vs)) p = some (.lst vs) := by rw [hide_of (so1.new_notxt hp) (so1.new_notin hp), upd_same]
                  exact hide_ex _ _ (st2.ex _ _ e0)
                refine ⟨p, j, vs, rfl, rfl, hl, by omega, by omega, by rw [dpa_len da]; exact hj.2.2, fun p2 hp2 => ?_⟩
                have da2 := dpa_mono (stN.ex.trans st2.ex) da
                obtain ⟨so3, x3⟩ := step_hide (o := .lst (List.replicate j.toNat vs).flatten) so2 hp2
                have stT := (st1.trans stN).trans st2
                refine po p2 _ _ ad2 _ rfl (so2.new_notxt hp2) stT.pre (stT.ex.trans x3) (fun a ha n => ?_) (fun a ha n => ?_) so3 upd_same (dpa_mono x3 (dpa_rep da2 j.toNat))
                · obtain ⟨m, em⟩ := stT.pre
                  rw [upd_ne (not_eq_of (so2.new_notin hp2) (by rw [em]; exact List.mem_append_left _ ha))]
                  exact stT.cell a ha n
                · rw [upd_ne (not_eq_of (so2.new_notxt hp2) ha)]
                  exact stT.xs a ha n
              · rw [if_neg hj] at po
                exact po.elim
            | _ =>
              rw [show opt2 (binD .Mult) (.d (.list ds)) (.d _) S2 = (.no : R E) by simp [opt2, peek, binD]] at po
              exact po.elim
      · rw [if_neg hz] at po
        exact po.elim
  | _ => simp [chkN] at h
theorem own_snd {i : Nat} {e : CE} {D : Ends} {σ : L2.St} {H : Hp} (q : tSt X.K T W P (.own i e) D σ H) : tN X.K T W P e σ H (fun x H1 => gName i x σ H1 D.nx) := by
  obtain ⟨xt, ad, Γ, S, en, so, po⟩ := q
  simp only [sv] at po
  refine ⟨xt, ad, Γ, S, en, so, ?_⟩
  cases he : ev P e Γ S with
  | no => rw [he] at po; exact po.elim
  | err x g s' =>
    rw [he] at po
    exact fun cls d ad' H' σ' st so' en' xo z => z ▸ po cls d ad' H' σ' st so' en' xo
  | ok v S1 =>
    rw [he, R.bind_ok] at po
    intro p vs xs ad1 H1 ev1 hpx hm hx hc hxs so1 hp da
    subst ev1
    simp only [ownE, R.bind_ok] at po
    obtain ⟨so2, e2⟩ := step_keep (c := .lst xs) so1 hpx ⟨vs, hp, da⟩
    obtain ⟨m, em⟩ := hm
    have st : Step xt ad H (ad1 ++ [p]) H1 := ⟨⟨m ++ [p], by rw [em, List.append_assoc]⟩, by rw [e2]; exact hx, hc, hxs⟩
    refine po (σ.set i (some (.ref p))) (ad1 ++ [p]) H1 st so2 (env_set (envOk_step st en) ⟨p, ?_, rfl⟩)
    rw [List.getElem?_append_right (by rw [so1.len]; exact Nat.le_refl _), so1.len, Nat.sub_self]
    rfl
end

/-! ### loops -/
section
variable {T : Xs} {P : Ph} {G : Gt} {N : List Str} {X : Cx} {W : WX} {sc : Scope}
theorem bind_ok_inv {α β : Type} {r : R α} {f : α → Sto → R β} {b : β} {S : Sto} (h : r.bind f = .ok b S) : ∃ a S1, r = .ok a S1 ∧ f a S1 = .ok b S := by
  cases r with
  | ok a S1 => exact ⟨a, S1, rfl, h⟩
  | err x g s => cases h
  | no => cases h
theorem evI_still {it : CI} {Γ : Gm} {S S1 : Sto} {I : Its} (h : evI P it Γ S = .ok I S1) : Its.still I.w I.xs S1 := by
  cases it with
  | seq e =>
    simp only [evI] at h
    obtain ⟨x, S2, _, h⟩ := bind_ok_inv h
    unfold seqI at h
    split at h
    · cases h; trivial
    · split at h
      · cases h; trivial
      · cases h
    · split at h
      · rename_i xs hn
        cases h
        exact hn
      · cases h
  | rng1 a =>
    simp only [evI] at h
    obtain ⟨x, S2, _, h⟩ := bind_ok_inv h
    split at h
    · split at h
      · cases h; trivial
      · cases h
    · cases h
  | rng2 a b =>
    simp only [evI] at h
    obtain ⟨x, S2, _, h⟩ := bind_ok_inv h
    obtain ⟨y, S3, _, h⟩ := bind_ok_inv h
    split at h
    · split at h
      · cases h; trivial
      · cases h
    · cases h
  | zip a b =>
    simp only [evI] at h
    obtain ⟨x, S2, _, h⟩ := bind_ok_inv h
    obtain ⟨y, S3, _, h⟩ := bind_ok_inv h
    split at h
    · split at h
      · cases h; trivial
      · cases h
    · cases h
theorem loop_snd {t : CT} {it : CI} {body : CSs} {D : Ends} {σ : L2.St} {H : Hp} (q : tSt X.K T W P (.loop t it body) D σ H) : tFor (tIt X.K T W P it) (gT X.K t) (tSs X.K T W P body) D σ H := by
  obtain ⟨xt, ad, Γ, S, en, so, po⟩ := q
  simp only [sv] at po
  refine ⟨xt, ad, Γ, S, en, so, PostS.bind po fun I S1 J ad1 H1 st1 so1 hI po1 hev => ?_⟩
  generalize hF : (fun (x : PyData) (Γ1 : Gm) (S2 : Sto) => match putT t (.d x) Γ1 with
        | some Γ2 => svs P body Γ2 S2
        | none => R.no) = F at po1
  have hw0 : Its.still I.w I.xs S1 := evI_still hev
  let Wd : Nat → Nat → L2.St → Hp → Prop := fun i m σ2 H2 => m = I.xs.length - i ∧ i ≤ I.xs.length ∧ ∃ ad2 Γ2 S2, Step xt ad1 H1 ad2 H2 ∧ StOk X.K T xt ad2 S2 H2 ∧ EnvOk X.K xt ad2 Γ2 σ2 H2 ∧ Its.still I.w I.xs S2 ∧
    PostS X.K T W xt ad2 H2 (forR I.w I.xs F (I.xs.drop i) Γ2 S2) D
  refine ⟨Wd, ⟨I.xs.length, rfl, Nat.zero_le _, ad1, Γ, S1, Step.refl, so1, envOk_step st1 en, hw0, by rw [List.drop_zero]; exact po1⟩, ?_⟩
  rintro i m σ2 H2 ⟨rfl, hi, ad2, Γ2, S2, st2, so2, en2, hst, po2⟩
  have hIt := hI xt ad2 H2 S2 st2.pre st2.ex so2 hst i
  by_cases hlt : i < I.xs.length
  · refine .inr ⟨(hIt.1 I.xs[i] (List.getElem?_eq_getElem hlt)).1, fun σ' H' => ∃ m', m' < I.xs.length - i ∧ Wd (i + 1) m' σ' H', fun σ' H' h => h, fun v H3 hy => ?_⟩
    obtain ⟨st3, so3, dv⟩ := (hIt.1 I.xs[i] (List.getElem?_eq_getElem hlt)).2 v H3 hy
    rw [List.drop_eq_getElem_cons hlt] at po2
    simp only [forR] at po2
    rw [← hF] at po2
    simp only at po2
    cases hp : putT t (.d I.xs[i]) Γ2 with
    | none =>
      rw [hp] at po2
      exact po2.elim
    | some Γ3 =>
      rw [hp, hF] at po2
      simp only at po2
      refine ⟨xt, ad2, Γ2, .d I.xs[i], Γ3, envOk_step st3 en2, dv, hp, fun σ3 en3 _ => ?_⟩
      refine ⟨xt, ad2, Γ3, S2, en3, so3, ?_⟩
      have po3 := PostS.step st3 po2
      cases hb : svs P body Γ3 S2 with
      | no => rw [hb] at po3; exact po3.elim
      | err x g s' => rw [hb] at po3; exact po3
      | ok fl S4 =>
        rw [hb, R.bind_ok] at po3
        intro σ4 ad4 H4 st4 so4
        have again : ∀ Γ4, EnvOk X.K xt ad4 Γ4 σ4 H4 → PostS X.K T W xt ad2 H3 (open Classical in if Its.still I.w I.xs S4 then forR I.w I.xs F (I.xs.drop (i + 1)) Γ4 S4 else .no) D → ∃ m', m' < I.xs.length - i ∧ Wd (i + 1) m' σ4 H4 := fun Γ4 en4 po4 => by
          by_cases hs4 : Its.still I.w I.xs S4
          · rw [if_pos hs4] at po4
            exact ⟨_, by omega, rfl, hlt, ad4, Γ4, S4, (st2.trans st3).trans st4, so4, en4, hs4, PostS.step st4 po4⟩
          · rw [if_neg hs4] at po4
            exact po4.elim
        cases fl with
        | nxt Γ4 => exact fun en4 => again Γ4 en4 po3
        | cnt Γ4 => exact fun en4 => again Γ4 en4 po3
        | brk Γ4 => exact fun en4 => po3 σ4 ad4 H4 st4 so4 en4
        | ret e => exact fun v re => po3 σ4 ad4 H4 st4 so4 v re
  · have e : i = I.xs.length := by omega
    subst e
    refine .inl ⟨hIt.2 (Nat.le_refl _), ?_⟩
    rw [List.drop_length] at po2
    simp only [forR] at po2
    exact po2 σ2 ad2 H2 Step.refl so2 en2
theorem whl_snd {t : CE} {body : CSs} {D : Ends} {σ : L2.St} {H : Hp} (q : tSt X.K T W P (.whl t body) D σ H) : tWhile (tT X.K T W P t) (tSs X.K T W P body) D σ H := by
  obtain ⟨xt, ad, Γ, S, en, so, po⟩ := q
  simp only [sv] at po
  let Wd : Nat → L2.St → Hp → Prop := fun m σ2 H2 => ∃ ad2 Γ2 S2, Step xt ad H ad2 H2 ∧ StOk X.K T xt ad2 S2 H2 ∧ EnvOk X.K xt ad2 Γ2 σ2 H2 ∧
    PostS X.K T W xt ad2 H2 (whlR (fun Γ1 S1 => evT P t Γ1 S1) (fun Γ1 S1 => svs P body Γ1 S1) m Γ2 S2) D
  refine ⟨Wd, ⟨P.fuel, ad, Γ, S, Step.refl, so, en, po⟩, ?_⟩
  rintro m σ2 H2 ⟨ad2, Γ2, S2, st2, so2, en2, po2⟩
  cases m with
  | zero => exact po2.elim
  | succ m =>
    simp only [whlR] at po2
    refine ⟨xt, ad2, Γ2, S2, en2, so2, PostS.bind po2 fun b S3 b' ad3 H3 st3 so3 hb po3 _ => ?_⟩
    subst hb
    cases b' with
    | false =>
      rw [if_neg Bool.false_ne_true] at po3
      rw [if_neg Bool.false_ne_true]
      exact po3 σ2 ad3 H3 Step.refl so3 (envOk_step st3 en2)
    | true =>
      rw [if_pos rfl] at po3
      rw [if_pos rfl]
      refine ⟨fun σ' H' => Wd m σ' H', fun σ' H' h => ⟨m, Nat.lt_succ_self m, h⟩, xt, ad3, Γ2, S3, envOk_step st3 en2, so3, ?_⟩
      cases hb : svs P body Γ2 S3 with
      | no => rw [hb] at po3; exact po3.elim
      | err x g s' => rw [hb] at po3; exact po3
      | ok fl S4 =>
        rw [hb, R.bind_ok] at po3
        intro σ4 ad4 H4 st4 so4
        cases fl with
        | nxt Γ4 => exact fun en4 => ⟨ad4, Γ4, S4, (st2.trans st3).trans st4, so4, en4, PostS.step st4 po3⟩
        | cnt Γ4 => exact fun en4 => ⟨ad4, Γ4, S4, (st2.trans st3).trans st4, so4, en4, PostS.step st4 po3⟩
        | brk Γ4 => exact fun en4 => po3 σ4 ad4 H4 st4 so4 en4
        | ret e => exact fun v re => po3 σ4 ad4 H4 st4 so4 v re
end
end Ht

set_option maxRecDepth 100000
set_option maxHeartbeats 16000000
/-! HtX: raise, try. -/
namespace Ht
open PySem L2 Evl PySem.SeqAt PyProof.Rows

section
variable {T : Xs} {P : Ph} {G : Gt} {N : List Str} {X : Cx} {W : WX} {sc : Scope}
/-! ### an error made -/
def spI (C : Addr) (f : Str) : Sp := fun vs H Q _ => ∃ (a : Addr) (v : V), vs = [.ref a, v] ∧ H a = some (exo a C none) ∧ ∀ dx, H dx = none → dx ≠ a → Q .non (upd (upd H dx (exd dx [(f, v)])) a (exo a C (some dx)))
theorem ok_init {Pg : Program} {w : World} {K : PySem.W.Frag} {mg : Str → Option Value} {base : Heap} {c : Nat} {x f : Str} {C fI : Addr} {fd : FuncData} {q : Str} {st : Stmt} {p1 p2 p3 p4 : Pos} (oex : OexC K C) (no : PySem.W.findIn K (.ref C) f = some none)
    (F : Fun K "__init__" q st fI fd) (SC : FnScope [("self" : Str), f] [("self" : Str), f] (defScope st)) (hb : defBody st = [.Assign [.Attribute (.Name "self" p1) f p2] (.Name f p3) p4]) (n1 : f ≠ "__debug__") (n2 : f ≠ "__classdict__") :
    FnOk Pg w K mg base CX0 1 fI fd [("self" : Str), f] (spI C f) := by
  have vs : ∀ y ∈ [("self" : Str), f], Vis (defScope st) y := fun y hy => by
    rcases SC.par y hy with z | z
    · exact .inl z
    · exact .inr (.inl z)
  refine F.ok SC (fun vs H Q E h => ?_) (fun cdv A outer s H vs Q E hr h => ?_)
  · obtain ⟨a, v, rfl, _⟩ := h
    rfl
  · obtain ⟨a, v, rfl, ha, k⟩ := h
    have p0 := pe_var (X := (cxOf CX0 Pg w K mg base [("self" : Str), f] q (defScope st) fI cdv A outer s H E).nox) (i := 0) (x := "self") (pos := p1) rfl (vs _ (by simp)) (by decide) (by decide)
    have p1' := pe_var (X := (cxOf CX0 Pg w K mg base [("self" : Str), f] q (defScope st) fI cdv A outer s H E).nox) (i := 1) (x := f) (pos := p3) rfl (vs _ (by simp)) (by simpa using n1) (by simpa using n2)
    refine ⟨_, by rw [hb]; exact pss_one (ps_ost p0 p1' rfl), ?_⟩
    refine ⟨v, rfl, .ref a, rfl, a, C, rfl, oex, no, .inl ⟨ha, fun dx hx ne => ?_⟩⟩
    exact k dx hx ne
theorem exc_end {C : Addr} {f : Str} {v : V} {H1 : Hp} {Q : XK} (k : ∀ d, H1 d = none → Q (.ref C) (some d) (upd H1 d (.xd [(f, v)]))) : ([v] : List V).length ≤ 1000 ∧ ∀ a, H1 a = none → spI C f (.ref a :: ([v] ++ [])) (upd H1 a (exo a C none))
    (fun v H2 => v = .non ∧ ∃ (d : Addr) (fs : List (Str × V)), H2 a = some (exo a C (some d)) ∧ H2 d = some (exd d fs) ∧ H1 d = none ∧ Q (.ref C) (some d) (upd (del H2 a) d (.xd fs))) (fun _ _ _ => False) := by
  refine ⟨by show (1 : Nat) ≤ 1000; decide, fun a ha => ⟨a, v, rfl, upd_same, fun dx hx ne => ⟨rfl, dx, [(f, v)], upd_same, ?_, ?_, ?_⟩⟩⟩
  · rw [upd_ne ne, upd_same]
  · rw [upd_ne ne] at hx
    exact hx
  · have e : upd (del (upd (upd (upd H1 a (exo a C none)) dx (exd dx [(f, v)])) a (exo a C (some dx))) a) dx (.xd [(f, v)]) = upd H1 dx (.xd [(f, v)]) := by
      funext b
      by_cases h1 : b = dx
      · subst h1
        rw [upd_same, upd_same]
      · rw [upd_ne h1, upd_ne h1]
        by_cases h2 : b = a
        · subst h2
          rw [del_same, ha]
        · rw [del_ne h2, upd_ne h2, upd_ne h1, upd_ne h2]
    rw [e]
    rw [upd_ne ne] at hx
    exact k dx hx
theorem pmk_exc {c : Nat} {x f : Str} {C : Addr} (E : ExcT X.prog X.w X.K X.mg T c x f C) (hr : Room 2 X.A) (hg : Gl X x) (hdb : (x == ("__debug__" : Str)) = false) {a : Expr} {ta : TA} {p pos : Pos} (ha : PA X [a] ta) (hok : okE a = true) :
    PMk X (.Call (.Name x p) [a] [] pos) (tMkO C (spI C f) [] ta) := by
  obtain ⟨fI, fd, q, st, p1, p2, p3, p4, e1, e2, F, SC, hb, n1, n2, hbind⟩ := E.ini
  have F1 := ok_init (Pg := X.prog) (w := X.w) (mg := X.mg) (base := X.base) (c := c) (x := x) E.oex E.no F SC hb n1 n2
  exact pmk_oex (p := p) (pos := pos) E.oex e1 e2 F1 hr (F.binds (ps := [("self" : Str), f]) hbind) .nil pass0 hg E.gC ha hdb (star_ok hok) rfl
theorem rais_snd (o : SOk T P G N X W sc) {c : Nat} {e : CE} {x f : Str} {a : Expr} {p pos pos2 : Pos} (hx : G.excs[c]? = some (x, f)) (hgl : glB sc x = true) (hok : okE a = true) (he : chkE G N sc e a = true) :
    PS X (.Raise (some (.Call (.Name x p) [a] [] pos)) none pos2) (tSt X.K T W P (.rais c e)) := by
  obtain ⟨C, hT, E⟩ := o.x.exc c x f hx
  obtain ⟨g1, g2, _⟩ := gl_of o.x.sc hgl
  refine ps_imp (ps_raise o.x.calm o.x.tk (pmk_exc E o.x.rm2 g1 g2 (pa_cons (sndE e o.x he) pa_nil (star_ok hok)) hok)) fun D σ H q => ?_
  obtain ⟨xt, ad, Γ, S, en, so, po⟩ := q
  simp only [sv] at po
  refine ⟨xt, ad, Γ, S, en, so, PostS.bind po fun e1 S1 v1 ad1 H1 st1 so1 r1 po1 _ => ?_⟩
  cases e1 with
  | c n => exact po1.elim
  | d y =>
    have key : ∀ d, H1 d = none → W (.ref C) (some d) σ (upd H1 d (.xd [(f, v1)])) := fun d hd => ?_
    · exact exc_end (C := C) (f := f) (v := v1) (H1 := H1) (Q := fun cls d H' => W cls d σ H') key
    obtain ⟨st2, so2⟩ := step_new (o := .xd [(f, v1)]) so1 hd
    refine po1 (.ref C) (some d) ad1 _ σ st2 so2 (envOk_step (st1.trans st2) en) ⟨C, some f, hT, rfl, d, v1, rfl, ?_, dp_mono st2.ex r1⟩
    rw [hide_of (so1.new_notxt hd) (so1.new_notin hd), upd_same]

/-! ### an error caught -/
theorem tryx_snd (o : SOk T P G N X W sc) {body : CSs} {i : Nat} {hs : List (Nat × SU)} {b : List Stmt} {h0 : ExceptHandler} {hds : List ExceptHandler} {n : Str} {pos : Pos} (hc : clsB N sc n i = true) (hu : chkHs G N sc n i hs (h0 :: hds) = true)
    (hb : ∀ {X' : Cx} {W' : WX}, SOk T P G N X' W' sc → PSs X' b (tSs X'.K T W' P body)) :
    PS X (.Try b (h0 :: hds) [] [] pos) (tSt X.K T W P (.tryx body i hs)) := by
  obtain ⟨cok, hex⟩ := cls_ok o.x.exc (by rw [o.x.nm]; exact o.x.nd) o.fn1 o.x.sc o.x.nm hc hu
  have hc0 := hc
  simp only [clsB, Bool.and_eq_true, decide_eq_true_eq] at hc
  obtain ⟨⟨⟨b1, b2⟩, b3⟩, b4⟩ := hc
  have hl : sc.names.lookup n = some .local := by
    split at b2
    · assumption
    · cases b2
  have T1 := ps_try_cl (X := X) (n := n) (i := i) (body := b) (pos := pos) (tb := fun W => tSs X.K T W P body) (Wout := W) o.stk o.frm (by rw [o.x.nm]; exact o.x.nd) (by rw [o.x.nm]; exact b1) (show X.env.scope.names.lookup n = some .local by rw [o.x.sc]; exact hl) o.x.tk
    (fun W' pn xe tk ps => hb (X' := X.tr pn xe) ⟨⟨o.x.nm, o.x.sc, o.x.nd, o.x.units, o.x.grd, tk, o.x.calm, o.x.blt, o.x.con, o.x.fn, o.x.rm, o.x.lrm, o.x.exc, o.x.lam, o.x.cod, o.x.tnd⟩, o.fn1, ps, o.kd, o.stk, o.frm⟩) cok
  refine ps_imp T1 fun D σ H q => ?_
  obtain ⟨xt, ad, Γ, S, en, so, po⟩ := q
  simp only [sv] at po
  refine ⟨xt, ad, Γ, S, en, so, ?_⟩
  cases hr : svs P body Γ S with
  | no => rw [hr] at po; exact po.elim
  | ok fl S1 => rw [hr] at po; exact po
  | err y Γ1 S1 =>
    rw [hr] at po
    simp only [catR] at po
    rw [catC_find] at po
    intro cls d ad' H' σ' st so' en' xo
    have xo0 := xo
    obtain ⟨C', f', hT', rfl, xo⟩ := xo
    refine wcl_of (Wout := W) hT' hex (fun h C f hfd hcl hT a ha => ?_) fun hm => ?_
    · rw [hfd] at po
      rw [hcl, hT] at hT'
      cases hT'
      simp only at po
      cases hy : y.arg with
      | none => rw [hy] at xo; exact xo.elim
      | some z =>
        rw [hy] at xo po
        obtain ⟨dd, v, rfl, hdd, hdp⟩ := xo
        simp only at po
        unfold suR at po
        by_cases hlen : i < Γ1.length
        · simp only [if_pos hlen] at po
          have hlen' : i < σ'.length := by rw [← en'.1]; exact hlen
          have hsu : SuI i C' a f (.ref C') (some dd) v (σ'.set i (some (.ref a))) H' := ⟨List.getElem?_set_self hlen', rfl, dd, rfl, hide_ex _ _ hdd⟩
          have hij := su_ne hu h (List.mem_of_find?_eq_some hfd)
          generalize hu2 : h.2 = u at po hij ⊢
          cases u with
          | set j m xs =>
            simp only at po
            cases hs : suD z m xs with
            | none => rw [hs] at po; exact po.elim
            | some r =>
              rw [hs] at po
              refine rd_m so' hsu hdp hs fun w H2 st2 so2 dp2 => ?_
              show D.nx ((((σ'.set i (some (.ref a))).set j (some w)).set i none)) H2
              rw [set_back hij]
              exact po _ ad' H2 (st.trans st2) so2 (env_del (env_set (envOk_step st2 en') dp2))
          | ret m xs =>
            simp only at po
            cases hs : suD z m xs with
            | none => rw [hs] at po; exact po.elim
            | some r =>
              rw [hs] at po
              refine rd_m so' hsu hdp hs fun w H2 st2 so2 dp2 => ?_
              exact po (σ') ad' H2 (st.trans st2) so2 w dp2
        · simp only [if_neg hlen] at po
          exact po.elim
    · rw [hm] at po
      exact po _ d ad' H' σ' st so' en' xo0
end
end Ht

set_option maxRecDepth 100000
set_option maxHeartbeats 16000000
/-! HtJ: statements are sound; defs; the law's end. -/
namespace Ht
open PySem L2 Evl PySem.SeqAt PyProof.Rows

section
variable {T : Xs} {P : Ph} {G : Gt} {N : List Str} {X : Cx}
theorem asg_fin {W : WX} {K : PySem.W.Frag} {xt ad : List Addr} {H : Hp} {S : Sto} {Γ : Gm} {σ : L2.St} {t : CT} {x : E} {v : V} {D : Ends} (so : StOk K T xt ad S H) (en : EnvOk K xt ad Γ σ H) (re : RdE K xt ad H v x)
    (po : PostS K T W xt ad H (match putT t x Γ with
      | some Γ1 => .ok (.nxt Γ1) S
      | none => .no) D) : gT K t v σ H D.nx := by
  cases hp : putT t x Γ with
  | none => rw [hp] at po; exact po.elim
  | some Γ1 =>
    rw [hp] at po
    exact ⟨xt, ad, Γ, x, Γ1, en, re, hp, fun σ1 en1 _ => po σ1 ad H Step.refl so en1⟩
theorem asg_read {W : WX} {K : PySem.W.Frag} {t : CT} {e : CE} {D : Ends} {σ : L2.St} {H : Hp} (q : tSt K T W P (.asg t e) D σ H) : tAsg (tE K T W P e) (gT K t) D σ H := by
  obtain ⟨xt, ad, Γ, S, en, so, po⟩ := q
  simp only [sv] at po
  exact ⟨xt, ad, Γ, S, en, so, PostS.bind po fun x S1 v ad1 H1 st1 so1 re po1 _ => asg_fin so1 (envOk_step st1 en) re po1⟩
theorem inv_nam {sc : Scope} {fnB : Str → Bool} {t : CT} {x : Str} {py : Pos} (h : chkT N sc fnB t (.Name x py) = true) : ∃ i, t = .nam i ∧ N[i]? = some x := by
  cases t with
  | nam i =>
    simp only [chkT, Bool.and_eq_true, decide_eq_true_eq] at h
    exact ⟨i, rfl, h.1⟩
  | tup ts => simp [chkT] at h
theorem sole {t v : Expr} {l : Nat} {env : Env} : swapsWithSole [t] v l env = swapsWith v (some t) l env := by
  first | rfl | (unfold swapsWithSole; rfl) | simp [swapsWithSole]
theorem asg_snd {W : WX} {sc : Scope} (o : SOk T P G N X W sc) {t : CT} {e : CE} {tg v : Expr} {pos : Pos} (ht : chkT N sc (fun _ => true) t tg = true) (ha : asgB sc tg v = true) (he : chkE G N sc e v = true) :
    PS X (.Assign [tg] v pos) (tSt X.K T W P (.asg t e)) := by
  have hg := sndG o.x.nm o.x.sc o.x.nd o.x.calm (fun x _ => o.fn1 x) t tg ht
  have pe := sndE e (W := W) o.x he
  have plain : swapsWith v (some tg) pos.line X.env = pure false → swappedStores [tg] v X.env = pure none → (assignEach [tg] X.env).map (·.2) = [assign tg X.env] → PS X (.Assign [tg] v pos) (tSt X.K T W P (.asg t e)) := fun h1 h2 h3 =>
    ps_imp (ps_asg pe hg (sole.trans h1) h2 h3) fun D σ H q => asg_read q
  cases tg with
  | Name x py =>
    simp only [asgB, Bool.or_eq_true] at ha
    rcases ha with (ha | ha) | ha
    · exact plain (swaps_no ha) stores_name rfl
    · exact plain (swaps_cell o.x.sc ha) stores_name rfl
    · -- a comprehension into a local
      cases v with
      | ListComp elt gs scope p2 =>
        cases e with
        | lc elt' tg' it ts own =>
          obtain ⟨e', t', i', ifs, scope', pos', hv, h'⟩ := inv_lc he
          cases hv
          simp only [Bool.and_eq_true] at h'
          obtain ⟨⟨⟨⟨⟨h1, h2⟩, h3⟩, h4⟩, h5⟩, h6⟩ := h'
          have oki := okI_of h2
          have hi := sndI it (t := t') (W := W) o.x h2
          have hgb : ∀ (s : Shared) (H : Hp) (C : Addr) (cl : List (Str × Addr)) (fp : List Addr), PG (X.blk s H scope (compEnvC scope cl C X.env) fp) t' (gT X.K tg') := fun s H C cl fp => by
            have ob := o.x.blk s H C cl fp scope
            exact sndG ob.nm ob.sc ob.nd ob.calm (fun x hx => hx) tg' t' h3
          obtain ⟨i, ei, hN⟩ := inv_nam ht
          subst ei
          simp only [lcLocal, Bool.and_eq_true] at ha
          obtain ⟨⟨a1, a2⟩, a3⟩ := ha
          have hl : X.env.scope.names.lookup x = some .local := by
            rw [o.x.sc]
            split at a1
            · assumption
            · cases a1
          have hsw := sw_true (elt := elt) (gs := [⟨t', i', ifs, 0⟩]) (py := py) (l := pos.line) o.kd hl a2 (by simpa using a3)
          have hts : ∀ (s : Shared) (H : Hp) (C : Addr) (cl : List (Str × Addr)) (fp : List Addr), PTs (X.blk s H scope (compEnvC scope cl C X.env) fp) ifs (tCc X.K T (fun _ _ _ _ => False) P ts) := fun s H C cl fp => sndC ts (o.x.blk s H C cl fp scope) h5
          have hel : ∀ (s : Shared) (H : Hp) (C : Addr) (cl : List (Str × Addr)) (fp : List Addr), PE (X.blk s H scope (compEnvC scope cl C X.env) fp) elt (tE X.K T (fun _ _ _ _ => False) P elt') := fun s H C cl fp => sndE elt' (o.x.blk s H C cl fp scope) h6
          refine ps_imp (ps_setLc (i := i) o.x.calm (by rw [o.x.nm]; exact o.x.nd) (by rw [o.x.nm]; exact hN) hl hsw hi (by rw [o.x.nm, o.x.sc]; exact blkOk_by h1) hgb hts hel (fun x => fold_ok oki x)) fun D σ H q => ?_
          have q2 := asg_read q
          refine lc_snd (pos := p2) o.x h1 h4 oki hi hgb hts hel σ H _ ?_
          obtain ⟨xt, ad, Γ, S, en, so, po⟩ := q
          simp only [sv] at po
          refine ⟨xt, ad, Γ, S, en, so, PostS.bind po fun x2 S1 v2 ad1 H1 st1 so1 re po1 _ => ?_⟩
          simp only [putT] at po1
          exact po1 _ ad1 H1 Step.refl so1 (env_set (envOk_step st1 en) re)
        | lc2 elt' tg' it ts own tg1 it1 ts1 own1 =>
          obtain ⟨e', t', i', ifs, t1, i1, ifs1, scope', pos', hv, h'⟩ := inv_lc2 he
          cases hv
          simp only [Bool.and_eq_true] at h'
          obtain ⟨⟨⟨⟨⟨⟨⟨⟨⟨⟨h1, hv⟩, h2⟩, h3⟩, h4⟩, h5⟩, k2⟩, k3⟩, k4⟩, k5⟩, h6⟩ := h'
          have oki := okI_of h2
          have oki1 := okI_of k2
          have hi := sndI it (t := t') (W := W) o.x h2
          have hv' : ∀ i ∈ own1, i ∈ (ownL N own).map (·.2) := fun i hi => by
            have := List.contains_iff_mem.mp (List.all_eq_true.mp hv i hi)
            unfold ownL
            rw [List.map_map]
            exact List.mem_map.mpr ⟨i, this, rfl⟩
          have hgb : ∀ (s : Shared) (H : Hp) (C : Addr) (cl : List (Str × Addr)) (fp : List Addr), PG (X.blk s H scope (compEnvC scope cl C X.env) fp) t' (gT X.K tg') := fun s H C cl fp => by
            have ob := o.x.blk s H C cl fp scope
            exact sndG ob.nm ob.sc ob.nd ob.calm (fun x hx => hx) tg' t' h3
          have hg1 : ∀ (s : Shared) (H : Hp) (C : Addr) (cl : List (Str × Addr)) (fp : List Addr), PG (X.blk s H scope (compEnvC scope cl C X.env) fp) t1 (gT X.K tg1) := fun s H C cl fp => by
            have ob := o.x.blk s H C cl fp scope
            exact sndG ob.nm ob.sc ob.nd ob.calm (fun x hx => hx) tg1 t1 k3
          obtain ⟨i, ei, hN⟩ := inv_nam ht
          subst ei
          simp only [lcLocal, Bool.and_eq_true] at ha
          obtain ⟨⟨a1, a2⟩, a3⟩ := ha
          have hl : X.env.scope.names.lookup x = some .local := by
            rw [o.x.sc]
            split at a1
            · assumption
            · cases a1
          have hsw := sw_true (elt := elt) (gs := [⟨t', i', ifs, 0⟩, ⟨t1, i1, ifs1, 0⟩]) (py := py) (l := pos.line) o.kd hl a2 (by simpa using a3)
          have hts : ∀ (s : Shared) (H : Hp) (C : Addr) (cl : List (Str × Addr)) (fp : List Addr), PTs (X.blk s H scope (compEnvC scope cl C X.env) fp) ifs (tCc X.K T (fun _ _ _ _ => False) P ts) := fun s H C cl fp => sndC ts (o.x.blk s H C cl fp scope) h5
          have hts1 : ∀ (s : Shared) (H : Hp) (C : Addr) (cl : List (Str × Addr)) (fp : List Addr), PTs (X.blk s H scope (compEnvC scope cl C X.env) fp) ifs1 (tCc X.K T (fun _ _ _ _ => False) P ts1) := fun s H C cl fp => sndC ts1 (o.x.blk s H C cl fp scope) k5
          have hi1 : ∀ (s : Shared) (H : Hp) (C : Addr) (cl : List (Str × Addr)) (fp : List Addr), PI (X.blk s H scope (compEnvC scope cl C X.env) fp) t1 i1 (tIt X.K T (fun _ _ _ _ => False) P it1) := fun s H C cl fp => sndI it1 (t := t1) (o.x.blk s H C cl fp scope) k2
          have hel : ∀ (s : Shared) (H : Hp) (C : Addr) (cl : List (Str × Addr)) (fp : List Addr), PE (X.blk s H scope (compEnvC scope cl C X.env) fp) elt (tE X.K T (fun _ _ _ _ => False) P elt') := fun s H C cl fp => sndE elt' (o.x.blk s H C cl fp scope) h6
          refine ps_imp (ps_setLc2 (i := i) (vs1 := own1) o.x.calm (by rw [o.x.nm]; exact o.x.nd) (by rw [o.x.nm]; exact hN) hl hsw hi (by rw [o.x.nm, o.x.sc]; exact blkOk_by h1) hv' hgb hts hi1 hg1 hts1 hel (fun x => fold_ok oki x) (fun env x => fold_ok oki1 x)) fun D σ H q => ?_
          refine lc2_snd (T := T) (P := P) (W := W) h4 k4 σ H _ ?_
          obtain ⟨xt, ad, Γ, S, en, so, po⟩ := q
          simp only [sv] at po
          refine ⟨xt, ad, Γ, S, en, so, PostS.bind po fun x2 S1 v2 ad1 H1 st1 so1 re po1 _ => ?_⟩
          simp only [putT] at po1
          exact po1 _ ad1 H1 Step.refl so1 (env_set (envOk_step st1 en) re)
        | mk m =>
          cases m with
          | lst es => simp [chkE, chkM0'] at he
          | lis a => simp [chkE, chkM0'] at he
          | lc elt' tg' it ts own =>
            obtain ⟨e', t', i', ifs, scope', pos', hv, h'⟩ := inv_mlc (by simpa only [chkE] using he)
            cases hv
            simp only [Bool.and_eq_true] at h'
            obtain ⟨⟨⟨⟨⟨h1, h2⟩, h3⟩, h4⟩, h5⟩, h6⟩ := h'
            have oki := okI_of h2
            have hi := sndI it (t := t') (W := W) o.x h2
            have hgb : ∀ (s : Shared) (H : Hp) (C : Addr) (cl : List (Str × Addr)) (fp : List Addr), PG (X.blk s H scope (compEnvC scope cl C X.env) fp) t' (gT X.K tg') := fun s H C cl fp => by
              have ob := o.x.blk s H C cl fp scope
              exact sndG ob.nm ob.sc ob.nd ob.calm (fun x hx => hx) tg' t' h3
            obtain ⟨i, ei, hN⟩ := inv_nam ht
            subst ei
            simp only [lcLocal, Bool.and_eq_true] at ha
            obtain ⟨⟨a1, a2⟩, a3⟩ := ha
            have hl : X.env.scope.names.lookup x = some .local := by
              rw [o.x.sc]
              split at a1
              · assumption
              · cases a1
            have hsw := sw_true (elt := elt) (gs := [⟨t', i', ifs, 0⟩]) (py := py) (l := pos.line) o.kd hl a2 (by simpa using a3)
            have hts : ∀ (s : Shared) (H : Hp) (C : Addr) (cl : List (Str × Addr)) (fp : List Addr), PTs (X.blk s H scope (compEnvC scope cl C X.env) fp) ifs (tCc X.K T (fun _ _ _ _ => False) P ts) := fun s H C cl fp => sndC ts (o.x.blk s H C cl fp scope) h5
            have hel : ∀ (s : Shared) (H : Hp) (C : Addr) (cl : List (Str × Addr)) (fp : List Addr), PE (X.blk s H scope (compEnvC scope cl C X.env) fp) elt (tE X.K T (fun _ _ _ _ => False) P elt') := fun s H C cl fp => sndE elt' (o.x.blk s H C cl fp scope) h6
            refine ps_imp (ps_setLc (i := i) o.x.calm (by rw [o.x.nm]; exact o.x.nd) (by rw [o.x.nm]; exact hN) hl hsw hi (by rw [o.x.nm, o.x.sc]; exact blkOk_by h1) hgb hts hel (fun x => fold_ok oki x)) fun D σ H q => ?_
            refine lcm_snd (T := T) (P := P) (W := W) h4 σ H _ ?_
            obtain ⟨xt, ad, Γ, S, en, so, po⟩ := q
            simp only [sv] at po
            refine ⟨xt, ad, Γ, S, en, so, PostS.bind po fun x2 S1 v2 ad1 H1 st1 so1 re po1 _ => ?_⟩
            simp only [putT] at po1
            exact po1 _ ad1 H1 Step.refl so1 (env_set (envOk_step st1 en) re)
        | _ => simp [chkE] at he
      | _ => simp [lcLocal] at ha
  | Tuple ts k p2 =>
    have h3 : (assignEach [Expr.Tuple ts k p2] X.env).map (·.2) = [assign (.Tuple ts k p2) X.env] := rfl
    cases v with
    | Tuple vs k2 p3 =>
      simp only [asgB, Bool.and_eq_true] at ha
      exact plain swaps_tup (stores_tt o.x.sc ha.2) h3
    | _ => exact plain swaps_tup (stores_tup rfl) h3
  | _ => simp [asgB] at ha
theorem inv_asg {sc : Scope} {t : CT} {e : CE} {s : Stmt} (h : chkS G N sc (.asg t e) s = true) : ∃ tg v pos, s = .Assign [tg] v pos ∧ (chkT N sc (fun _ => true) t tg && asgB sc tg v && chkE G N sc e v) = true := by
  cases s with
  | Assign ts v pos =>
    match ts, h with
    | [tg], h => exact ⟨tg, v, pos, rfl, by simpa only [chkS] using h⟩
    | [], h => exact absurd (show false = true from h) (by decide)
    | e1 :: e2 :: r, h => first | exact absurd (show false = true from h) (by decide) | (cases e1 <;> first | exact absurd (show false = true from h) (by decide) | (cases e2 <;> exact absurd (show false = true from h) (by decide)))
  | _ => exact absurd (show false = true from h) (by decide)
theorem inv_own {sc : Scope} {i : Nat} {e : CE} {s : Stmt} (h : chkS G N sc (.own i e) s = true) : ∃ x py v pos, s = .Assign [.Name x py] v pos ∧ (decide (N[i]? = some x) && locB sc (fun _ => true) x && chkN G N sc e v) = true := by
  cases s with
  | Assign ts v pos =>
    match ts, h with
    | [tg], h =>
      cases tg with
      | Name x py => exact ⟨x, py, v, pos, rfl, by simpa only [chkS] using h⟩
      | _ => exact absurd (show false = true from h) (by decide)
    | [], h => exact absurd (show false = true from h) (by decide)
    | e1 :: e2 :: r, h => first | exact absurd (show false = true from h) (by decide) | (cases e1 <;> first | exact absurd (show false = true from h) (by decide) | (cases e2 <;> exact absurd (show false = true from h) (by decide)))
  | _ => exact absurd (show false = true from h) (by decide)
theorem inv_sub {sc : Scope} {a i e : CE} {s : Stmt} (h : chkS G N sc (.sub a i e) s = true) : ∃ x y p v pos, s = .Assign [.Subscript x y p] v pos ∧ (okE y && noComp v && chkE G N sc a x && chkE G N sc i y && chkE G N sc e v) = true := by
  cases s with
  | Assign ts v pos =>
    match ts, h with
    | [tg], h =>
      cases tg with
      | Subscript x y p => exact ⟨x, y, p, v, pos, rfl, by simpa only [chkS] using h⟩
      | _ => exact absurd (show false = true from h) (by decide)
    | [], h => exact absurd (show false = true from h) (by decide)
    | e1 :: e2 :: r, h => first | exact absurd (show false = true from h) (by decide) | (cases e1 <;> first | exact absurd (show false = true from h) (by decide) | (cases e2 <;> exact absurd (show false = true from h) (by decide)))
  | _ => exact absurd (show false = true from h) (by decide)
theorem inv_par {sc : Scope} {i j : Nat} {a b : CE} {s : Stmt} (h : chkS G N sc (.par i j a b) s = true) : ∃ x px y py k p u v k2 p2 pos, s = .Assign [.Tuple [.Name x px, .Name y py] k p] (.Tuple [u, v] k2 p2) pos ∧
    (decide (N[i]? = some x) && decide (N[j]? = some y) && !(decide (i = j)) && parB sc x y px py u v && chkE G N sc a u && chkE G N sc b v) = true := by
  have h1 : ∃ tg v pos, s = .Assign [tg] v pos ∧ parC G N sc i j a b tg v = true := by
    cases s with
    | Assign ts v pos =>
      match ts, h with
      | [tg], h => exact ⟨tg, v, pos, rfl, h⟩
      | [], h => exact absurd (show false = true from h) (by decide)
      | e1 :: e2 :: r, h => exact absurd (show false = true from h) (by decide)
    | _ => exact absurd (show false = true from h) (by decide)
  obtain ⟨tg, v, pos, rfl, h1⟩ := h1
  unfold parC at h1
  split at h1
  · exact ⟨_, _, _, _, _, _, _, _, _, _, _, rfl, h1⟩
  · cases h1
theorem plain_set {i : Expr} {o : Expr} {pos : Pos} {env : Env} (h : okE i = true) (v : Value) : assign (.Subscript o i pos) env v = (do
      let ov ← holding [v] (eval o env)
      let iv ← holding [v, ov] (eval i env)
      standAt pos
      holding [v, ov, iv] (setItem ov iv v)
      release [v, ov, iv] []) := by
  cases i <;> first | rfl | cases h
theorem inv_par3 {sc : Scope} {i j l : Nat} {a b c : CE} {s : Stmt} (h : chkS G N sc (.par3 i j l a b c) s = true) : ∃ x px y py z pz k p u v w k2 p2 pos, s = .Assign [.Tuple [.Name x px, .Name y py, .Name z pz] k p] (.Tuple [u, v, w] k2 p2) pos ∧
    (decide (N[i]? = some x) && decide (N[j]? = some y) && decide (N[l]? = some z) && !(decide (i = j)) && !(decide (i = l)) && !(decide (j = l)) && parB3 sc x y z px py pz u v w && chkE G N sc a u && chkE G N sc b v && chkE G N sc c w) = true := by
  have h1 : ∃ tg v pos, s = .Assign [tg] v pos ∧ parC3 G N sc i j l a b c tg v = true := by
    cases s with
    | Assign ts v pos =>
      match ts, h with
      | [tg], h => exact ⟨tg, v, pos, rfl, h⟩
      | [], h => exact absurd (show false = true from h) (by decide)
      | e1 :: e2 :: r, h => exact absurd (show false = true from h) (by decide)
    | _ => exact absurd (show false = true from h) (by decide)
  obtain ⟨tg, v, pos, rfl, h1⟩ := h1
  unfold parC3 at h1
  split at h1
  · exact ⟨_, _, _, _, _, _, _, _, _, _, _, _, _, _, rfl, h1⟩
  · cases h1
theorem inv_aug {sc : Scope} {i : Nat} {op : Operator} {e : CE} {s : Stmt} (h : chkS G N sc (.aug i op e) s = true) : ∃ x p v pos, s = .AugAssign (.Name x p) op v pos ∧ N[i]? = some x ∧ locB sc (fun _ => true) x = true ∧ (op = .Add ∨ op = .Sub) ∧ chkE G N sc e v = true := by
  unfold chkS at h
  split at h <;> first | contradiction | skip
  all_goals (rename_i e1; cases e1)
  simp only [Bool.and_eq_true, Bool.or_eq_true, decide_eq_true_eq] at h
  obtain ⟨⟨⟨⟨h1, h2⟩, h3⟩, h4⟩, h5⟩ := h
  subst h3
  exact ⟨_, _, _, _, rfl, h1, h2, h4, h5⟩
theorem inv_rais {sc : Scope} {c : Nat} {e : CE} {s : Stmt} (h : chkS G N sc (.rais c e) s = true) : ∃ x f a p pos pos2, s = .Raise (some (.Call (.Name x p) [a] [] pos)) none pos2 ∧ G.excs[c]? = some (x, f) ∧ glB sc x = true ∧ okE a = true ∧ chkE G N sc e a = true := by
  unfold chkS at h
  split at h <;> first | contradiction | skip
  all_goals (rename_i e1; cases e1)
  rename_i x p a pos pos2
  simp only [Bool.and_eq_true, decide_eq_true_eq] at h
  obtain ⟨⟨⟨h1, h2⟩, h3⟩, h4⟩ := h
  obtain ⟨⟨y, f⟩, e1, e2⟩ := Option.map_eq_some_iff.mp h2
  simp only at e2
  subst e2
  exact ⟨y, f, a, p, pos, pos2, rfl, e1, h1, h3, h4⟩
theorem inv_tryx {sc : Scope} {body : CSs} {i : Nat} {hs : List (Nat × SU)} {s : Stmt} (h : chkS G N sc (.tryx body i hs) s = true) : ∃ n b h0 r pos, s = .Try b (h0 :: r) [] [] pos ∧ clsB N sc n i = true ∧ chkHs G N sc n i hs (h0 :: r) = true ∧ chkSs G N sc body b = true := by
  unfold chkS at h
  split at h <;> first | contradiction | skip
  all_goals (rename_i e1; cases e1)
  simp only [Bool.and_eq_true] at h
  exact ⟨_, _, _, _, _, rfl, h.1.1, h.1.2, h.2⟩
mutual
theorem sndS : ∀ (c : CS) {X : Cx} {W : WX} {sc : Scope} {s : Stmt}, SOk T P G N X W sc → chkS G N sc c s = true → PS X s (tSt X.K T W P c)
  | .asg t e, X, W, sc, s, o, h => by
    obtain ⟨tg, v, pos, hs, h2⟩ := inv_asg h
    subst hs
    simp only [Bool.and_eq_true] at h2
    exact asg_snd o h2.1.1 h2.1.2 h2.2
  | .own i e, X, W, sc, s, o, h => by
    obtain ⟨x, py, v, pos, hs, h2⟩ := inv_own h
    subst hs
    simp only [Bool.and_eq_true, decide_eq_true_eq] at h2
    obtain ⟨hl, hl2⟩ := loc_of o.x.sc (fun x _ => o.fn1 x) h2.1.2
    have hnc : noComp v = true := by
      have := h2.2
      unfold chkN at this
      split at this
      · rfl
      · rfl
      · cases this
    refine ps_imp (ps_set (i := i) (by rw [o.x.nm]; exact o.x.nd) (by rw [o.x.nm]; exact h2.1.1) hl (sndN o.x h2.2) (swaps_no hnc) hl2) fun D σ H q => own_snd q
  | .aug i op e, X, W, sc, s, o, h => by
    obtain ⟨x, p, v, pos, hs, h1, h2, h3, h4⟩ := inv_aug h
    subst hs
    obtain ⟨hl, hl2⟩ := loc_of o.x.sc (fun x _ => o.fn1 x) h2
    have key : ∀ (f : Int → Int → Int), (∀ a b, augI op a b = some (f a b)) → PIp X op (ipI f) → PS X (.AugAssign (.Name x p) op v pos) (tSt X.K T W P (.aug i op e)) := fun f hf ho => by
      refine ps_imp (ps_aug (i := i) (by rw [o.x.nm]; exact o.x.nd) (by rw [o.x.nm]; exact h1) hl (sndE e o.x h4) ho hl2) fun D σ H q => ?_
      obtain ⟨xt, ad, Γ, S, en, so, po⟩ := q
      simp only [sv] at po
      cases hg : Γ[i]? with
      | none => rw [hg] at po; exact po.elim
      | some o1 =>
        cases o1 with
        | none => rw [hg] at po; exact po.elim
        | some e0 =>
          cases e0 with
          | c n => rw [hg] at po; exact po.elim
          | d y =>
            cases y with
            | int a =>
              rw [hg] at po
              obtain ⟨u, hu, rd⟩ := en.2 i _ hg
              have eu : u = .int a := by cases rd; rfl
              subst eu
              refine ⟨.int a, hu, xt, ad, Γ, S, en, so, PostS.bind po fun x2 S1 v2 ad1 H1 st1 so1 re po1 _ => ?_⟩
              cases x2 with
              | c n => exact po1.elim
              | d y =>
                cases y with
                | int b =>
                  simp only [hf] at po1
                  have ev2 : v2 = .int b := by cases re; rfl
                  subst ev2
                  exact ⟨a, b, rfl, rfl, po1 _ ad1 H1 Step.refl so1 (env_set (envOk_step st1 en) (.int (f a b)))⟩
                | _ => exact po1.elim
            | _ => rw [hg] at po; exact po.elim
    rcases h3 with rfl | rfl
    · exact key _ (fun _ _ => rfl) ip_add
    · exact key _ (fun _ _ => rfl) ip_sub
  | .par i j a b, X, W, sc, s, o, h => by
    obtain ⟨x, px, y, py, k, p, u, v, k2, p2, pos, hs, h2⟩ := inv_par h
    subst hs
    simp only [Bool.and_eq_true, decide_eq_true_eq] at h2
    obtain ⟨⟨⟨⟨⟨h1, h2⟩, h3⟩, h4⟩, h5⟩, h6⟩ := h2
    have hp := h4
    unfold parB at hp
    simp only [Bool.and_eq_true] at hp
    obtain ⟨⟨⟨⟨⟨⟨⟨p1, p2'⟩, p3⟩, p4⟩, p5⟩, p6⟩, p7⟩, p8⟩ := hp
    have e1 : X.env.scope.names.lookup x = some .local := by
      rw [o.x.sc]
      split at p1
      · assumption
      · cases p1
    have e2 : X.env.scope.names.lookup y = some .local := by
      rw [o.x.sc]
      split at p2'
      · assumption
      · cases p2'
    refine ps_imp (ps_par (i := i) (j := j) o.x.calm (by rw [o.x.nm]; exact o.x.nd) (by rw [o.x.nm]; exact h1) (by rw [o.x.nm]; exact h2) (by simpa using h3) e1 e2
      (pa_cons (sndE a o.x h5) (pa_cons (sndE b o.x h6) pa_nil (star_ok p6)) (star_ok p5)) (sw_par o.x.sc o.kd h4) (sole.trans swaps_tup)) fun D σ H q => ?_
    obtain ⟨xt, ad, Γ, S, en, so, po⟩ := q
    simp only [sv] at po
    refine ⟨xt, ad, Γ, S, en, so, PostS.bind po fun x1 S1 v1 ad1 H1 st1 so1 r1 po1 _ => ?_⟩
    refine ⟨xt, ad1, Γ, S1, envOk_step st1 en, so1, PostS.bind po1 fun x2 S2 v2 ad2 H2 st2 so2 r2 po2 _ => ?_⟩
    exact ⟨v1, v2, rfl, po2 _ ad2 H2 Step.refl so2 (env_set (env_set (envOk_step (st1.trans st2) en) (rdE_step st2 r1)) r2)⟩
  | .sub a i e, X, W, sc, s, o, h => by
    obtain ⟨x, y, p, v, pos, hs, h2⟩ := inv_sub h
    subst hs
    simp only [Bool.and_eq_true] at h2
    obtain ⟨⟨⟨⟨h1, h2⟩, h3⟩, h4⟩, h5⟩ := h2
    refine ps_imp (ps_asg (sndE e o.x h5) (pg_sub (sndE a o.x h3) (sndE i o.x h4) (set_all (T := T) (Nat.lt_of_le_of_lt (by omega) o.x.units)) (plain_set h1)) (sole.trans swaps_sub) stores_sub rfl) fun D σ H q => ?_
    obtain ⟨xt, ad, Γ, S, en, so, po⟩ := q
    simp only [sv] at po
    refine ⟨xt, ad, Γ, S, en, so, PostS.bind po fun e1 S1 v1 ad1 H1 st1 so1 r1 po1 _ => ?_⟩
    refine ⟨xt, ad1, Γ, S1, envOk_step st1 en, so1, PostS.bind po1 fun e2 S2 v2 ad2 H2 st2 so2 r2 po2 _ => ?_⟩
    refine ⟨xt, ad2, Γ, S2, envOk_step (st1.trans st2) en, so2, PostS.bind po2 fun e3 S3 v3 ad3 H3 st3 so3 r3 po3 _ => ?_⟩
    cases hs : subE e2 e3 e1 S3 with
    | none => rw [hs] at po3; exact po3.elim
    | some S4 =>
      rw [hs] at po3
      exact ⟨xt, ad3, S3, e2, e3, e1, S4, so3, rdE_step st3 r2, r3, rdE_step (st2.trans st3) r1, hs, fun H' st so' => po3 σ ad3 H' st so' (envOk_step ((st1.trans (st2.trans st3)).trans st) en)⟩
  | .exp e, X, W, sc, s, o, h => by
    cases s with
    | Expr v pos =>
      simp only [chkS, Bool.and_eq_true] at h
      refine ps_imp (ps_expr (sndE e o.x h.2) (swaps_no h.1)) fun D σ H q => ?_
      obtain ⟨xt, ad, Γ, S, en, so, po⟩ := q
      simp only [sv] at po
      exact ⟨xt, ad, Γ, S, en, so, PostS.bind po fun x1 S1 v1 ad1 H1 st1 so1 r1 po1 _ => po1 σ ad1 H1 Step.refl so1 (envOk_step st1 en)⟩
    | _ => simp [chkS] at h
  | .ret e, X, W, sc, s, o, h => by
    cases s with
    | Return v pos =>
      cases v with
      | some v =>
        simp only [chkS] at h
        refine ps_imp (ps_ret (sndE e o.x h)) fun D σ H q => ?_
        obtain ⟨xt, ad, Γ, S, en, so, po⟩ := q
        simp only [sv] at po
        exact ⟨xt, ad, Γ, S, en, so, PostS.bind po fun x1 S1 v1 ad1 H1 st1 so1 r1 po1 _ => po1 σ ad1 H1 Step.refl so1 v1 r1⟩
      | none => simp [chkS] at h
    | _ => simp [chkS] at h
  | .ret0, X, W, sc, s, o, h => by
    cases s with
    | Return v pos =>
      cases v with
      | some v => simp [chkS] at h
      | none =>
        refine ps_imp ps_retN fun D σ H q => ?_
        obtain ⟨xt, ad, Γ, S, en, so, po⟩ := q
        simp only [sv] at po
        exact po σ ad H Step.refl so .non .non
    | _ => simp [chkS] at h
  | .ite t a b, X, W, sc, s, o, h => by
    cases s with
    | If x u v pos =>
      simp only [chkS, Bool.and_eq_true] at h
      refine ps_imp (ps_if (sndT t o.x h.1.1).1 (sndSs a o h.1.2) (sndSs b o h.2)) fun D σ H q => ?_
      obtain ⟨xt, ad, Γ, S, en, so, po⟩ := q
      simp only [sv] at po
      refine ⟨xt, ad, Γ, S, en, so, PostS.bind po fun k S1 v1 ad1 H1 st1 so1 r1 po1 _ => ?_⟩
      subst r1
      cases v1 with
      | true =>
        rw [if_pos rfl] at po1
        rw [if_pos rfl]
        exact ⟨xt, ad1, Γ, S1, envOk_step st1 en, so1, po1⟩
      | false =>
        rw [if_neg Bool.false_ne_true] at po1
        rw [if_neg Bool.false_ne_true]
        exact ⟨xt, ad1, Γ, S1, envOk_step st1 en, so1, po1⟩
    | _ => simp [chkS] at h
  | .loop t it body, X, W, sc, s, o, h => by
    cases s with
    | For tg iter b els pos =>
      cases els with
      | nil =>
        simp only [chkS, Bool.and_eq_true] at h
        exact ps_imp (ps_for o.ps o.x.calm (sndI it (t := tg) o.x h.1.1) (sndG o.x.nm o.x.sc o.x.nd o.x.calm (fun x _ => o.fn1 x) t tg h.1.2) (sndSs body o h.2) (fun x => fold_ok (okI_of h.1.1) x)) fun D σ H q => loop_snd q
      | cons e es => simp [chkS] at h
    | _ => simp [chkS] at h
  | .whl t body, X, W, sc, s, o, h => by
    cases s with
    | While x b els pos =>
      cases els with
      | nil =>
        simp only [chkS, Bool.and_eq_true] at h
        exact ps_imp (ps_while o.ps (sndT t o.x h.1).1 (sndSs body o h.2)) fun D σ H q => whl_snd q
      | cons e es => simp [chkS] at h
    | _ => simp [chkS] at h
  | .par3 i j l a b c, X, W, sc, s, o, h => by
    obtain ⟨x, px, y, py, z, pz, k, p, u, v, w, k2, p2, pos, hs, h2⟩ := inv_par3 h
    subst hs
    simp only [Bool.and_eq_true, decide_eq_true_eq] at h2
    obtain ⟨⟨⟨⟨⟨⟨⟨⟨⟨h1, h2⟩, h3⟩, h4⟩, h5⟩, h6⟩, h7⟩, h8⟩, h9⟩, h10⟩ := h2
    have hp := h7
    unfold parB3 at hp
    simp only [Bool.and_eq_true] at hp
    obtain ⟨⟨⟨⟨⟨⟨⟨⟨⟨⟨⟨⟨p1, p2'⟩, p3⟩, p4⟩, p5⟩, p6⟩, p7⟩, p8⟩, p9⟩, p10⟩, p11⟩, p12⟩, p13⟩ := hp
    refine ps_imp (ps_par3 (i := i) (j := j) (l := l) o.x.calm (by rw [o.x.nm]; exact o.x.nd) (by rw [o.x.nm]; exact h1) (by rw [o.x.nm]; exact h2) (by rw [o.x.nm]; exact h3) (by simpa using h4) (by simpa using h5) (by simpa using h6)
      (by rw [o.x.sc]; exact ln_of p1) (by rw [o.x.sc]; exact ln_of p2') (by rw [o.x.sc]; exact ln_of p3)
      (pa_cons (sndE a o.x h8) (pa_cons (sndE b o.x h9) (pa_cons (sndE c o.x h10) pa_nil (star_ok p11)) (star_ok p10)) (star_ok p9)) (sw_par3 o.x.sc o.kd h7) (sole.trans swaps_tup)) fun D σ H q => ?_
    obtain ⟨xt, ad, Γ, S, en, so, po⟩ := q
    simp only [sv] at po
    refine ⟨xt, ad, Γ, S, en, so, PostS.bind po fun x1 S1 v1 ad1 H1 st1 so1 r1 po1 _ => ?_⟩
    refine ⟨xt, ad1, Γ, S1, envOk_step st1 en, so1, PostS.bind po1 fun x2 S2 v2 ad2 H2 st2 so2 r2 po2 _ => ?_⟩
    refine ⟨xt, ad2, Γ, S2, envOk_step (st1.trans st2) en, so2, PostS.bind po2 fun x3 S3 v3 ad3 H3 st3 so3 r3 po3 _ => ?_⟩
    exact ⟨v1, v2, v3, rfl, po3 _ ad3 H3 Step.refl so3 (env_set (env_set (env_set (envOk_step ((st1.trans st2).trans st3) en) (rdE_step (st2.trans st3) r1)) (rdE_step st3 r2)) r3)⟩
  | .rais c e, X, W, sc, s, o, h => by
    obtain ⟨x, f, a, p, pos, pos2, hs, h1, h2, h3, h4⟩ := inv_rais h
    subst hs
    exact rais_snd o h1 h2 h3 h4
  | .tryx body i hs, X, W, sc, s, o, h => by
    obtain ⟨n, b, h0, r, pos, e, h1, h2, h3⟩ := inv_tryx h
    subst e
    exact tryx_snd o h1 h2 fun {X' W'} o' => sndSs body o' h3
  | .dead, X, W, sc, s, o, h => ⟨fun pins s σ H D I q => by
    obtain ⟨xt, ad, Γ, S, en, so, po⟩ := q
    simp only [sv] at po
    exact po.elim⟩
  | .pass, X, W, sc, s, o, h => by
    cases s with
    | Pass pos =>
      refine ps_imp ps_pass fun D σ H q => ?_
      obtain ⟨xt, ad, Γ, S, en, so, po⟩ := q
      simp only [sv] at po
      exact po σ ad H Step.refl so en
    | _ => simp [chkS] at h
  | .brk, X, W, sc, s, o, h => by
    cases s with
    | Break pos =>
      refine ps_imp ps_break fun D σ H q => ?_
      obtain ⟨xt, ad, Γ, S, en, so, po⟩ := q
      simp only [sv] at po
      exact po σ ad H Step.refl so en
    | _ => simp [chkS] at h
  | .cnt, X, W, sc, s, o, h => by
    cases s with
    | Continue pos =>
      refine ps_imp ps_continue fun D σ H q => ?_
      obtain ⟨xt, ad, Γ, S, en, so, po⟩ := q
      simp only [sv] at po
      exact po σ ad H Step.refl so en
    | _ => simp [chkS] at h
theorem sndSs : ∀ (c : CSs) {X : Cx} {W : WX} {sc : Scope} {s : List Stmt}, SOk T P G N X W sc → chkSs G N sc c s = true → PSs X s (tSs X.K T W P c)
  | .nil, X, W, sc, s, o, h => by
    cases s with
    | nil =>
      refine pss_imp pss_nil fun D σ H q => ?_
      obtain ⟨xt, ad, Γ, S, en, so, po⟩ := q
      simp only [svs] at po
      exact po σ ad H Step.refl so en
    | cons s ss => simp [chkSs] at h
  | .cons c cs, X, W, sc, s, o, h => by
    cases s with
    | nil => simp [chkSs] at h
    | cons s ss =>
      simp only [chkSs, Bool.and_eq_true] at h
      refine pss_imp (pss_cons (sndS c o h.1) (sndSs cs o h.2)) fun D σ H q => ?_
      obtain ⟨xt, ad, Γ, S, en, so, po⟩ := q
      simp only [svs] at po
      refine ⟨xt, ad, Γ, S, en, so, ?_⟩
      cases hb : sv P c Γ S with
      | no => rw [hb] at po; exact po.elim
      | err x g s' => rw [hb] at po; exact po
      | ok fl S1 =>
        rw [hb, R.bind_ok] at po
        intro σ1 ad1 H1 st1 so1
        cases fl with
        | nxt Γ1 => exact fun en1 => ⟨xt, ad1, Γ1, S1, en1, so1, PostS.step st1 po⟩
        | brk Γ1 => exact fun en1 => po σ1 ad1 H1 st1 so1 en1
        | cnt Γ1 => exact fun en1 => po σ1 ad1 H1 st1 so1 en1
        | ret e => exact fun v re => po σ1 ad1 H1 st1 so1 v re
end
end
end Ht

set_option maxRecDepth 100000
set_option maxHeartbeats 16000000
/-! HtK: defs, and the law's end. -/
namespace Ht
open PySem L2 Evl PySem.SeqAt PyProof.Rows PySem.Spec

/-! ### what a def hands back -/
section
variable {K : PySem.W.Frag} {T : Xs} {xt ad ad1 : List Addr} {H H1 : Hp} {S S1 : Sto} {Q : VK}
theorem st_pick (so1 : StOk K T xt ad1 S1 H1) (st : Step xt ad H ad1 H1) {n : Nat} {a : Addr} {c : Cell} (hn : ¬ n < ad.length) (ha : ad1[n]? = some a) (hc : S1[n]? = some c) :
    a ∉ ad ∧ a ∉ xt ∧ CellOk K xt ad1 H1 a c := by
  obtain ⟨a', e1, c1⟩ := so1.at' n c hc
  rw [ha] at e1
  cases e1
  refine ⟨fun z => ?_, fun z => (so1.xs a z).2 (List.mem_of_getElem? ha), c1⟩
  obtain ⟨m, hm⟩ := List.getElem?_of_mem z
  obtain ⟨⟨more, e⟩, _⟩ := st
  have hl := (List.getElem?_eq_some_iff.mp hm).1
  have h2 : ad1[m]? = some a := by
    rw [e, List.getElem?_append_left hl]
    exact hm
  have := nodup_at so1.nd h2 ha
  omega
theorem fin_post {Ew : XK} {e : E} {v : V} (hr : ∀ (j : Nat) (p : Addr × Str), T.tabs[j]? = some p → j < ad.length) (hL : S.length = ad.length) (so1 : StOk K T xt ad1 S1 H1) (st : Step xt ad H ad1 H1) (re : RdE K xt ad1 H1 v e)
    (po : Post K T (fun c d _ H' => Ew c d H') xt ad H (RdE K xt) (fin S.length e S1) Q) : Q v H1 := by
  obtain ⟨st2, so2⟩ := step_drop hr so1 st
  obtain ⟨more, em⟩ := st.pre
  have x1 : Ex (hide xt ad1 H1) (hide xt ad H1) := by rw [em]; exact hide_app
  rw [hL] at po
  cases e with
  | d x => exact po v ad H1 st2 so2 (dp_mono x1 re)
  | c n =>
    obtain ⟨a, h1, h2⟩ := re
    subst h2
    simp only [fin] at po
    split at po
    · rename_i hn
      refine po _ ad H1 st2 so2 ⟨a, ?_, rfl⟩
      rw [em, List.getElem?_append_left hn] at h1
      exact h1
    · rename_i hn
      split at po
      · rename_i xs hc
        obtain ⟨na, nx, vs, e1, e2⟩ := st_pick so1 st hn h1 hc
        exact po _ ad H1 st2 so2 (.lst (.inl (.inl (by rw [hide_of nx na]; exact e1))) (dpa_mono x1 e2))
      · rename_i kvs hc
        obtain ⟨na, nx, ck⟩ := st_pick so1 st hn h1 hc
        have ham : a ∈ ad1 := List.mem_of_getElem? h1
        have x2 : Ex (hide xt ad1 H1) (hide (a :: xt) ad H1) := fun b o q => by
          unfold hide at q ⊢
          split at q
          · cases q
          · rename_i n2
            rw [if_neg ?_]
            · exact q
            · rintro (z | z)
              · rcases List.mem_cons.mp z with z | z
                · exact n2 (.inr (by rw [z]; exact ham))
                · exact n2 (.inl z)
              · exact n2 (.inr (by rw [em]; exact List.mem_append_left _ z))
        have so3 : StOk K T (a :: xt) ad (S1.take ad.length) H1 := ⟨so2.nd, so2.len, fun m c' e => by
          have hm : m < ad.length := by
            have := (List.getElem?_eq_some_iff.mp e).1
            rw [List.length_take] at this
            omega
          rw [List.getElem?_take_of_lt hm] at e
          obtain ⟨b, e1, c1⟩ := so1.at' m c' e
          refine ⟨b, ?_, cellOk_ex rfl x2 c1⟩
          rw [em, List.getElem?_append_left hm] at e1
          exact e1, fun b hb => by
          rcases List.mem_cons.mp hb with z | z
          · rw [z]
            exact ⟨so1.mem ham, na⟩
          · exact so2.xs b z, so2.tb, so2.tn, fun b hb q => by
          rcases List.mem_cons.mp hb with z | z
          · rw [z]
            obtain ⟨ws, ew, _⟩ := ck
            rw [ew]
            intro y
            have y := Option.some.inj y
            unfold LamX.CodeO at y
            cases y
          · exact so2.cx b z q⟩
        obtain ⟨so4, e4⟩ := step_keep so3 nx (cellOk_ex rfl x2 ck)
        refine po _ (ad ++ [a]) H1 ⟨⟨[a], rfl⟩, ?_, st.cell, st.xs⟩ so4 ⟨a, ?_, rfl⟩
        · rw [e4]
          exact st.ex.trans x2
        · rw [List.getElem?_append_right (Nat.le_refl _), Nat.sub_self]
          rfl
      · exact po.elim
end

/-! ### the defs of a text -/
/-- b: the def has a table of code objects, its lambdas' -/
structure FnT (K : PySem.W.Frag) (mg : Str → Option Value) (G : Gt) (T : Xs) (x : Str) (F : FD) (f : Addr) : Prop where
  ex : ∃ (st : Stmt) (fd : FuncData) (N ps : List Str) (G1 : Gt), Fun K x x st f fd ∧ FnScope N ps (defScope st) ∧
    (∀ (kV doc pm : Value) (an : Option Addr) (cdv ct : Value) (us : List Value), us.length = ps.length → bindArgs (PySem.W.fnOf x x (defArgs st) (defBody st) (defScope st) .none kV doc pm an cdv ct) ⟨us, []⟩ = pure (ps.zip us)) ∧
    F.np = ps.length ∧ F.nl = N.length ∧ chkSs G1 N (defScope st) F.body (defBody st) = true ∧ (G1 = G.bare ∨ (G1 = G ∧ ∃ c Pt, PySem.W.tabIn K x = some (c, Pt) ∧ (Pt, x ++ ".<locals>." ++ "<lambda>") ∈ T.tabs))
structure Glob (K : PySem.W.Frag) (mg : Str → Option Value) (G : Gt) (TB : List FD) (con : List PyData) (T : Xs) : Prop where
  blt : ∀ x, G.blts.contains x = true → mg x = none
  con : ∀ (k : Nat) x, G.cons[k]? = some x → ∃ d u v, con[k]? = some d ∧ mg x = some u ∧ RelV v u ∧ ∀ H, Dp K H v d
  fn : ∀ (k : Nat) x, G.fns[k]? = some x → ∃ f F, mg x = some (.ref f) ∧ TB[k]? = some F ∧ FnT K mg G T x F f
  exc : ∀ (P : Program) (w : World) (c : Nat) (x f : Str), G.excs[c]? = some (x, f) → ∃ C, T.cls[c]? = some (C, some f) ∧ ExcT P w K mg T c x f C
  lam : ∀ (k : Nat) x Nl st, G.lams[k]? = some (x, Nl, st) → LamT K mg x Nl st
  tnd : (T.tabs.map (·.1)).Nodup
theorem env_begin {K : PySem.W.Frag} {xt ad : List Addr} {H : Hp} {N : List Str} {F : FD} : ∀ {vs : List V} {es : List E}, RdEs K xt ad H vs es → vs.length ≤ N.length → F.nl = N.length → EnvOk K xt ad (begin_ F es) (L2.start N vs) H := by
  intro vs es re hle hn
  have hl := rdEs_len re
  have hg : ∀ {vs : List V} {es : List E}, RdEs K xt ad H vs es → ∀ (i : Nat) (e : E), es[i]? = some e → ∃ v, vs[i]? = some v ∧ RdE K xt ad H v e := by
    intro vs es re
    induction re with
    | nil => intro i e h; simp at h
    | cons h t ih =>
      intro i e hi
      cases i with
      | zero =>
        cases (some_inj hi)
        exact ⟨_, rfl, h⟩
      | succ i => exact ih i e (by simpa using hi)
  refine ⟨by unfold begin_ L2.start; simp [hn, hl], fun i e h => ?_⟩
  unfold begin_ at h
  by_cases hi : i < es.length
  · rw [List.getElem?_append_left (by simpa using hi), List.getElem?_map] at h
    cases q : es[i]? with
    | none => rw [q] at h; cases h
    | some e' =>
      rw [q] at h
      cases (some_inj (some_inj h))
      obtain ⟨v, h1, h2⟩ := hg re i _ q
      refine ⟨v, ?_, h2⟩
      unfold L2.start
      rw [List.getElem?_append_left (by simpa [hl] using hi), List.getElem?_map, h1]
      rfl
  · rw [List.getElem?_append_right (by simpa using hi), List.getElem?_replicate] at h
    split at h
    · cases (some_inj h)
    · cases h
theorem all_defs {P : Program} {w : World} {K : PySem.W.Frag} {mg : Str → Option Value} {base : Heap} {G : Gt} {TB : List FD} {con : List PyData} {T : Xs} {fuel : Nat} (g : Glob K mg G TB con T) (hlk : TB[lvk]? = none) (hB : K.In base) (hNs : base.Ns mainGlobals mg)
    (tb : ∀ x c Pt, PySem.W.tabIn K x = some (c, Pt) → (Pt, x ++ ".<locals>." ++ "<lambda>") ∈ T.tabs → LamX.TabB base mg c Pt) :
    ∀ (n k : Nat) (x : Str), G.fns[k]? = some x → ∃ f, mg x = some (.ref f) ∧ PySem.W.keepIn K (.ref f) = true ∧ FnG P w K mg base T (n + 2 * (n - G.lv) + 2) f (callF TB fuel con n k) := by
  intro n
  induction n with
  | zero =>
    intro k x hx
    obtain ⟨f, F, h1, h2, st, fd, N, ps, G1, hF, _⟩ := g.fn k x hx
    exact ⟨f, h1, hF.kp, ⟨fun A outer s H us vs es S xt ad Q Ex hg hr e0 rv re so po => po.elim⟩⟩
  | succ n ih =>
    intro k x hx
    obtain ⟨f, F, h1, h2, st, fd, N, ps, G1, hF, SC, hbind, hnp, hnl, hchk, hG1⟩ := g.fn k x hx
    refine ⟨f, h1, hF.kp, ⟨fun A outer s H us vs es S xt ad Q Ex hg hr e0 rv re so po => ?_⟩⟩
    obtain ⟨oc, od, kV, doc, pm, an, cdv, ct, osl, rfl, lk, hcd⟩ := hF.ex
    simp only [callF, h2] at po
    have hlen : es.length = F.np := by
      by_cases z : es.length = F.np
      · exact z
      · rw [if_neg z] at po
        exact po.elim
    rw [if_pos hlen] at po
    have hvl : vs.length = ps.length := by rw [rdEs_len re, hlen, hnp]
    have hul : us.length = ps.length := by rw [← rv.length, hvl]
    have KX : K.In s.heap := e0.mod.kin.keeps fun b o e => (e0.bs b o e).1
    have lim : s.heap.NoLimit := e0.mod.nolimit.keeps fun b o e => (e0.bs b o e).1
    have hkind : ∀ y ∈ ps.zip us, (defScope st).names.lookup y.1 = some .local ∨ ((defScope st).names.lookup y.1 = some .cell ∧ ((cellsFrom (s.heap.objs.size + 1) (defScope st).names []).lookup y.1).isSome = true) := by
      rintro ⟨m, v⟩ hy
      rcases SC.par m (List.of_mem_zip hy).1 with q | q
      · exact .inl q
      · exact .inr ⟨q, PySem.W.cellsFrom_some _ _ _ (.inl q)⟩
    refine codeAny_call_function hr.depth (KX _ _ lk) rfl SC.co SC.gen rfl (PySem.W.codeRec_of KX hcd) ((BindsTo.of_eq (hbind kV doc pm an cdv ct us hul)) _ _ _ _ ?_)
    refine wpAny_newFunctionEnv_cells SC.kind hkind fun env he s1 xs => ?_
    subst he
    refine ⟨lim.keeps xs.toInCall.keep, codeAny_func ?_⟩
    have I := inv_start (CX := L2.CX P w) (E := Ex) SC hr.hd e0 hvl rv xs
    have hr2 : Room (n + 1 + 2 * (n + 1 - G.lv) + 1) (A.deeper (envOfC x (defScope st) s.heap.objs.size f cdv)) := hr.deeper _
    have hfns : G1.fns = G.fns := by rcases hG1 with z | ⟨z, _⟩ <;> rw [z] <;> rfl
    have hblts : G1.blts = G.blts := by rcases hG1 with z | ⟨z, _⟩ <;> rw [z] <;> rfl
    have hcons : G1.cons = G.cons := by rcases hG1 with z | ⟨z, _⟩ <;> rw [z] <;> rfl
    have hexcs : G1.excs = G.excs := by rcases hG1 with z | ⟨z, _⟩ <;> rw [z] <;> rfl
    have o : SOk T ⟨callF TB fuel con n, fuel, con⟩ G1 N (cxOf (L2.CX P w) P w K mg base N x (defScope st) f cdv A outer s H Ex) (fun c d _ H' => Ex c d H') (defScope st) := by
      refine ⟨⟨rfl, rfl, SC.nd, ?_, deeper_guards hg, takes_of rfl rfl rfl rfl, rfl, by rw [hblts]; exact g.blt, by rw [hcons]; exact g.con, fun k2 x2 h2 => ?_, hr2.mono (by omega), fun hne S0 hlv => ?_, by rw [hexcs]; exact g.exc P w, fun k2 x2 Nl st2 h2 => ?_, fun hne => ?_, g.tnd⟩, fun _ => rfl, passes_of rfl, SC.kind, rfl, rfl⟩
      · have := hr2.un
        show (A.deeper (envOfC x (defScope st) s.heap.objs.size f cdv)).units + 200 < cLine
        omega
      · rw [hfns] at h2
        obtain ⟨f2, q1, q2, q3⟩ := ih k2 x2 h2
        exact ⟨f2, q1, q2, n + 2 * (n - G.lv) + 2, hr2.mono (by omega), q3⟩
      · rcases hG1 with z | ⟨z, _⟩
        · rw [z] at hne
          exact absurd rfl hne
        · have hn : G.lv < n := by
            rw [z] at hlv
            unfold lvlOk at hlv
            cases n with
            | zero => simp [callF] at hlv
            | succ n' =>
              simp only [callF, hlk] at hlv
              by_cases q : G.lv ≤ n'
              · omega
              · have q' : ¬ (G.lv : Int) ≤ (n' : Int) := by omega
                rw [if_neg q'] at hlv
                cases hlv
          refine ⟨hr2.mono (by omega), fun k2 x2 h2 => ?_⟩
          rw [hfns] at h2
          obtain ⟨f2, q1, q2, q3⟩ := ih k2 x2 h2
          exact ⟨f2, q1, q2, n + 2 * (n - G.lv) + 2, hr2.mono (by omega), q3⟩
      · rcases hG1 with z | ⟨z, _⟩
        · rw [z] at h2
          simp [Gt.bare] at h2
        · rw [z] at h2
          exact g.lam k2 x2 Nl st2 h2
      · rcases hG1 with z | ⟨z, c, Pt, hti, hmem⟩
        · rw [z] at hne
          exact absurd rfl hne
        · have hc := PySem.W.law_code hB hNs hti h1 (hB _ _ lk) rfl
          exact ⟨c, Pt, hc, tb x c Pt hti hmem, hmem⟩
    have hle : vs.length ≤ N.length := by
      rw [hvl]
      have := congrArg List.length SC.pre
      rw [List.length_take] at this
      omega
    have hrun : tSs K T (fun c d _ H' => Ex c d H') ⟨callF TB fuel con n, fuel, con⟩ F.body { nx := fun _ H' => Q .non H', rt := Q } (L2.start N vs) H := by
      refine ⟨xt, ad, begin_ F es, S, env_begin re hle hnl, so, ?_⟩
      revert po
      generalize svs ⟨callF TB fuel con n, fuel, con⟩ F.body (begin_ F es) S = rr
      intro po
      cases rr with
      | no => exact po.elim
      | err y Γ S1 =>
        intro cls d ad1 H1 σ1 st1 so1 en1 xo
        obtain ⟨st2, so2⟩ := step_drop so.room so1 st1
        obtain ⟨more, em⟩ := st1.pre
        have po2 : Post K T (fun c d _ H' => Ex c d H') xt ad H (RdE K xt) (.err y [] (S1.take S.length)) Q := po
        rw [← so.len] at po2
        refine po2 cls d ad H1 [] st2 so2 ⟨rfl, fun i e h => by simp at h⟩ ?_
        obtain ⟨C, fl, x1, x2, x3⟩ := xo
        have xx : Evl.Ex (hide xt ad1 H1) (hide xt ad H1) := by rw [em]; exact hide_app
        refine ⟨C, fl, x1, x2, ?_⟩
        split at x3
        · obtain ⟨dd, v, e1, e2, e3⟩ := x3
          exact ⟨dd, v, e1, xx _ _ e2, dp_mono xx e3⟩
        · trivial
        · exact x3.elim
      | ok fl S1 =>
        intro σ1 ad1 H1 st1 so1
        cases fl with
        | nxt Γ => exact fun en => fin_post (Ew := Ex) (e := .d .none) (v := .non) so.room so.len.symm so1 st1 .non po
        | ret e => exact fun v re => fin_post (Ew := Ex) so.room so.len.symm so1 st1 re po
        | brk Γ => exact po.elim
        | cnt Γ => exact po.elim
    refine wpAny_mono ((sndSs F.body o hchk).run [] s1 (L2.start N vs) H _ I hrun) (fun fl s' hs => ?_) fun e s' hs => hs
    cases fl with
    | ret u =>
      obtain ⟨v, σ', H', J, rv, q⟩ := hs
      exact ⟨v, H', J.os, J.bare, J.base, J.hok, rv, q⟩
    | next =>
      obtain ⟨σ', H', J, q⟩ := hs
      exact ⟨V.non, H', J.os, J.bare, J.base, J.hok, rfl, q⟩
    | brk =>
      obtain ⟨_, _, _, q⟩ := hs
      exact q.elim
    | cont =>
      obtain ⟨_, _, _, q⟩ := hs
      exact q.elim

/-! ### errors' classes -/
theorem exm_of {K : PySem.W.Frag} {C S : Addr} {b : Bool} (h1 : PySem.W.subIn K (.ref S) (.type "BaseException") = some true) (h2 : PySem.W.isClsIn K S = true) (h3 : PySem.W.typeIn K (.ref S) = some (.type "type")) (h4 : PySem.W.subIn K (.ref C) (.ref S) = some b) :
    PySem.W.exmOne K (.ref C) (.ref S) = some b := by
  have e1 : (PySem.W.subIn K (.ref S) (.type "BaseException") == some true) = true := by rw [h1] <;> rfl
  have e2 : ((PySem.W.clsIn K S).isSome && PySem.W.typeIn K (.ref S) == some (.type "type")) = true := by
    have h2' : (PySem.W.clsIn K S).isSome = true := h2
    rw [h2', h3] <;> rfl
  show (if (PySem.W.subIn K (.ref S) (.type "BaseException") == some true) = true then (if ((PySem.W.clsIn K S).isSome && PySem.W.typeIn K (.ref S) == some (.type "type")) = true then PySem.W.subIn K (.ref C) (.ref S) else none) else none) = some b
  rw [if_pos e1, if_pos e2]
  exact h4
/-- a class's first def -/
def clsInit : Stmt → Stmt
  | .ClassDef _ _ _ body _ _ _ _ _ _ _ => body.getD 0 (.Pass ⟨0, 0, 0, 0⟩)
  | s => s
/-! ### the law -/
theorem hide_nil {H : Hp} : hide [] [] H = H := by
  funext a
  unfold hide
  rw [if_neg]
  rintro (z | z) <;> cases z
theorem dpa_map {K : PySem.W.Frag} {G : Hp} : ∀ ns : List Int, DpAll K G (ns.map V.int) (ns.map PyData.int)
  | [] => .nil
  | n :: ns => .cons (.int n) (dpa_map ns)
abbrev tabS (T : Xs) : Sto := T.tabs.map fun p => .tab p.2
theorem law_go {P : Program} {w : World} {K : PySem.W.Frag} {mg mb : Str → Option Value} {T : Xs} {k : Nat} {fa a : Addr} {F : List E → Sto → R E} {s₁ : Shared} {vs : List Value} {ns : List Int}
    (KX : K.In s₁.heap) (hns : s₁.heap.Ns mainGlobals mg) (hb : s₁.heap.Ns builtinsNs mb) (hbb : ∀ x : Str, x ≠ "__name__" → mb x = bootBuiltins x) (hlim : s₁.heap.NoLimit) (hg : s₁.gens = #[])
    (hTb : ∀ p ∈ T.tabs, s₁.heap.get? p.1 = some { cls := .none, data := .fields #[] }) (nT : ∀ p ∈ T.tabs, K.lookup p.1 = none) (cT : ∀ p ∈ T.tabs, ∃ c, PySem.W.CodeHd s₁.heap c p.1) (hnd : (T.tabs.map (·.1)).Nodup)
    (ha : s₁.heap.get? a = some { cls := .type "list", data := .seq vs.toArray }) (hi : IntsAre vs ns) (hl : ns.length ≤ sizeLine) (hr : Room k callerA)
    (hF : ∀ base : Heap, K.In base → base.Ns mainGlobals mg → (∀ b o, s₁.heap.get? b = some o → (∀ vs n, o.data ≠ .seq vs n) → o.data ≠ .fields #[] → base.get? b = some o) → FnG P w K mg base T k fa F)
    (hT : F [.d (.list (ns.map PyData.int))] (tabS T) = .ok (.d (.bool true)) (tabS T)) :
    codeAny (model P w) callerA (.call (.ref fa) ⟨[.ref a], []⟩) (fun r s' => r = .ok (.ret (.bool true)) ∧ OldK s₁.heap s'.heap ∧ s'.os = s₁.os ∧ AllBare s'.gens) s₁ := by
  have rv := vals_ints hi
  have lenV := hi.length
  have aT : ∀ p ∈ T.tabs, p.1 ≠ a := fun p hp z => by
    have e := hTb p hp
    rw [z, ha] at e
    cases e
  have main : ∀ H : Hp, (∀ p ∈ T.tabs, H p.1 = some (.tbl #[])) → (∀ b, H b = none ∨ (∃ p ∈ T.tabs, p.1 = b) ∨ (b = a ∧ ∃ o xs, H b = some (.frz o (.lst xs)))) → SqL K (hide [] (T.tabs.map (·.1)) H) a (ns.map V.int) → HOk P w H s₁.heap → (H a ≠ none → K.lookup a = none) →
      codeAny (model P w) callerA (.call (.ref fa) ⟨[.ref a], []⟩) (fun r s' => r = .ok (.ret (.bool true)) ∧ OldK s₁.heap s'.heap ∧ s'.os = s₁.os ∧ AllBare s'.gens) s₁ := by
    intro H hTH hO hS hok hK
    have off : ∀ {b : Addr} {o : Obj}, s₁.heap.get? b = some o → (∀ vs n, o.data ≠ .seq vs n) → o.data ≠ .fields #[] → H b = none := by
      intro b o e h1 h2
      rcases hO b with z | ⟨p, hp, z⟩ | ⟨z, _⟩
      · exact z
      · have q := hTb p hp
        rw [z, e] at q
        cases q
        exact absurd rfl h2
      · rw [z, ha] at e
        cases e
        exact absurd rfl (h1 _ _)
    have keep : ∀ b o, s₁.heap.get? b = some o → (∀ vs n, o.data ≠ .seq vs n) → o.data ≠ .fields #[] → (hidT s₁.heap H).get? b = some o := fun b o e h1 h2 => hidT_get e (off e h1 h2)
    have ns2 : ∀ {b : Addr} {m : Str → Option Value}, s₁.heap.Ns b m → (hidT s₁.heap H).Ns b m := by
      rintro b m ⟨o, es, ep, e, d, r⟩
      exact ⟨o, es, ep, keep b o e (fun vs n z => by rw [d] at z; cases z) (fun z => by rw [d] at z; cases z), d, r⟩
    have kin : K.In (hidT s₁.heap H) := by
      intro b o e
      refine hidT_get (KX b o e) ?_
      rcases hO b with z | ⟨p, hp, z⟩ | ⟨z, o', xs, q⟩
      · exact z
      · rw [← z, nT p hp] at e
        cases e
      · rw [z] at e q
        rw [hK (by rw [q]; exact fun z => nomatch z)] at e
        cases e
    have nol : (hidT s₁.heap H).NoLimit := by
      obtain ⟨mc, z1, z2⟩ := hlim
      exact ⟨mc, ns2 z1, z2⟩
    have e0 : Env0 P w K mg (hidT s₁.heap H) callerA [] s₁ H :=
      ⟨rfl, ⟨kin, ns2 hns, ⟨mb, ns2 hb, hbb⟩, nol⟩, fun b o e => of_hidT e, Nat.le_of_eq (hidT_size _ _), trivial, (fun b z => by cases z), hok, .of_eq hg⟩
    have start : RdEs K [] (T.tabs.map (·.1)) H [.ref a] [.d (.list (ns.map PyData.int))] := .cons (.lst hS (dpa_map ns)) .nil
    have so : StOk K T [] (T.tabs.map (·.1)) (tabS T) H := by
      refine ⟨hnd, by simp [tabS], fun n c e => ?_, (fun b z => by cases z), fun j p hj => ?_, fun b ps e => ?_, (fun b z => by cases z)⟩
      · rw [List.getElem?_map] at e
        obtain ⟨p, hp, rfl⟩ := Option.map_eq_some_iff.mp e
        refine ⟨p.1, by rw [List.getElem?_map, hp]; rfl, #[], hTH p (List.mem_of_getElem? hp), True.intro, fun pos cv hc => ?_⟩
        have z : codeAmong pos [] = some cv := hc
        simp [codeAmong] at z
      · exact ⟨by rw [List.getElem?_map, hj]; rfl, by rw [List.getElem?_map, hj]; rfl⟩
      · rcases hO b with z | z | ⟨_, o', xs, q⟩
        · rw [z] at e; cases e
        · exact z
        · rw [q] at e; cases e
    refine codeAny_mono ((hF _ kin (ns2 hns) keep).run callerA [] s₁ H [.ref a] [.ref a] [.d (.list (ns.map PyData.int))] (tabS T) [] (T.tabs.map (·.1)) (fun v _ => v = .bl true) (fun _ _ _ => False) rfl hr e0 (.cons rfl .nil) start so ?_) fun r s' h => ?_
    · rw [hT]
      intro v ad' H' st so' re
      cases re
      rfl
    · cases r with
      | error e =>
        exfalso
        obtain ⟨_, _, _, _, _, _, _, _, _, _, _, _, z⟩ := h
        exact z
      | ok fl =>
        cases fl with
        | next => exact h.elim
        | brk => exact h.elim
        | cont => exact h.elim
        | ret u =>
          obtain ⟨v, H', os, bare, un, hok', r', q⟩ := h
          have q' : v = .bl true := q
          subst q'
          have eu : u = Value.bool true := r'
          subst eu
          have grown : ∀ p ∈ T.tabs, ∃ more : Array Value, s'.heap.get? p.1 = some { cls := .none, data := .fields more } := fun p hp => by
            obtain ⟨more, z⟩ := un.tbls p.1 #[] (hTH p hp)
            exact ⟨_, hok' p.1 _ z⟩
          have same : ∀ b o, (¬ ∃ p ∈ T.tabs, p.1 = b) → s₁.heap.get? b = some o → s'.heap.get? b = some o := fun b o nb e => by
            rcases hO b with z | z | ⟨_, ob, xs, z⟩
            · exact un.keep b o e z (fun z => by cases z) (fun z => by cases z)
            · exact absurd z nb
            · obtain ⟨e1, _⟩ := hok b _ z
              obtain ⟨e2, _⟩ := hok' b _ (un.frzs b ob _ z)
              rw [e] at e1
              cases e1
              exact e2
          refine ⟨rfl, ⟨fun b o e => ?_, fun b o e => ?_⟩, os, bare⟩
          · by_cases nb : ∃ p ∈ T.tabs, p.1 = b
            · obtain ⟨p, hp, rfl⟩ := nb
              obtain ⟨more, hm⟩ := grown p hp
              obtain ⟨c, hc⟩ := cT p hp
              have e' := hTb p hp
              rw [e] at e'
              cases e'
              exact .inr (.inl ⟨(hc.tab (hTb p hp)).isCodeTable, rfl, #[], more, rfl, by rw [Array.empty_append]; exact hm⟩)
            · exact .inl (same b o nb e)
          · by_cases nb : ∃ p ∈ T.tabs, p.1 = b
            · obtain ⟨p, hp, rfl⟩ := nb
              obtain ⟨more, hm⟩ := grown p hp
              exact ⟨_, hm⟩
            · exact ⟨o, same b o nb e⟩
  have isT : ∀ {b : Addr}, (∃ p ∈ T.tabs, p.1 = b) → s₁.heap.get? b = some { cls := .none, data := .fields #[] } := fun ⟨p, hp, z⟩ => by rw [← z]; exact hTb p hp
  let Ht : Hp := fun b => open Classical in if ∃ p ∈ T.tabs, p.1 = b then some (.tbl #[]) else none
  have ht1 : ∀ {b}, (∃ p ∈ T.tabs, p.1 = b) → Ht b = some (.tbl #[]) := fun h => if_pos h
  have ht0 : ∀ {b}, (¬ ∃ p ∈ T.tabs, p.1 = b) → Ht b = none := fun h => if_neg h
  have nA : ¬ ∃ p ∈ T.tabs, p.1 = a := fun ⟨p, hp, z⟩ => aT p hp z
  have nM : a ∉ T.tabs.map (·.1) := fun z => let ⟨p, hp, e⟩ := List.mem_map.mp z; aT p hp e
  cases hk : K.lookup a with
  | some o =>
    have e := KX a o hk
    rw [ha] at e
    cases e
    refine main Ht (fun p hp => ht1 ⟨p, hp, rfl⟩) (fun b => ?_) (.inr ⟨_, vs.toArray, _, hk, rfl, rfl, rfl, by rw [List.size_toArray, lenV]; exact hl, by simpa using rv⟩) (fun b u z => ?_) fun z => absurd (ht0 nA) z
    · by_cases q : ∃ p ∈ T.tabs, p.1 = b
      · exact .inr (.inl q)
      · exact .inl (ht0 q)
    · by_cases q : ∃ p ∈ T.tabs, p.1 = b
      · rw [ht1 q] at z
        cases z
        exact isT q
      · rw [ht0 q] at z
        cases z
  | none =>
    let Hs : Hp := fun b => if b = a then some (.frz { cls := .type "list", data := .seq vs.toArray } (.lst (ns.map V.int))) else Ht b
    have hs : Hs a = some (.frz { cls := .type "list", data := .seq vs.toArray } (.lst (ns.map V.int))) := if_pos rfl
    have hne : ∀ b, b ≠ a → Hs b = Ht b := fun b h => if_neg h
    refine main Hs (fun p hp => by rw [hne _ (aT p hp)]; exact ht1 ⟨p, hp, rfl⟩) (fun b => ?_) (.inl (.inr ⟨_, by rw [hide_of (by simp) nM]; exact hs⟩)) (fun b u z => ?_) fun _ => hk
    · by_cases q : b = a
      · exact .inr (.inr ⟨q, _, _, by rw [q]; exact hs⟩)
      · rw [hne b q]
        by_cases q2 : ∃ p ∈ T.tabs, p.1 = b
        · exact .inr (.inl q2)
        · exact .inl (ht0 q2)
    · by_cases q : b = a
      · rw [q, hs] at z
        cases z
        rw [q]
        exact ⟨ha, by rw [List.length_map]; exact hl, vs, _, rv, ha⟩
      · rw [hne b q] at z
        by_cases q2 : ∃ p ∈ T.tabs, p.1 = b
        · rw [ht1 q2] at z
          cases z
          exact isT q2
        · rw [ht0 q2] at z
          cases z
abbrev lamN (x : Str) : Str := x ++ ".<locals>." ++ "<lambda>"
theorem lamN_inj {x y : Str} (h : lamN x = lamN y) : x = y := by
  have h1 : (x.cps ++ (Str.ofString ".<locals>.").cps ++ (Str.ofString "<lambda>").cps) = (y.cps ++ (Str.ofString ".<locals>.").cps ++ (Str.ofString "<lambda>").cps) := congrArg Str.cps h
  have h2 : x.cps = y.cps := by
    have h3 := congrArg Array.toList h1
    simp only [Array.toList_append] at h3
    exact Array.ext' (List.append_cancel_right (List.append_cancel_right h3))
  cases x
  cases y
  simpa using h2
/-- the end of a law row: the law's worth is True at every script; qs: the defs with lambdas -/
theorem law_end {l : PySem.W.OpenLaw} {n k : Nat} {q : Program} {loose : List Str} {XP : (Str → Option Value) → Heap → Prop} {YP : World → Heap → Prop} {d : DefRec} {K : Params → PySem.W.Frag} {G : Gt} {TB : List FD} {con : List PyData} {fuel kl : Nat} {qs : List Str}
    (hn : l.most = some n) (hn2 : n ≤ sizeLine) (hdf : d.params.defaults = []) (hr : Room (k + 2 * (k - G.lv) + 2) callerA) (hlk : TB[lvk]? = none)
    (hY : ∀ (w : World) (h : Heap), YP w h → (K w.params).In h)
    (g : ∀ (w : World) (mg : Str → Option Value) (h : Heap), (K w.params).In h → h.Ns mainGlobals mg → ∃ T, Glob (K w.params) mg G TB con T ∧ T.tabs.map (·.2) = qs.map lamN ∧ ∀ p ∈ T.tabs, (∃ x ∈ qs, p.2 = lamN x ∧ ∃ c, PySem.W.tabIn (K w.params) x = some (c, p.1)) ∧ (K w.params).lookup p.1 = none)
    (hrec : ∀ x ∈ qs, ∃ e, (recsOf q).find? (fun e => e.name == x) = some e)
    (hfn : G.fns[kl]? = some d.name)
    (hT : ∀ ns : List Int, ns.length ≤ n → (∀ z ∈ ns, Builtin.Int.intBits z ≤ 1048576) → callF TB fuel con k kl [.d (.list (ns.map PyData.int))] (qs.map fun x => .tab (lamN x)) = .ok (.d (.bool true)) (qs.map fun x => .tab (lamN x))) :
    PySem.W.WalkO q loose XP YP l.row.toRowW d [] (fun f vs => PySem.call f vs) := by
  refine Att.attach_callB hn hdf fun w s₀ s₁ mg mb fa o pm cd doc a vs ns G0 Y ho hd hcd hmg hobj hints hlen hbits hg => ?_
  have KX := hY w _ Y
  obtain ⟨T, gl, hqs, htab⟩ := g w mg _ KX G0.T.g
  have code : ∀ x c Pt, PySem.W.tabIn (K w.params) x = some (c, Pt) → x ∈ qs → PySem.W.CodeHd s₁.heap c Pt ∧ s₁.heap.get? Pt = some (PySem.W.tabObj #[]) := fun x c Pt h1 h2 => by
    obtain ⟨e, he⟩ := hrec x h2
    exact PySem.W.tab_of G0.T KX he h1
  have eS : tabS T = qs.map fun x => .tab (lamN x) := by
    have : tabS T = (T.tabs.map (·.2)).map Cell.tab := by simp [tabS]
    rw [this, hqs]
    simp
  refine law_go (T := T) KX G0.T.g G0.T.b G0.T.builtins G0.T.nolimit hg (fun p hp => ?_) (fun p hp => (htab p hp).2) (fun p hp => ?_) gl.tnd hobj hints (Nat.le_trans hlen hn2) hr (fun base hB hNs keep => ?_) (by rw [eS]; exact hT ns hlen hbits)
  · obtain ⟨x, hx, _, c, hc⟩ := (htab p hp).1
    exact (code x c _ hc hx).2
  · obtain ⟨x, hx, _, c, hc⟩ := (htab p hp).1
    exact ⟨c, (code x c _ hc hx).1⟩
  · have tb : ∀ x c Pt, PySem.W.tabIn (K w.params) x = some (c, Pt) → (Pt, x ++ ".<locals>." ++ "<lambda>") ∈ T.tabs → LamX.TabB base mg c Pt := fun x c Pt ht hm => by
      obtain ⟨x', hx', e1, _⟩ := (htab _ hm).1
      have ex : x = x' := lamN_inj e1
      subst ex
      obtain ⟨hc, hP⟩ := code x c Pt ht hx'
      refine ⟨?_, ?_, fun z => ?_⟩
      · obtain ⟨o, us, file, tf, flags, tg, inF, text, tt, e1, r1, r2, r3, r4, r5, r6, r7, r8, hne⟩ := hc
        refine ⟨o, us, file, tf, flags, tg, inF, text, tt, keep _ _ e1 (fun vs n z => ?_) (fun z => ?_), r1, r2, r3, r4, r5, r6, r7, r8, hne⟩
        · rw [r2] at z
          cases z
        · rw [r2] at z
          cases z <;> simp at r3
      · obtain ⟨bm, ob, b1, b2, b3, b4, b5, b6⟩ := G0.T.bmain
        refine ⟨bm, ob, b1, b2, fun z => ?_, fun z => ?_, keep _ _ b3 (fun vs n z => ?_) (fun z => ?_), b4, b5, b6⟩
        · obtain ⟨o, es, ep, e, hd, _⟩ := G0.T.g
          rw [z, e] at b3
          cases b3
          rw [hd] at b6
          cases b6
        · rw [z, hP] at b3
          cases b3
          cases b6
        · rw [b6] at z
          cases z
        · rw [b6] at z
          cases z
      · obtain ⟨o, es, ep, e, hd, _⟩ := G0.T.g
        rw [z, hP] at e
        cases e
        cases hd
    obtain ⟨f, h1, _, h3⟩ := all_defs (P := l.prog) (w := w) (base := base) (T := T) (fuel := fuel) gl hlk hB hNs tb k kl d.name hfn
    rw [hmg] at h1
    cases h1
    exact h3
/-- the table of a def -/
theorem tab_in_of {K : PySem.W.Frag} {x : Str} {f c P : Addr} {oc : Value} {od qo : Option Addr} {fd : FuncData} {sl qs : Array (Option Value)} {qk : Value} {qv : Array Value} (h1 : PySem.W.nsIn K mainGlobals x = some (some (.ref f))) (h2 : K.lookup f = some ⟨oc, od, .func fd, sl⟩)
    (h3 : fd.code = .ref c) (h4 : K.lookup c = some ⟨qk, qo, .fields qv, qs⟩) (h5 : qv[11]? = some (.ref P)) : PySem.W.tabIn K x = some (c, P) := by
  unfold PySem.W.tabIn
  rw [h1]
  dsimp only
  rw [h2]
  dsimp only
  rw [h3]
  dsimp only
  rw [h4]
  dsimp only
  rw [h5]
end Ht

set_option maxRecDepth 100000
set_option maxHeartbeats 16000000
/-! HtM: reckoning in the small language. -/
namespace Ht
open PySem L2 PyProof.Rows

/-! ### texts -/
theorem ofString_inj {a b : String} : Str.ofString a = Str.ofString b ↔ a = b := by
  constructor
  · intro h
    rw [Str.ofString_eq_toList, Str.ofString_eq_toList] at h
    have h1 : (a.toList.map Char.toNat).toArray = (b.toList.map Char.toNat).toArray := congrArg Str.cps h
    have h2 : a.toList.map Char.toNat = b.toList.map Char.toNat := by simpa using h1
    have hinj : Function.Injective Char.toNat := fun x y e => Char.toNat_inj.mp e
    have h3 : a.toList = b.toList := (List.map_inj_right (fun x y e => hinj e)).mp h2
    exact String.toList_inj.mp h3
  · rintro rfl; rfl
@[simp] theorem ofString_beq (a b : String) : (Str.ofString a == Str.ofString b) = decide (a = b) := by
  by_cases h : a = b
  · subst h; simp
  · rw [decide_eq_false h]
    exact beq_eq_false_iff_ne.mpr fun z => h (ofString_inj.mp z)
@[simp] theorem ofString_eq (a b : String) : (Str.ofString a = Str.ofString b) = (a = b) := propext ofString_inj
theorem strOk_ofString (a : String) : PyData.strOk (Str.ofString a) = true := by
  rw [Str.ofString_eq_toList]
  unfold PyData.strOk
  simp only [List.all_toArray, List.all_map, List.all_eq_true]
  intro c hc
  have h := c.valid
  have h2 : c.val.toNat < 1114112 := by
    rcases h with h | h <;> omega
  show decide (c.val.toNat < 1114112) = true
  exact decide_eq_true h2

/-! ### the spine -/
section
variable {P : Ph} {Γ Γ1 : Gm} {S S1 : Sto} {x y : PyData} {e e1 : E} {i j n : Nat} {a b c : CE} {es : CEs} {op op' : Operator}
def varR (Γ : Gm) (i : Nat) (S : Sto) : R E := match Γ[i]? with
  | some (some e) => .ok e S
  | _ => .no
@[simp] theorem varR_0 : varR (some e :: Γ) 0 S = .ok e S := rfl
@[simp] theorem varR_s {o : Option E} : varR (o :: Γ) (i + 1) S = varR Γ i S := rfl
@[simp] theorem setG_0 {o : Option E} : setG (o :: Γ) 0 e = some e :: Γ := rfl
@[simp] theorem setG_s {o : Option E} : setG (o :: Γ) (i + 1) e = o :: setG Γ i e := rfl
@[simp] theorem wipeG_nil : wipeG Γ [] = Γ := rfl
@[simp] theorem wipeG_cons {v : Nat} {vs : List Nat} : wipeG Γ (v :: vs) = (wipeG Γ vs).set v none := rfl
@[simp] theorem ev_var : ev P (.var i) Γ S = varR Γ i S := rfl
@[simp] theorem ev_con : ev P (.con x) Γ S = .ok (.d x) S := rfl
@[simp] theorem ev_glo : ev P (.glo i) Γ S = opt P.con[i]? S := rfl
@[simp] theorem ev_bin : ev P (.bin op a b) Γ S = (ev P a Γ S).bind fun x S1 => (ev P b Γ S1).bind fun y S2 => opt2 (binD op) x y S2 := rfl
@[simp] theorem ev_neg : ev P (.neg a) Γ S = (ev P a Γ S).bind fun x S1 => opt1 negD x S1 := rfl
@[simp] theorem ev_cmp {o : CmpOp} : ev P (.cmp o a b) Γ S = (ev P a Γ S).bind fun x S1 => (ev P b Γ S1).bind fun y S2 => opt2 (fun d e => (cmpD o d e).map .bool) x y S2 := rfl
@[simp] theorem ev_not : ev P (.not a) Γ S = (ev P a Γ S).bind fun x S1 => (optB (truE x S1) S1).bind fun b S1 => .ok (.d (.bool (!b))) S1 := rfl
def andR (x : E) (S : Sto) (r : Sto → R E) : R E := match x with
  | .d (.bool true) => r S
  | .d (.bool false) => .ok (.d (.bool false)) S
  | _ => .no
def orR (x : E) (S : Sto) (r : Sto → R E) : R E := match x with
  | .d (.bool false) => r S
  | .d (.bool true) => .ok (.d (.bool true)) S
  | _ => .no
@[simp] theorem andR_t {r : Sto → R E} : andR (.d (.bool true)) S r = r S := rfl
@[simp] theorem andR_f {r : Sto → R E} : andR (.d (.bool false)) S r = .ok (.d (.bool false)) S := rfl
@[simp] theorem orR_t {r : Sto → R E} : orR (.d (.bool true)) S r = .ok (.d (.bool true)) S := rfl
@[simp] theorem orR_f {r : Sto → R E} : orR (.d (.bool false)) S r = r S := rfl
theorem andR_b {k : Bool} {r : Sto → R E} : andR (.d (.bool k)) S r = if k then r S else .ok (.d (.bool false)) S := by cases k <;> rfl
theorem orR_b {k : Bool} {r : Sto → R E} : orR (.d (.bool k)) S r = if k then .ok (.d (.bool true)) S else r S := by cases k <;> rfl
@[simp] theorem ev_and : ev P (.and a b) Γ S = (ev P a Γ S).bind fun x S1 => andR x S1 fun S1 => ev P b Γ S1 := by
  rw [ev]; rfl
@[simp] theorem ev_or : ev P (.or a b) Γ S = (ev P a Γ S).bind fun x S1 => orR x S1 fun S1 => ev P b Γ S1 := by
  rw [ev]; rfl
@[simp] theorem ev_ife : ev P (.ife c a b) Γ S = (evT P c Γ S).bind fun k S1 => if k then ev P a Γ S1 else ev P b Γ S1 := rfl
@[simp] theorem ev_tup : ev P (.tup es) Γ S = (evD P es Γ S).bind fun xs S1 => if xs.length ≤ sizeLine then .ok (.d (.tuple xs)) S1 else .no := rfl
@[simp] theorem ev_lst : ev P (.lst es) Γ S = (evD P es Γ S).bind fun xs S1 => if xs.length ≤ sizeLine then .ok (.d (.list xs)) S1 else .no := rfl
def dctR (ks : List Str) (xs : List PyData) (S : Sto) : R E := match dctK ks xs with
  | some kvs => .ok (.c S.length) (S ++ [.dct kvs])
  | none => .no
@[simp] theorem ev_dct {ks : List Str} : ev P (.dct ks es) Γ S = (evD P es Γ S).bind fun xs S1 => dctR ks xs S1 := rfl
@[simp] theorem ev_idx : ev P (.idx a b) Γ S = (ev P a Γ S).bind fun x S1 => (ev P b Γ S1).bind fun y S2 => opt (idxE x y S2) S2 := rfl
@[simp] theorem ev_slc {lo hi : CO} : ev P (.slc a lo hi) Γ S = (ev P a Γ S).bind fun x S1 => (evO P lo Γ S1).bind fun l S2 => (evO P hi Γ S2).bind fun h S3 => opt1 (fun d => slcD d l h) x S3 := rfl
def callR (r : R E) (Γ : Gm) : R E := match r with
  | .ok e S2 => .ok e S2
  | .err x _ S2 => .err x Γ S2
  | .no => .no
@[simp] theorem callR_ok : callR (.ok e S) Γ = .ok e S := rfl
@[simp] theorem ev_call : ev P (.call i es) Γ S = (evs P es Γ S).bind fun xs S1 => callR (P.f i xs S1) Γ := rfl
def bltR (b : Blt) (xs : List E) (S : Sto) : R E := match peeks xs S with
  | some ds => opt (bltD b ds) S
  | none => .no
@[simp] theorem bltR_1 {b : Blt} : bltR b [.d x] S = opt (bltD b [x]) S := rfl
@[simp] theorem bltR_2 {b : Blt} : bltR b [.d x, .d y] S = opt (bltD b [x, y]) S := rfl
@[simp] theorem ev_blt {b : Blt} : ev P (.blt b es) Γ S = (evs P es Γ S).bind fun xs S1 => bltR b xs S1 := rfl
@[simp] theorem ev_app : ev P (.app a b) Γ S = (ev P a Γ S).bind fun x S1 => if isLst x S1 then (ev P b Γ S1).bind fun y S2 => appE x y S2 else .no := rfl
@[simp] theorem ev_dzip : ev P (.dzip a b) Γ S = (ev P a Γ S).bind fun x S1 => (ev P b Γ S1).bind fun y S2 => dzE x y S2 := by rw [ev]
@[simp] theorem ev_ext : ev P (.ext a b) Γ S = (ev P a Γ S).bind fun x S1 => if isLst x S1 then (ev P b Γ S1).bind fun y S2 => extE x y S2 else .no := by rw [ev]
@[simp] theorem ev_mk {m : CM} : ev P (.mk m) Γ S = (evM P m Γ S).bind fun xs S1 => .ok (.c S1.length) (S1 ++ [.lst xs]) := by rw [ev]
@[simp] theorem evM_lst : evM P (.lst es) Γ S = (evD P es Γ S).bind fun xs S1 => if xs.length ≤ sizeLine then .ok xs S1 else .no := by rw [evM]
def lisR (x : E) (S : Sto) : R (List PyData) := match peek x S with
  | some d => match seqOf d with
    | some xs => .ok xs S
    | none => .no
  | none => .no
@[simp] theorem lisR_l {xs : List PyData} : lisR (.d (.list xs)) S = .ok xs S := rfl
@[simp] theorem lisR_t {xs : List PyData} : lisR (.d (.tuple xs)) S = .ok xs S := rfl
@[simp] theorem evM_lis : evM P (.lis a) Γ S = (ev P a Γ S).bind fun x S1 => lisR x S1 := by rw [evM]; rfl
@[simp] theorem ev_rev : ev P (.rev a) Γ S = (ev P a Γ S).bind fun x S1 => opt1 revD x S1 := by rw [ev]
@[simp] theorem ev_isi {t : Cty} : ev P (.isi a t) Γ S = (ev P a Γ S).bind fun x S1 => opt1 (fun d => (isD t d).map .bool) x S1 := by rw [ev]
@[simp] theorem ev_pop : ev P (.pop a) Γ S = (ev P a Γ S).bind fun x S1 => popE x S1 := by rw [ev]
@[simp] theorem ev_popi : ev P (.popi a b) Γ S = (ev P a Γ S).bind fun x S1 => if isLst x S1 then (ev P b Γ S1).bind fun y S2 => popiE x y S2 else .no := by rw [ev]
/-- one turn of a comprehension -/
noncomputable def lc1 (P : Ph) (elt : CE) (tg : CT) (ts : CO) (Γ : Gm) (x : PyData) (S2 : Sto) : R (Option PyData) := match putT tg (.d x) Γ with
  | some Γ1 => ((evC P ts Γ1 S2).bind fun k S3 => if k then (ev P elt Γ1 S3).bind fun y S4 => (dat y S4).bind fun y S5 => .ok (some y) S5 else .ok none S3).calm
  | none => .no
def itN {α : Type} (I : Its) (r : R α) : R α := match I.w with
  | some _ => .no
  | none => r
@[simp] theorem itN_none {α : Type} {xs : List PyData} {r : R α} : itN ⟨xs, none⟩ r = r := rfl
@[simp] theorem evM_lc {tg : CT} {it : CI} {ts : CO} {own : List Nat} : evM P (.lc a tg it ts own) Γ S = (evI P it Γ S).bind fun I S1 => itN I (lcR (lc1 P a tg ts (wipeG Γ own)) I.xs [] S1) := by
  rw [evM]; rfl
@[simp] theorem ev_lc {tg : CT} {it : CI} {ts : CO} {own : List Nat} : ev P (.lc a tg it ts own) Γ S = (evI P it Γ S).bind fun I S1 => itN I ((lcR (lc1 P a tg ts (wipeG Γ own)) I.xs [] S1).bind fun ys S2 => .ok (.d (.list ys)) S2) := by
  rw [ev]; rfl
/-- one turn of the outer source -/
noncomputable def lc1o (P : Ph) (elt : CE) (tg : CT) (ts : CO) (tg1 : CT) (it1 : CI) (ts1 : CO) (own1 : List Nat) (Γ : Gm) (x : PyData) (acc : List PyData) (S2 : Sto) : R (List PyData) := match putT tg (.d x) Γ with
  | some Γ1 => (evC P ts Γ1 S2).calm.bind fun k S3 => if k then (evI P it1 Γ1 S3).calm.bind fun J S4 => itN J (lcR (lc1 P elt tg1 ts1 (wipeG Γ1 own1)) J.xs acc S4) else .ok acc S3
  | none => .no
@[simp] theorem ev_lc2 {tg : CT} {it : CI} {ts : CO} {own : List Nat} {tg1 : CT} {it1 : CI} {ts1 : CO} {own1 : List Nat} : ev P (.lc2 a tg it ts own tg1 it1 ts1 own1) Γ S = (evI P it Γ S).bind fun I S1 => itN I ((lcO (lc1o P a tg ts tg1 it1 ts1 own1 (wipeG Γ own)) I.xs [] S1).bind fun ys S2 => .ok (.d (.list ys)) S2) := by
  rw [ev]; rfl
@[simp] theorem putT_nam : putT (.nam i) e Γ = some (setG Γ i e) := by rw [putT]
@[simp] theorem putT_tup {ts : CTs} {xs : List PyData} : putT (.tup ts) (.d (.tuple xs)) Γ = putTs ts xs Γ := by rw [putT]
@[simp] theorem putTs_nil : putTs .nil [] Γ = some Γ := by rw [putTs]
@[simp] theorem putTs_cons {t : CT} {ts : CTs} {xs : List PyData} : putTs (.cons t ts) (x :: xs) Γ = (putT t (.d x) Γ).bind (putTs ts xs) := by rw [putTs]
@[simp] theorem dat_d : dat (.d x) S = .ok x S := rfl
@[simp] theorem evs_nil : evs P .nil Γ S = .ok [] S := rfl
@[simp] theorem evs_cons : evs P (.cons a es) Γ S = (ev P a Γ S).bind fun x S1 => (evs P es Γ S1).bind fun xs S2 => .ok (x :: xs) S2 := rfl
@[simp] theorem evD_nil : evD P .nil Γ S = .ok [] S := rfl
@[simp] theorem evD_cons : evD P (.cons a es) Γ S = (ev P a Γ S).bind fun x S1 => (dat x S1).bind fun d S1 => (evD P es Γ S1).bind fun xs S2 => .ok (d :: xs) S2 := rfl
@[simp] theorem evO_none : evO P .none Γ S = .ok none S := rfl
def intO (x : E) (S : Sto) : R (Option Int) := match x with
  | .d (.int i) => .ok (some i) S
  | _ => .no
@[simp] theorem intO_int {k : Int} : intO (.d (.int k)) S = .ok (some k) S := rfl
@[simp] theorem evO_some : evO P (.some a) Γ S = (ev P a Γ S).bind fun x S1 => intO x S1 := rfl
@[simp] theorem evC_none : evC P .none Γ S = .ok true S := rfl
@[simp] theorem evC_some : evC P (.some a) Γ S = evT P a Γ S := rfl
@[simp] theorem evI_seq : evI P (.seq a) Γ S = (ev P a Γ S).bind fun x S1 => seqI x S1 := rfl
noncomputable def rngR (x : E) (S : Sto) : R Its := match x with
  | .d (.int j) => @ite _ (-(2 ^ 62) ≤ j ∧ j < 2 ^ 62) (Classical.propDecidable _) (.ok ⟨rangeD 0 j.toNat, none⟩ S) .no
  | _ => .no
theorem rngR_int {j : Int} (h : -(2 ^ 62) ≤ j ∧ j < 2 ^ 62) : rngR (.d (.int j)) S = .ok ⟨rangeD 0 j.toNat, none⟩ S := if_pos h
@[simp] theorem evI_rng1 : evI P (.rng1 a) Γ S = (ev P a Γ S).bind fun x S1 => rngR x S1 := rfl
@[simp] theorem seqI_str {z : Str} : seqI (.d (.str z)) S = .ok ⟨z.cps.toList.map fun c => .str ⟨#[c]⟩, none⟩ S := rfl
@[simp] theorem seqI_list {xs : List PyData} : seqI (.d (.list xs)) S = .ok ⟨xs, none⟩ S := rfl
@[simp] theorem seqI_tuple {xs : List PyData} : seqI (.d (.tuple xs)) S = .ok ⟨xs, none⟩ S := rfl
@[simp] theorem opt1_d {g : PyData → Option PyData} : opt1 g (.d x) S = opt (g x) S := rfl
@[simp] theorem opt2_d {g : PyData → PyData → Option PyData} : opt2 g (.d x) (.d y) S = opt (g x y) S := rfl
@[simp] theorem optB_some {k : Bool} : optB (some k) S = .ok k S := rfl
@[simp] theorem opt_map_b {k : Bool} : opt ((some k).map PyData.bool) S = .ok (.d (.bool k)) S := rfl
/-! tests -/
@[simp] theorem tev_not : evT P (.not a) Γ S = (evT P a Γ S).bind fun b S1 => .ok (!b) S1 := by rw [evT]
@[simp] theorem tev_and : evT P (.and a b) Γ S = (evT P a Γ S).bind fun k S1 => if k then evT P b Γ S1 else .ok false S1 := by rw [evT]
@[simp] theorem tev_or : evT P (.or a b) Γ S = (evT P a Γ S).bind fun k S1 => if k then .ok true S1 else evT P b Γ S1 := by rw [evT]
@[simp] theorem cmpE_d {o : CmpOp} : cmpE o (.d x) (.d y) S = cmpD o x y := rfl
def cmpR (o : CmpOp) (x y : E) (S : Sto) : R Bool := optB (cmpE o x y S) S
@[simp] theorem cmpR_d {o : CmpOp} : cmpR o (.d x) (.d y) S = optB (cmpD o x y) S := rfl
theorem cmpR_c {o : CmpOp} {c : Nat} {xs : List PyData} (h : S[c]? = some (.lst xs)) : cmpR o (.d x) (.c c) S = optB (cmpD o x (.list xs)) S := by simp [cmpR, cmpE, peek, h]
theorem cmpR_k {c : Nat} {k : Str} {kvs : List (Str × PyData)} (h : S[c]? = some (.dct kvs)) : cmpR .In (.d (.str k)) (.c c) S = .ok (kvs.lookup k).isSome S := by simp [cmpR, cmpE, kinE, peek, h]
theorem cmpR_nk {c : Nat} {k : Str} {kvs : List (Str × PyData)} (h : S[c]? = some (.dct kvs)) : cmpR .NotIn (.d (.str k)) (.c c) S = .ok (!(kvs.lookup k).isSome) S := by simp [cmpR, cmpE, kinE, peek, h]
@[simp] theorem tev_cmp {o : CmpOp} : evT P (.cmp o a b) Γ S = (ev P a Γ S).bind fun x S1 => (ev P b Γ S1).bind fun y S2 => cmpR o x y S2 := by rw [evT]; rfl
def chB (o : Option Bool) (S : Sto) (r : R Bool) : R Bool := match o with
  | some true => r
  | some false => .ok false S
  | none => .no
@[simp] theorem chB_s {k : Bool} {r : R Bool} : chB (some k) S r = if k then r else .ok false S := by cases k <;> rfl
def cmp0 (o : CmpOp) (x y : E) (S : Sto) : R Bool := match peek x S, peek y S with
  | some d, some e => optB (cmpD o d e) S
  | _, _ => .no
@[simp] theorem cmp0_d {o : CmpOp} : cmp0 o (.d x) (.d y) S = optB (cmpD o x y) S := rfl
def chnR (o o' : CmpOp) (x y : E) (S : Sto) (k : R E) : R Bool := match peek x S, peek y S with
  | some d, some e => chB (cmpD o d e) S (k.bind fun z S3 => cmp0 o' y z S3)
  | _, _ => .no
@[simp] theorem chnR_d {o o' : CmpOp} {k : R E} : chnR o o' (.d x) (.d y) S k = chB (cmpD o x y) S (k.bind fun z S3 => cmp0 o' (.d y) z S3) := rfl
@[simp] theorem tev_chain {o o' : CmpOp} : evT P (.chain o o' a b c) Γ S = (ev P a Γ S).bind fun x S1 => (ev P b Γ S1).bind fun y S2 => chnR o o' x y S2 (ev P c Γ S2) := by
  rw [evT]
  congr
def chE (r : R Bool) : R E := match r with
  | .ok k S => .ok (.d (.bool k)) S
  | .err x Γ S => .err x Γ S
  | .no => .no
@[simp] theorem chE_ok {k : Bool} : chE (.ok k S) = .ok (.d (.bool k)) S := rfl
@[simp] theorem ev_chain {o o' : CmpOp} : ev P (.chain o o' a b c) Γ S = (ev P a Γ S).bind fun x S1 => (ev P b Γ S1).bind fun y S2 => chE (chnR o o' x y S2 (ev P c Γ S2)) := by
  rw [ev]
  congr
  funext x S1
  congr
  funext y S2
  unfold chnR
  cases peek x S2 <;> cases hy : peek y S2 <;> try rfl
  rename_i d e
  dsimp only
  cases cmpD o d e with
  | none => rfl
  | some k =>
    cases k
    · rfl
    · unfold chB
      dsimp only
      cases ev P c Γ S2 with
      | no => rfl
      | err q g s => rfl
      | ok z S3 =>
        simp only [R.bind_ok, opt2, cmp0]
        cases peek y S3 <;> cases peek z S3 <;> try rfl
        rename_i d' e'
        dsimp only
        cases cmpD o' d' e' <;> rfl
def truR (r : R E) : R Bool := match r with
  | .ok e S => optB (truE e S) S
  | .err x Γ S => .err x Γ S
  | .no => .no
@[simp] theorem truR_ok : truR (.ok e S) = optB (truE e S) S := rfl
@[simp] theorem truE_d : truE (.d x) S = truD x := rfl
@[simp] theorem truD_bool {k : Bool} : truD (.bool k) = some k := rfl
@[simp] theorem truD_int {k : Int} : truD (.int k) = some (k != 0) := rfl
@[simp] theorem tev_var : evT P (.var i) Γ S = truR (varR Γ i S) := by
  rw [evT]
  unfold varR
  split <;> simp_all [truR]
@[simp] theorem tev_call : evT P (.call i es) Γ S = (evs P es Γ S).bind fun xs S1 => truR (callR (P.f i xs S1) Γ) := by
  rw [evT]
  congr
  funext xs S1
  cases P.f i xs S1 <;> rfl
@[simp] theorem tev_blt {b : Blt} : evT P (.blt b es) Γ S = (evs P es Γ S).bind fun xs S1 => truR (bltR b xs S1) := by
  rw [evT]
  congr
  funext xs S1
  unfold bltR
  cases peeks xs S1 with
  | none => rfl
  | some ds =>
    dsimp only
    cases bltD b ds <;> rfl
def isiR (t : Cty) (x : E) (S : Sto) : R Bool := match peek x S with
  | some d => optB (isD t d) S
  | none => .no
@[simp] theorem isiR_d {t : Cty} : isiR t (.d x) S = optB (isD t x) S := rfl
@[simp] theorem tev_isi {t : Cty} : evT P (.isi a t) Γ S = (ev P a Γ S).bind fun x S1 => isiR t x S1 := by rw [evT]; rfl
@[simp] theorem tev_idx : evT P (.idx a b) Γ S = (ev P a Γ S).bind fun x S1 => (ev P b Γ S1).bind fun y S2 => truR (opt (idxE x y S2) S2) := by
  rw [evT]
  congr
  funext x S1
  congr
  funext y S2
  cases idxE x y S2 <;> rfl
/-! statements -/
variable {s : CS} {ss ss' : CSs} {t : CT} {it : CI}
def putR (o : Option Gm) (S : Sto) : R Flow := match o with
  | some Γ1 => .ok (.nxt Γ1) S
  | none => .no
@[simp] theorem putR_some : putR (some Γ) S = .ok (.nxt Γ) S := rfl
@[simp] theorem sv_asg : sv P (.asg t a) Γ S = (ev P a Γ S).bind fun x S1 => putR (putT t x Γ) S1 := rfl
@[simp] theorem sv_own : sv P (.own i a) Γ S = (ev P a Γ S).bind fun x S1 => (ownE x S1).bind fun y S2 => .ok (.nxt (setG Γ i y)) S2 := rfl
@[simp] theorem augI_add {i j : Int} : augI .Add i j = some (i + j) := rfl
@[simp] theorem augI_sub {i j : Int} : augI .Sub i j = some (i - j) := rfl
def augR (o : Option (Option E)) (op : Operator) (i : Nat) (Γ : Gm) (r : R E) : R Flow := match o with
  | some (some (.d (.int a))) => r.bind fun y S1 => match y with
    | .d (.int b) => match augI op a b with
      | some z => .ok (.nxt (setG Γ i (.d (.int z)))) S1
      | none => .no
    | _ => .no
  | _ => .no
@[simp] theorem sv_aug : sv P (.aug i op a) Γ S = augR Γ[i]? op i Γ (ev P a Γ S) := rfl
@[simp] theorem augR_int {x y : Int} {op : Operator} : augR (some (some (.d (.int x)))) op i Γ (.ok (.d (.int y)) S) = match augI op x y with
    | some z => .ok (.nxt (setG Γ i (.d (.int z)))) S
    | none => .no := rfl
@[simp] theorem ownE_list {xs : List PyData} : ownE (.d (.list xs)) S = .ok (.c S.length) (S ++ [.lst xs]) := rfl
@[simp] theorem sv_par : sv P (.par i j a b) Γ S = (ev P a Γ S).bind fun x S1 => (ev P b Γ S1).bind fun y S2 => .ok (.nxt (setG (setG Γ i x) j y)) S2 := rfl
def subR (o : Option Sto) (Γ : Gm) : R Flow := match o with
  | some S => .ok (.nxt Γ) S
  | none => .no
@[simp] theorem subR_some : subR (some S) Γ = .ok (.nxt Γ) S := rfl
@[simp] theorem sv_sub : sv P (.sub a b c) Γ S = (ev P c Γ S).bind fun v S1 => (ev P a Γ S1).bind fun x S2 => (ev P b Γ S2).bind fun y S3 => subR (subE x y v S3) Γ := rfl
@[simp] theorem sv_exp : sv P (.exp a) Γ S = (ev P a Γ S).bind fun _ S1 => .ok (.nxt Γ) S1 := rfl
@[simp] theorem sv_ret : sv P (.ret a) Γ S = (ev P a Γ S).bind fun x S1 => .ok (.ret x) S1 := rfl
@[simp] theorem sv_ret0 : sv P .ret0 Γ S = .ok (.ret (.d .none)) S := rfl
@[simp] theorem sv_ite : sv P (.ite a ss ss') Γ S = (evT P a Γ S).bind fun k S1 => if k then svs P ss Γ S1 else svs P ss' Γ S1 := rfl
/-- one turn of a for -/
noncomputable def lp1 (P : Ph) (t : CT) (ss : CSs) (x : PyData) (Γ : Gm) (S : Sto) : R Flow := match putT t (.d x) Γ with
  | some Γ2 => svs P ss Γ2 S
  | none => .no
@[simp] theorem sv_loop : sv P (.loop t it ss) Γ S = (evI P it Γ S).bind fun I S1 => forR I.w I.xs (lp1 P t ss) I.xs Γ S1 := rfl
@[simp] theorem sv_pass : sv P .pass Γ S = .ok (.nxt Γ) S := rfl
@[simp] theorem sv_brk : sv P .brk Γ S = .ok (.brk Γ) S := rfl
@[simp] theorem sv_cnt : sv P .cnt Γ S = .ok (.cnt Γ) S := rfl
@[simp] theorem sv_whl : sv P (.whl a ss) Γ S = whlR (fun Γ1 S1 => evT P a Γ1 S1) (fun Γ1 S1 => svs P ss Γ1 S1) P.fuel Γ S := rfl
@[simp] theorem sv_par3 {l : Nat} : sv P (.par3 i j l a b c) Γ S = (ev P a Γ S).bind fun x S1 => (ev P b Γ S1).bind fun y S2 => (ev P c Γ S2).bind fun z S3 => .ok (.nxt (setG (setG (setG Γ i x) j y) l z)) S3 := rfl
@[simp] theorem sv_rais : sv P (.rais i a) Γ S = (ev P a Γ S).bind fun x S1 => raisR i x Γ S1 := rfl
@[simp] theorem raisR_d : raisR i (.d x) Γ S = .err ⟨i, some x⟩ Γ S := rfl
@[simp] theorem sv_tryx {hs : List (Nat × SU)} : sv P (.tryx ss i hs) Γ S = catR i hs (svs P ss Γ S) := rfl
@[simp] theorem catR_ok {hs : List (Nat × SU)} {fl : Flow} : catR i hs (.ok fl S) = .ok fl S := rfl
@[simp] theorem catR_err {hs : List (Nat × SU)} {y : Exn} : catR i hs (.err y Γ S) = catC i hs y Γ S := rfl
@[simp] theorem catC_hit {u : SU} {c : Nat} {hs : List (Nat × SU)} : catC i ((c, u) :: hs) ⟨c, some x⟩ Γ S = suR u i x Γ S := by simp [catC]
theorem catC_miss {u : SU} {c c' : Nat} {a : Option PyData} {hs : List (Nat × SU)} (h : c' ≠ c) : catC i ((c, u) :: hs) ⟨c', a⟩ Γ S = catC i hs ⟨c', a⟩ Γ S := by simp [catC, h]
@[simp] theorem ev_lam {L : LD} : ev P (.lam L a) Γ S = if lvlOk P L.B S then lamR L (ev P a Γ S) else .no := by rw [ev]
theorem lvl_ok {T : List FD} {fuel : Nat} {con : List PyData} {m B : Nat} (h : T[lvk]? = none) (hB : B < m) : lvlOk ⟨callF T fuel con m, fuel, con⟩ B S = true := by
  obtain ⟨q, rfl⟩ : ∃ q, m = q + 1 := ⟨m - 1, by omega⟩
  unfold lvlOk
  have hB' : (B : Int) ≤ (q : Int) := by omega
  simp only [callF, h]
  rw [if_pos hB']
@[simp] theorem lamR_ok {L : LD} : lamR L (.ok (.d x) S) = opt (suD x L.m L.xs) S := rfl
@[simp] theorem lamR_err {L : LD} {y : Exn} : lamR L (.err y Γ S) = lamC L.hs y S := rfl
@[simp] theorem lamC_hit {c : Nat} {m : Mk} {xs : List SX} {hs : List (Nat × Mk × List SX)} : lamC ((c, m, xs) :: hs) ⟨c, some x⟩ S = opt (suD x m xs) S := by simp [lamC]
theorem lamC_miss {c c' : Nat} {a : Option PyData} {q : Mk × List SX} {hs : List (Nat × Mk × List SX)} (h : c' ≠ c) : lamC ((c, q) :: hs) ⟨c', a⟩ S = lamC hs ⟨c', a⟩ S := by simp [lamC, h]
@[simp] theorem sv_dead : sv P .dead Γ S = .no := rfl
@[simp] theorem callR_err {xx : Exn} : callR (.err xx Γ1 S) Γ = .err xx Γ S := rfl
def zipR (x y : E) (S : Sto) : R Its := match x, y with
  | .d x, .d y => match zipD x y with
    | some xs => .ok ⟨xs, none⟩ S
    | none => .no
  | _, _ => .no
@[simp] theorem evI_zip : evI P (.zip a b) Γ S = (ev P a Γ S).bind fun x S1 => (ev P b Γ S1).bind fun y S2 => zipR x y S2 := by
  simp only [evI]
  congr
@[simp] theorem zipR_tt {xs ys : List PyData} : zipR (.d (.tuple xs)) (.d (.tuple ys)) S = .ok ⟨(xs.zip ys).map fun p => .tuple [p.1, p.2], none⟩ S := rfl
@[simp] theorem zipR_ll {xs ys : List PyData} : zipR (.d (.list xs)) (.d (.list ys)) S = .ok ⟨(xs.zip ys).map fun p => .tuple [p.1, p.2], none⟩ S := rfl
def thenR (r : R Flow) (k : Gm → Sto → R Flow) : R Flow := r.bind fun fl S1 => match fl with
  | .nxt Γ1 => k Γ1 S1
  | fl => .ok fl S1
@[simp] theorem thenR_nxt {k : Gm → Sto → R Flow} : thenR (.ok (.nxt Γ) S) k = k Γ S := rfl
@[simp] theorem thenR_ret {k : Gm → Sto → R Flow} : thenR (.ok (.ret e) S) k = .ok (.ret e) S := rfl
@[simp] theorem thenR_err {xx : Exn} {k : Gm → Sto → R Flow} : thenR (.err xx Γ S) k = .err xx Γ S := rfl
@[simp] theorem thenR_brk {k : Gm → Sto → R Flow} : thenR (.ok (.brk Γ) S) k = .ok (.brk Γ) S := rfl
@[simp] theorem thenR_cnt {k : Gm → Sto → R Flow} : thenR (.ok (.cnt Γ) S) k = .ok (.cnt Γ) S := rfl
@[simp] theorem svs_nil : svs P .nil Γ S = .ok (.nxt Γ) S := rfl
@[simp] theorem svs_cons : svs P (.cons s ss) Γ S = thenR (sv P s Γ S) (svs P ss) := rfl
end

/-! ### conditionals that wrap results -/
section
variable {α β : Type} {c : Prop} [Decidable c] {r r' : R α} {f : α → Sto → R β}
theorem bind_ite : (if c then r else r').bind f = if c then r.bind f else r'.bind f := by split <;> rfl
theorem thenR_ite {r r' : R Flow} {k : Gm → Sto → R Flow} : thenR (if c then r else r') k = if c then thenR r k else thenR r' k := by split <;> rfl
end

/-! ### data -/
section
variable {a b x y z : PyData} {xs ys : List PyData} {i j : Int} {u v : Str}
@[simp] theorem atI_0 {α : Type} {x : α} {xs : List α} : atI (x :: xs) 0 = some x := by
  simp [atI, ixN]
@[simp] theorem atI_1 {α : Type} {x y : α} {xs : List α} : atI (x :: y :: xs) 1 = some y := by
  have : ixN (x :: y :: xs).length 1 = some 1 := by
    unfold ixN
    rw [if_pos (by omega), if_pos (by simp only [List.length_cons]; omega)]
    rfl
  simp only [atI, this]
  rfl
@[simp] theorem atI_2 {α : Type} {x y z : α} {xs : List α} : atI (x :: y :: z :: xs) 2 = some z := by
  have : ixN (x :: y :: z :: xs).length 2 = some 2 := by
    unfold ixN
    rw [if_pos (by omega), if_pos (by simp only [List.length_cons]; omega)]
    rfl
  simp only [atI, this]
  rfl
theorem atI_nat {α : Type} {xs : List α} {i : Nat} (h : i < xs.length) : atI xs (i : Int) = xs[i]? := by
  have : ixN xs.length (i : Int) = some i := by
    unfold ixN
    rw [if_pos (by omega), if_pos (by omega), Int.toNat_natCast]
  simp [atI, this]
theorem atI_of {α : Type} {xs : List α} {i : Int} (h0 : 0 ≤ i) (h : i < xs.length) : ∃ x ∈ xs, atI xs i = some x := by
  obtain ⟨m, rfl⟩ := Int.eq_ofNat_of_zero_le h0
  have hm : m < xs.length := by omega
  exact ⟨xs[m], List.getElem_mem _, by rw [atI_nat hm, List.getElem?_eq_getElem hm]⟩
theorem atI_at {α : Type} {xs : List α} {i : Int} (h0 : 0 ≤ i) (h : i < xs.length) : ∃ (m : Nat) (hm : m < xs.length), i = m ∧ atI xs i = some xs[m] := by
  obtain ⟨m, rfl⟩ := Int.eq_ofNat_of_zero_le h0
  have hm : m < xs.length := by omega
  exact ⟨m, hm, rfl, by rw [atI_nat hm, List.getElem?_eq_getElem hm]⟩
@[simp] theorem idxE_d {S : Sto} : idxE (.d x) (.d y) S = idxD x y := by cases x <;> cases y <;> rfl
@[simp] theorem idxD_t : idxD (.tuple xs) (.int i) = atI xs i := rfl
@[simp] theorem idxD_l : idxD (.list xs) (.int i) = atI xs i := rfl
@[simp] theorem slcD_t {lo hi : Option Int} : slcD (.tuple xs) lo hi = some (.tuple (cutA xs lo hi)) := rfl
@[simp] theorem slcD_l {lo hi : Option Int} : slcD (.list xs) lo hi = some (.list (cutA xs lo hi)) := rfl
@[simp] theorem cut_1 {α : Type} {x : α} {xs : List α} : cutA (x :: xs) (some 1) none = xs := by
  unfold cutA
  have h1 : HT.sIx (x :: xs).length 0 (some 1) = 1 := by
    have := HT.sIx_nat (x :: xs).length 0 1
    rw [show ((1 : Nat) : Int) = 1 from rfl] at this
    rw [this]
    simp
  rw [h1, HT.sIx_none]
  simp
@[simp] theorem cut_2 {α : Type} {x y : α} {xs : List α} : cutA (x :: y :: xs) (some 2) none = xs := by
  unfold cutA
  have h1 : HT.sIx (x :: y :: xs).length 0 (some 2) = 2 := by
    have := HT.sIx_nat (x :: y :: xs).length 0 2
    rw [show ((2 : Nat) : Int) = 2 from rfl] at this
    rw [this]
    simp
  rw [h1, HT.sIx_none]
  simp
theorem cut_lo {α : Type} {xs : List α} {i : Int} (h : 0 ≤ i) : cutA xs (some i) none = xs.drop i.toNat := by
  obtain ⟨m, rfl⟩ := Int.eq_ofNat_of_zero_le h
  unfold cutA
  rw [HT.sIx_nat, HT.sIx_none, Int.toNat_natCast]
  by_cases hm : m ≤ xs.length
  · rw [Nat.min_eq_left hm, List.take_of_length_le (by simp)]
  · rw [Nat.min_eq_right (by omega), List.drop_of_length_le (Nat.le_refl _), List.drop_of_length_le (by omega), List.take_nil]
theorem cut_hi {α : Type} {xs : List α} {i : Int} (h : 0 ≤ i) : cutA xs none (some i) = xs.take i.toNat := by
  obtain ⟨m, rfl⟩ := Int.eq_ofNat_of_zero_le h
  unfold cutA
  rw [HT.sIx_nat, HT.sIx_none, Int.toNat_natCast, List.drop_zero, Nat.sub_zero]
  by_cases hm : m ≤ xs.length
  · rw [Nat.min_eq_left hm]
  · rw [Nat.min_eq_right (by omega), List.take_of_length_le (Nat.le_refl _), List.take_of_length_le (by omega)]
@[simp] theorem add_i : binD .Add (.int i) (.int j) = some (.int (i + j)) := by rw [binD]
@[simp] theorem sub_i : binD .Sub (.int i) (.int j) = some (.int (i - j)) := by rw [binD]
@[simp] theorem add_l : binD .Add (.list xs) (.list ys) = if xs.length + ys.length ≤ sizeLine then some (.list (xs ++ ys)) else none := by rw [binD]
@[simp] theorem add_t : binD .Add (.tuple xs) (.tuple ys) = if xs.length + ys.length ≤ sizeLine then some (.tuple (xs ++ ys)) else none := by rw [binD]
theorem mul_l (h : Builtin.Int.intBits i ≤ 64) : binD .Mult (.int i) (.int j) = some (.int (i * j)) := by
  rw [binD]
  exact if_pos (IntMulOk.of_left h)
theorem mul_r (h : Builtin.Int.intBits j ≤ 64) : binD .Mult (.int i) (.int j) = some (.int (i * j)) := by
  rw [binD]
  exact if_pos (IntMulOk.of_right h)
theorem mul_t (h : xs ≠ [] ∧ -1000 ≤ j ∧ j ≤ 1000 ∧ xs.length ≤ 1000) : binD .Mult (.tuple xs) (.int j) = some (.tuple (List.replicate j.toNat xs).flatten) := by
  rw [binD]
  exact if_pos h
theorem mul_li (h : j ≤ 100000 ∧ -100000 ≤ j ∧ xs.length * j.toNat ≤ sizeLine) : binD .Mult (.list xs) (.int j) = some (.list (List.replicate j.toNat xs).flatten) := by
  rw [binD]
  exact if_pos h
theorem mul_s (h1 : -(2 ^ 63) < i) (h2 : i < 2 ^ 63) : binD .Mult (.int i) (.int j) = some (.int (i * j)) :=
  mul_l (intBits_le_64 (by omega) (by omega))
theorem mul_s' (h1 : -(2 ^ 63) < j) (h2 : j < 2 ^ 63) : binD .Mult (.int i) (.int j) = some (.int (i * j)) :=
  mul_r (intBits_le_64 (by omega) (by omega))
theorem mod_i (h : j ≠ 0) : binD .Mod (.int i) (.int j) = some (.int (i.fmod j)) := by
  rw [binD]
  exact if_pos h
theorem div_i (h : j ≠ 0 ∧ j.natAbs.log2 < 9000) : binD .FloorDiv (.int i) (.int j) = some (.int (i.fdiv j)) := by
  rw [binD]
  exact if_pos h
theorem shl_i (h : 0 ≤ j ∧ j ≤ 1000000 ∧ i.natAbs < 2 ^ 64) : binD .LShift (.int i) (.int j) = some (.int (i * 2 ^ j.toNat)) := by
  rw [binD]
  exact if_pos h
@[simp] theorem lt_i : cmpD .Lt (.int i) (.int j) = some (decide (i < j)) := rfl
@[simp] theorem le_i : cmpD .LtE (.int i) (.int j) = some (decide (i ≤ j)) := rfl
@[simp] theorem gt_i : cmpD .Gt (.int i) (.int j) = some (decide (j < i)) := rfl
@[simp] theorem ge_i : cmpD .GtE (.int i) (.int j) = some (decide (j ≤ i)) := rfl
@[simp] theorem eq_i : cmpD .Eq (.int i) (.int j) = some (decide (i = j)) := by
  simp [cmpD, eqOk, PyData.plain, PyData.depth, PyData.eqv]
  by_cases h : i = j <;> simp [h]
@[simp] theorem ne_i : cmpD .NotEq (.int i) (.int j) = some (!decide (i = j)) := by
  simp [cmpD, eqOk, PyData.plain, PyData.depth, PyData.eqv]
  by_cases h : i = j <;> simp [h]
theorem eq_s : cmpD .Eq (.str u) (.str v) = some (u == v) := by
  simp [cmpD, eqOk, PyData.plain, PyData.depth, PyData.eqv]
theorem ne_s : cmpD .NotEq (.str u) (.str v) = some (!(u == v)) := by
  simp [cmpD, eqOk, PyData.plain, PyData.depth, PyData.eqv]
@[simp] theorem eq_ss (a b : String) : cmpD .Eq (.str (Str.ofString a)) (.str (Str.ofString b)) = some (decide (a = b)) := by
  rw [eq_s, ofString_beq]
@[simp] theorem eq_s_refl : cmpD .Eq (.str u) (.str u) = some true := by rw [eq_s]; simp
@[simp] theorem ne_s_refl : cmpD .NotEq (.str u) (.str u) = some false := by rw [ne_s]; simp
/-- texts of a set kept apart: all are sound -/
theorem in_s {us : List Str} {c : List PyData → PyData} (hc : c = .list ∨ c = .tuple) : cmpD .In (.str u) (c (us.map .str)) = some (decide (u ∈ us)) := by
  have h : inD (.str u) (c (us.map .str)) = some (decide (u ∈ us)) := by
    have hs : seqOf (c (us.map .str)) = some (us.map .str) := by rcases hc with rfl | rfl <;> rfl
    have hall : PyData.plainAll (us.map PyData.str) = true := by
      clear hs
      induction us with
      | nil => rfl
      | cons w ws ih => simp only [List.map_cons, PyData.plainAll, PyData.plain, ih, Bool.and_self]
    have hany : ((us.map PyData.str).any fun z => PyData.eqv z (.str u)) = decide (u ∈ us) := by
      rw [List.any_map]
      induction us with
      | nil => rfl
      | cons w ws ih =>
        rw [List.any_cons]
        have := ih (by rcases hc with rfl | rfl <;> rfl) (by
          simp only [List.map_cons, PyData.plainAll, Bool.and_eq_true] at hall
          exact hall.2)
        rw [this]
        simp only [Function.comp, PyData.eqv, List.mem_cons]
        by_cases e : u = w
        · subst e; simp
        · have e2 : (w == u) = false := beq_eq_false_iff_ne.mpr fun z => e z.symm
          rw [e2]
          simp [e]
    rcases hc with rfl | rfl <;> (unfold inD; simp [seqOf, hall, hany, PyData.plain, PyData.depth])
  exact h
theorem nin_s {us : List Str} {c : List PyData → PyData} (hc : c = .list ∨ c = .tuple) : cmpD .NotIn (.str u) (c (us.map .str)) = some (!decide (u ∈ us)) := by
  have h := in_s (u := u) (us := us) hc
  have h2 : inD (.str u) (c (us.map .str)) = some (decide (u ∈ us)) := h
  show (inD _ _).map (!·) = _
  rw [h2]
  rfl
@[simp] theorem len_l : bltD .len [.list xs] = some (.int xs.length) := rfl
@[simp] theorem len_t : bltD .len [.tuple xs] = some (.int xs.length) := rfl
@[simp] theorem int_i : bltD .int [.int i] = some (.int i) := rfl
@[simp] theorem tuple_l : bltD .tuple [.list xs] = some (.tuple xs) := rfl
@[simp] theorem tuple_t : bltD .tuple [.tuple xs] = some (.tuple xs) := rfl
@[simp] theorem list_l : bltD .list [.list xs] = some (.list xs) := rfl
@[simp] theorem list_t : bltD .list [.tuple xs] = some (.list xs) := rfl
@[simp] theorem max2_i : bltD .max2 [.int i, .int j] = some (.int (if j > i then j else i)) := rfl
@[simp] theorem min2_i : bltD .min2 [.int i, .int j] = some (.int (if j < i then j else i)) := rfl
theorem intsOf_map {α : Type} (f : α → Int) : ∀ l : List α, intsOf (l.map fun x => .int (f x)) = some (l.map f)
  | [] => rfl
  | x :: l => by simp [intsOf, intsOf_map f l]
end

/-! ### comprehensions, loops -/
theorem lcR_map {f : PyData → Sto → R (Option PyData)} {g : PyData → PyData} {S : Sto} : ∀ (xs acc : List PyData), (∀ x ∈ xs, f x S = .ok (some (g x)) S) → acc.length + xs.length ≤ sizeLine → lcR f xs acc S = .ok (acc ++ xs.map g) S
  | [], acc, _, _ => by simp [lcR]
  | x :: xs, acc, h, hl => by
    simp only [List.length_cons] at hl
    rw [lcR, h x List.mem_cons_self]
    simp only [R.bind_ok]
    rw [if_pos (by omega), lcR_map xs (acc ++ [g x]) (fun z hz => h z (List.mem_cons_of_mem _ hz)) (by simp; omega)]
    simp
theorem lcR_filter {f : PyData → Sto → R (Option PyData)} {p : PyData → Bool} {g : PyData → PyData} {S : Sto} : ∀ (xs acc : List PyData), (∀ x ∈ xs, f x S = .ok (if p x then some (g x) else none) S) → acc.length + xs.length ≤ sizeLine → lcR f xs acc S = .ok (acc ++ (xs.filter p).map g) S
  | [], acc, _, _ => by simp [lcR]
  | x :: xs, acc, h, hl => by
    simp only [List.length_cons] at hl
    rw [lcR, h x List.mem_cons_self]
    simp only [R.bind_ok]
    by_cases hp : p x = true
    · simp only [hp, if_true, List.filter_cons_of_pos]
      rw [if_pos (by omega), lcR_filter xs (acc ++ [g x]) (fun z hz => h z (List.mem_cons_of_mem _ hz)) (by simp; omega)]
      simp
    · have hp' : p x = false := by simpa using hp
      simp only [hp', List.filter_cons]
      exact lcR_filter xs acc (fun z hz => h z (List.mem_cons_of_mem _ hz)) (by omega)
/-- a for whose state is told by a fold -/
theorem forR_fold {σ : Type} {f : PyData → Gm → Sto → R Flow} {all : List PyData} (enc : σ → Gm) (st : σ → Sto) (g : σ → PyData → σ) : ∀ (xs : List PyData) (a : σ), (∀ a, ∀ x ∈ xs, f x (enc a) (st a) = .ok (.nxt (enc (g a x))) (st (g a x))) →
    forR none all f xs (enc a) (st a) = .ok (.nxt (enc (xs.foldl g a))) (st (xs.foldl g a))
  | [], a, _ => by rw [forR]; rfl
  | x :: xs, a, h => by
    rw [forR, h a x List.mem_cons_self]
    simp only [R.bind_ok]
    rw [if_pos (by trivial), forR_fold enc st g xs (g a x) fun a z hz => h a z (List.mem_cons_of_mem _ hz)]
    rfl
/-- a for that keeps what holds -/
theorem forR_inv {f : PyData → Gm → Sto → R Flow} {all : List PyData} (I : Nat → Gm → Sto → Prop) : ∀ (xs : List PyData) (i : Nat) (Γ : Gm) (S : Sto), I i Γ S → (∀ (k : Nat) (x : PyData) Γ S, xs[k]? = some x → I (i + k) Γ S → ∃ Γ' S', f x Γ S = .ok (.nxt Γ') S' ∧ I (i + k + 1) Γ' S') →
    ∃ Γ' S', forR none all f xs Γ S = .ok (.nxt Γ') S' ∧ I (i + xs.length) Γ' S'
  | [], i, Γ, S, h, _ => ⟨Γ, S, by rw [forR], h⟩
  | x :: xs, i, Γ, S, h, hf => by
    obtain ⟨Γ1, S1, e, h1⟩ := hf 0 x Γ S rfl h
    obtain ⟨Γ2, S2, e2, h2⟩ := forR_inv (all := all) I xs (i + 1) Γ1 S1 h1 fun k z Γ S hz hI => by
      have := hf (k + 1) z Γ S (by simpa using hz) (by rw [show i + (k + 1) = i + 1 + k by omega]; exact hI)
      rw [show i + (k + 1) + 1 = i + 1 + k + 1 by omega] at this
      exact this
    refine ⟨Γ2, S2, ?_, by rw [List.length_cons, show i + (xs.length + 1) = i + 1 + xs.length by omega]; exact h2⟩
    rw [forR, e]
    simp only [R.bind_ok]
    rw [if_pos (by trivial)]
    exact e2

/-! ### a call -/
theorem call_eq {T : List FD} {fuel : Nat} {con : List PyData} {n k : Nat} {es : List E} {S : Sto} {F : FD} (h : T[k]? = some F) (hl : es.length = F.np) : callF T fuel con (n + 1) k es S = finR S.length (svs ⟨callF T fuel con n, fuel, con⟩ F.body (begin_ F es) S) := by
  simp only [callF, h]
  exact if_pos hl
@[simp] theorem fin_d {x : PyData} {S : Sto} : fin S.length (.d x) S = .ok (.d x) S := by simp [fin]
@[simp] theorem finR_d {x : PyData} {S : Sto} : finR S.length (.ok (.ret (.d x)) S) = .ok (.d x) S := by simp [finR, fin]
@[simp] theorem finR_set {x : PyData} {S : Sto} {c : Nat} {z : Cell} : finR S.length (.ok (.ret (.d x)) (S.set c z)) = .ok (.d x) (S.set c z) := by
  simp only [finR, fin]
  rw [List.take_of_length_le (by simp)]
@[simp] theorem finR_err {xx : Exn} {Γ : Gm} {S : Sto} : finR S.length (.err xx Γ S) = .err xx [] S := by simp [finR]
@[simp] theorem finR_app {x : PyData} {S S' : Sto} : finR S.length (.ok (.ret (.d x)) (S ++ S')) = .ok (.d x) S := by
  simp [finR, fin]
end Ht

set_option maxRecDepth 100000
set_option maxHeartbeats 16000000
/-! HtN: the draws that all laws share. -/
namespace Ht
open PySem L2 PyProof.Rows

def begun0 : CS := .asg (.nam 2) (.bin .Add (.slc (.var 0) (.some (.var 1)) .none) (.slc (.var 0) .none (.some (.var 1))))
def begun1 : CS := .asg (.nam 3) (.lc (.var 5) (.nam 5) (.seq (.var 0)) (.some (.cmp .GtE (.var 5) (.bin .Pow (.con (.int 10)) (.con (.int 18))))) [5])
def begun2 : CS := .asg (.nam 4) (.bin .Add (.con (.int 53)) (.bin .Mult (.con (.int 8)) (.var 1)))
def begun3b : CSs := .cons (.asg (.nam 4) (.bin .Mod (.blt .int (.cons (.bin .Add (.bin .Mult (.var 4) (.con (.int 48271))) (.var 5)) .nil)) (.con (.int 2147483647)))) .nil
def begun3 : CS := .loop (.nam 5) (.seq (.var 2)) begun3b
def begun4 : CS := .ret (.dct ["left", "seed", "cells", "spot"] (.cons (.ife (.cmp .Lt (.var 1) (.blt .len (.cons (.var 3) .nil))) (.idx (.var 3) (.var 1)) (.con (.int 0))) (.cons (.var 4) (.cons (.bin .Add (.var 2) (.lst (.cons (.bin .Add (.bin .Mult (.con (.int 41)) (.var 1)) (.con (.int 13))) .nil))) (.cons (.con (.int 0)) .nil)))))
def begunF : FD := ⟨2, 6, .cons begun0 (.cons begun1 (.cons begun2 (.cons begun3 (.cons begun4 .nil))))⟩
def draw0 : CS := .ite (.cmp .Gt (.idx (.var 0) (.con (.str "left"))) (.con (.int 0))) (.cons (.asg (.nam 7) (.bin .Mod (.blt .int (.cons (.idx (.var 0) (.con (.str "left"))) .nil)) (.var 1))) (.cons (.sub (.var 0) (.con (.str "left")) (.bin .FloorDiv (.idx (.var 0) (.con (.str "left"))) (.var 1))) (.cons (.ret (.var 7)) .nil))) .nil
def draw1 : CS := .asg (.nam 2) (.idx (.var 0) (.con (.str "spot")))
def draw2 : CS := .sub (.var 0) (.con (.str "spot")) (.bin .Add (.var 2) (.con (.int 1)))
def draw3 : CS := .par 3 4 (.idx (.var 0) (.con (.str "cells"))) (.bin .Add (.idx (.var 0) (.con (.str "seed"))) (.bin .Mult (.bin .Mult (.con (.int 40503)) (.var 2)) (.var 2)))
def draw4 : CS := .asg (.nam 5) (.idx (.var 3) (.bin .Mod (.blt .int (.cons (.var 2) .nil)) (.blt .len (.cons (.var 3) .nil))))
def draw5 : CS := .asg (.nam 6) (.bin .Mod (.blt .int (.cons (.bin .Add (.bin .Mult (.var 5) (.bin .Add (.bin .Mult (.con (.int 2)) (.var 2)) (.con (.int 3)))) (.var 4)) .nil)) (.con (.int 2147483647)))
def draw6 : CS := .asg (.nam 6) (.bin .Mod (.blt .int (.cons (.bin .Add (.bin .Add (.bin .Mult (.var 6) (.var 6)) (.bin .Mult (.con (.int 69621)) (.var 2))) (.idx (.var 0) (.con (.str "seed")))) .nil)) (.con (.int 2147483629)))
def draw7 : CS := .ret (.bin .Mod (.bin .FloorDiv (.bin .Mod (.blt .int (.cons (.bin .Add (.bin .Mult (.var 6) (.con (.int 48271))) (.var 2)) .nil)) (.con (.int 2147483647))) (.con (.int 11))) (.var 1))
def drawF : FD := ⟨2, 8, .cons draw0 (.cons draw1 (.cons draw2 (.cons draw3 (.cons draw4 (.cons draw5 (.cons draw6 (.cons draw7 .nil)))))))⟩
def ofF (k : Nat) : FD := ⟨2, 2, .cons (.ret (.idx (.var 1) (.call k (.cons (.var 0) (.cons (.blt .len (.cons (.var 1) .nil)) .nil))))) .nil⟩

/-- the draws' dict, at most p steps along -/
def drK (l s : Int) (cs : List Int) (sp : Int) : List (Str × PyData) := [("left", .int l), ("seed", .int s), ("cells", .list (cs.map .int)), ("spot", .int sp)]
structure Dr (p : Nat) (c : Cell) : Prop where
  ex : ∃ l s cs sp, c = .dct (drK l s cs sp) ∧ cs ≠ [] ∧ 0 ≤ sp ∧ sp ≤ p
theorem Dr.mono {p q : Nat} {c : Cell} (h : Dr p c) (hq : p ≤ q) : Dr q c := by
  obtain ⟨l, s, cs, sp, h1, h2, h3, h4⟩ := h.ex
  exact ⟨l, s, cs, sp, h1, h2, h3, by omega⟩
section
variable {l s sp : Int} {cs : List Int} {S : Sto} {c n : Nat} {x : PyData}
theorem dr_left (h : S[c]? = some (.dct (drK l s cs sp))) : idxE (.c c) (.d (.str "left")) S = some (.int l) := by
  simp only [idxE, h]
  simp [drK, List.lookup]
theorem dr_seed (h : S[c]? = some (.dct (drK l s cs sp))) : idxE (.c c) (.d (.str "seed")) S = some (.int s) := by
  simp only [idxE, h]
  simp [drK, List.lookup]
theorem dr_cells (h : S[c]? = some (.dct (drK l s cs sp))) : idxE (.c c) (.d (.str "cells")) S = some (.list (cs.map .int)) := by
  simp only [idxE, h]
  simp [drK, List.lookup]
theorem dr_spot (h : S[c]? = some (.dct (drK l s cs sp))) : idxE (.c c) (.d (.str "spot")) S = some (.int sp) := by
  simp only [idxE, h]
  simp [drK, List.lookup]
theorem dr_put_left {l' : Int} (h : S[c]? = some (.dct (drK l s cs sp))) : subE (.c c) (.d (.str "left")) (.d (.int l')) S = some (S.set c (.dct (drK l' s cs sp))) := by
  simp only [subE, h]
  rw [if_pos (by simp [drK, List.lookup]; decide)]
  simp [drK, putS]
theorem dr_put_spot {l' : Int} (h : S[c]? = some (.dct (drK l s cs sp))) : subE (.c c) (.d (.str "spot")) (.d (.int l')) S = some (S.set c (.dct (drK l s cs l'))) := by
  simp only [subE, h]
  rw [if_pos (by simp [drK, List.lookup]; decide)]
  simp [drK, putS]
theorem fmod_pos {a b : Int} (h : 0 < b) : 0 ≤ a.fmod b ∧ a.fmod b < b := ⟨Int.fmod_nonneg_of_pos a h, Int.fmod_lt_of_pos a h⟩
theorem draw_svs {P : Ph} {b : Int} {p : Nat} (hS : S[c]? = some (.dct (drK l s cs sp))) (hc : cs ≠ []) (h0 : 0 ≤ sp) (h1 : sp ≤ 2 ^ 40) (hb : 0 < b) (hlog : b.natAbs.log2 < 9000) :
    ∃ r l' sp', 0 ≤ r ∧ r < b ∧ 0 ≤ sp' ∧ sp' ≤ sp + 1 ∧ svs P drawF.body [some (.c c), some (.d (.int b)), none, none, none, none, none, none] S = .ok (.ret (.d (.int r))) (S.set c (.dct (drK l' s cs sp'))) := by
  have hl : c < S.length := (List.getElem?_eq_some_iff.mp hS).1
  by_cases hg : 0 < l
  · refine ⟨l.fmod b, l.fdiv b, sp, (fmod_pos hb).1, (fmod_pos hb).2, h0, by omega, ?_⟩
    simp [drawF, draw0, dr_left hS, cmpR, hg, mod_i (Int.ne_of_gt hb), div_i ⟨Int.ne_of_gt hb, hlog⟩, dr_put_left hS]
  · have h2 : ∀ z, (S.set c (.dct z))[c]? = some (.dct z) := fun z => List.getElem?_set_self hl
    have hlen : (0 : Int) < cs.length := by
      have : 0 < cs.length := List.length_pos_iff.mpr hc
      omega
    obtain ⟨m, hm, e1, e2⟩ := atI_at (xs := cs.map PyData.int) (i := sp.fmod cs.length) (fmod_pos hlen).1 (by simpa using (fmod_pos hlen).2)
    have e3 : (cs.map PyData.int)[m] = .int (cs[m]'(by simpa using hm)) := by simp
    rw [e3] at e2
    have m1 : 40503 * sp < 2 ^ 63 := by omega
    have m2 : (-(2 ^ 63) : Int) < 40503 * sp := by omega
    have q1 : ∀ a : Int, (-(2 ^ 63) : Int) < a.fmod 2147483647 ∧ a.fmod 2147483647 < 2 ^ 63 := fun a => by
      have := fmod_pos (a := a) (b := 2147483647) (by decide)
      omega
    have q2 : ∀ a : Int, (-(2 ^ 63) : Int) < a.fmod 2147483629 ∧ a.fmod 2147483629 < 2 ^ 63 := fun a => by
      have := fmod_pos (a := a) (b := 2147483629) (by decide)
      omega
    have q3 : ∀ a : Int, (a.fmod b) = a.fmod b := fun _ => rfl
    obtain ⟨w, ew⟩ : ∃ w, w = cs[m]'(by simpa using hm) := ⟨_, rfl⟩
    rw [← ew] at e2
    obtain ⟨b1, eb1⟩ : ∃ z, z = (w * (2 * sp + 3) + (s + 40503 * sp * sp)).fmod 2147483647 := ⟨_, rfl⟩
    obtain ⟨b2, eb2⟩ : ∃ z, z = (b1 * b1 + 69621 * sp + s).fmod 2147483629 := ⟨_, rfl⟩
    refine ⟨(((b2 * 48271 + sp).fmod 2147483647).fdiv 11).fmod b, l, sp + 1, (fmod_pos hb).1, (fmod_pos hb).2, by omega, by omega, ?_⟩
    rw [eb2, eb1]
    simp [drawF, draw0, draw1, draw2, draw3, draw4, draw5, draw6, draw7, dr_left hS, dr_spot hS, cmpR, hg, dr_put_spot hS, dr_cells (h2 _), dr_seed (h2 _), mul_s (i := 40503) (by decide) (by decide), mul_s (i := 2) (by decide) (by decide), mul_s (i := 69621) (by decide) (by decide),
      mul_s m2 m1, mod_i (Int.ne_of_gt hlen), e2, mul_s' (j := 2 * sp + 3) (by omega) (by omega), mod_i (i := _) (j := 2147483647) (by decide), mod_i (i := _) (j := 2147483629) (by decide), mul_s (q1 _).1 (q1 _).2, mul_s (q2 _).1 (q2 _).2, div_i (j := 11) ⟨by decide, by decide⟩, mod_i (Int.ne_of_gt hb)]
/-- a draw: below b, one step more at most -/
theorem draw_okL {T : List FD} {fuel : Nat} {con : List PyData} {k : Nat} {b : Int} {p : Nat} {d : Cell} (hT : T[k]? = some drawF) (hS : S[c]? = some d) (hd : Dr p d) (hp : p ≤ 2 ^ 40) (hb : 0 < b) (hlog : b.natAbs.log2 < 9000) :
    ∃ r d', 0 ≤ r ∧ r < b ∧ Dr (p + 1) d' ∧ callF T fuel con (n + 1) k [.c c, .d (.int b)] S = .ok (.d (.int r)) (S.set c d') := by
  obtain ⟨l, s, cs, sp, rfl, h2, h3, h4⟩ := hd.ex
  obtain ⟨r, l', sp', g1, g2, g3, g4, e⟩ := draw_svs (P := ⟨callF T fuel con n, fuel, con⟩) (p := p) hS h2 h3 (by omega) hb hlog
  refine ⟨r, .dct (drK l' s cs sp'), g1, g2, ⟨⟨l', s, cs, sp', rfl, h2, g3, by omega⟩⟩, ?_⟩
  rw [call_eq hT rfl]
  show finR S.length (svs _ drawF.body [some (.c c), some (.d (.int b)), none, none, none, none, none, none] S) = _
  rw [e, finR_set]
theorem log_small {b : Int} (h : b < 2 ^ 60) (h0 : 0 < b) : b.natAbs.log2 < 9000 := by
  have : b.natAbs.log2 < 60 := (Nat.log2_lt (by omega)).mpr (by omega)
  omega
theorem draw_ok {T : List FD} {fuel : Nat} {con : List PyData} {k : Nat} {b : Int} {p : Nat} {d : Cell} (hT : T[k]? = some drawF) (hS : S[c]? = some d) (hd : Dr p d) (hp : p ≤ 2 ^ 40) (hb : 0 < b) (hb2 : b < 2 ^ 60) :
    ∃ r d', 0 ≤ r ∧ r < b ∧ Dr (p + 1) d' ∧ callF T fuel con (n + 1) k [.c c, .d (.int b)] S = .ok (.d (.int r)) (S.set c d') := draw_okL hT hS hd hp hb (log_small hb2 hb)
theorem of_ok {T : List FD} {fuel : Nat} {con : List PyData} {k ko : Nat} {p : Nat} {d : Cell} {xs : List PyData} {mk : List PyData → PyData} (hmk : mk = .list ∨ mk = .tuple) (hT : T[k]? = some drawF) (hO : T[ko]? = some (ofF k)) (hS : S[c]? = some d) (hd : Dr p d) (hp : p ≤ 2 ^ 40)
    (hx : xs ≠ []) (hx2 : xs.length < 2 ^ 60) :
    ∃ (m : Nat) (hm : m < xs.length) (d' : Cell), Dr (p + 1) d' ∧ callF T fuel con (n + 2) ko [.c c, .d (mk xs)] S = .ok (.d xs[m]) (S.set c d') := by
  have hl : 0 < xs.length := List.length_pos_iff.mpr hx
  obtain ⟨r, d', g1, g2, g3, e⟩ := draw_ok (n := n) (fuel := fuel) (con := con) hT hS hd hp (b := xs.length) (by omega) (by omega)
  obtain ⟨m, hm, e1, e2⟩ := atI_at g1 g2
  refine ⟨m, hm, d', g3, ?_⟩
  rw [call_eq hO rfl]
  show finR S.length (svs _ (ofF k).body [some (.c c), some (.d (mk xs))] S) = _
  rcases hmk with rfl | rfl <;> simp [ofF, e, e2]
end
theorem draw_at {T : List FD} {fuel : Nat} {con : List PyData} {k : Nat} {b : Int} {p c n : Nat} {d : Cell} {S : Sto} (hn : 0 < n) (hT : T[k]? = some drawF) (hS : S[c]? = some d) (hd : Dr p d) (hp : p ≤ 2 ^ 40) (hb : 0 < b) (hb2 : b < 2 ^ 60) :
    ∃ r d', 0 ≤ r ∧ r < b ∧ Dr (p + 1) d' ∧ (S.set c d')[c]? = some d' ∧ callF T fuel con n k [.c c, .d (.int b)] S = .ok (.d (.int r)) (S.set c d') := by
  obtain ⟨m, rfl⟩ : ∃ m, n = m + 1 := ⟨n - 1, by omega⟩
  obtain ⟨r, d', h1, h2, h3, h4⟩ := draw_ok (n := m) (fuel := fuel) (con := con) hT hS hd hp hb hb2
  exact ⟨r, d', h1, h2, h3, List.getElem?_set_self (List.getElem?_eq_some_iff.mp hS).1, h4⟩
theorem draw_atL {T : List FD} {fuel : Nat} {con : List PyData} {k : Nat} {b : Int} {p c n : Nat} {d : Cell} {S : Sto} (hn : 0 < n) (hT : T[k]? = some drawF) (hS : S[c]? = some d) (hd : Dr p d) (hp : p ≤ 2 ^ 40) (hb : 0 < b) (hlog : b.natAbs.log2 < 9000) :
    ∃ r d', 0 ≤ r ∧ r < b ∧ Dr (p + 1) d' ∧ (S.set c d')[c]? = some d' ∧ callF T fuel con n k [.c c, .d (.int b)] S = .ok (.d (.int r)) (S.set c d') := by
  obtain ⟨m, rfl⟩ : ∃ m, n = m + 1 := ⟨n - 1, by omega⟩
  obtain ⟨r, d', h1, h2, h3, h4⟩ := draw_okL (n := m) (fuel := fuel) (con := con) hT hS hd hp hb hlog
  exact ⟨r, d', h1, h2, h3, List.getElem?_set_self (List.getElem?_eq_some_iff.mp hS).1, h4⟩
theorem of_at {T : List FD} {fuel : Nat} {con : List PyData} {k ko p c n : Nat} {d : Cell} {S : Sto} {xs : List PyData} {mk : List PyData → PyData} (hmk : mk = .list ∨ mk = .tuple) (hn : 1 < n) (hT : T[k]? = some drawF) (hO : T[ko]? = some (ofF k)) (hS : S[c]? = some d) (hd : Dr p d) (hp : p ≤ 2 ^ 40)
    (hx : xs ≠ []) (hx2 : xs.length < 2 ^ 60) :
    ∃ x ∈ xs, ∃ (d' : Cell), Dr (p + 1) d' ∧ (S.set c d')[c]? = some d' ∧ callF T fuel con n ko [.c c, .d (mk xs)] S = .ok (.d x) (S.set c d') := by
  obtain ⟨m, rfl⟩ : ∃ m, n = m + 2 := ⟨n - 2, by omega⟩
  obtain ⟨i, hi, d', h1, h2⟩ := of_ok (n := m) (fuel := fuel) (con := con) hmk hT hO hS hd hp hx hx2
  exact ⟨xs[i], List.getElem_mem _, d', h1, List.getElem?_set_self (List.getElem?_eq_some_iff.mp hS).1, h2⟩
/-! ### the beginning -/
theorem begun_loop {P : Ph} {a0 a1 a2 a3 : Option E} {S : Sto} {all : List PyData} : ∀ (xs : List Int) (v : Int) (o : Option E), 0 ≤ v → v < 2 ^ 40 → ∃ v' o', forR none all (lp1 P (.nam 5) begun3b) (xs.map .int) [a0, a1, a2, a3, some (.d (.int v)), o] S = .ok (.nxt [a0, a1, a2, a3, some (.d (.int v')), o']) S
  | [], v, o, _, _ => ⟨v, o, by rw [List.map_nil, forR]⟩
  | x :: xs, v, o, h0, h1 => by
    have q1 := fmod_pos (a := v * 48271 + x) (b := 2147483647) (by decide)
    obtain ⟨v', o', e⟩ := begun_loop (P := P) (a0 := a0) (a1 := a1) (a2 := a2) (a3 := a3) (S := S) (all := all) xs ((v * 48271 + x).fmod 2147483647) (some (.d (.int x))) q1.1 (by omega)
    refine ⟨v', o', ?_⟩
    rw [List.map_cons, forR]
    have st : lp1 P (.nam 5) begun3b (.int x) [a0, a1, a2, a3, some (.d (.int v)), o] S = .ok (.nxt [a0, a1, a2, a3, some (.d (.int ((v * 48271 + x).fmod 2147483647))), some (.d (.int x))]) S := by
      simp [lp1, begun3b, mul_s (i := v) (j := 48271) (by omega) (by omega), mod_i (i := v * 48271 + x) (j := 2147483647) (by decide)]
    rw [st]
    simp only [R.bind_ok]
    rw [if_pos (by trivial)]
    exact e
theorem cells_of (ns : List Int) (k : Nat) : cutA (ns.map PyData.int) (some (k : Int)) none ++ cutA (ns.map PyData.int) none (some (k : Int)) = (ns.drop k ++ ns.take k).map PyData.int := by
  rw [cut_lo (by omega), cut_hi (by omega)]
  simp
theorem begun_ok {T : List FD} {fuel : Nat} {con : List PyData} {n kb : Nat} {S : Sto} {ns : List Int} {k : Nat} (hT : T[kb]? = some begunF) (hl : ns.length ≤ 63) (hk : k ≤ 1000) :
    ∃ d, Dr 0 d ∧ callF T fuel con (n + 1) kb [.d (.list (ns.map .int)), .d (.int k)] S = .ok (.c S.length) (S ++ [d]) := by
  have hs : (63 : Nat) * 4 ≤ sizeLine := by decide
  have hpow : binD .Pow (.int 10) (.int 18) = some (.int 1000000000000000000) := by
    rw [binD]
    rw [if_pos (by decide)]
    rfl
  have hlc : ∀ Γ : Gm, Γ.length = 5 → lcR (lc1 ⟨callF T fuel con n, fuel, con⟩ (.var 5) (.nam 5) (.some (.cmp .GtE (.var 5) (.bin .Pow (.con (.int 10)) (.con (.int 18))))) (Γ ++ [none])) (ns.map .int) [] S = .ok ((ns.filter fun z => decide (1000000000000000000 ≤ z)).map .int) S := by
    intro Γ hΓ
    match Γ, hΓ with
    | [b0, b1, b2, b3, b4], _ =>
      have := lcR_filter (f := lc1 ⟨callF T fuel con n, fuel, con⟩ (.var 5) (.nam 5) (.some (.cmp .GtE (.var 5) (.bin .Pow (.con (.int 10)) (.con (.int 18))))) ([b0, b1, b2, b3, b4] ++ [none])) (p := fun x => match x with | .int z => decide (1000000000000000000 ≤ z) | _ => false) (g := id) (S := S) (ns.map .int) [] (by
        intro x hx
        obtain ⟨z, _, rfl⟩ := List.mem_map.mp hx
        by_cases h : (1000000000000000000 : Int) ≤ z
        · simp [lc1, hpow, cmpR, h]
        · simp [lc1, hpow, cmpR, h]) (by simp; omega)
      rw [this]
      congr 1
      simp only [List.nil_append, List.map_id_fun, id]
      rw [List.filter_map]
      rfl
  generalize hG : (ns.filter fun z => decide (1000000000000000000 ≤ z)) = gr at hlc
  obtain ⟨v', o', eL⟩ := begun_loop (P := ⟨callF T fuel con n, fuel, con⟩) (a0 := some (.d (.list (ns.map .int)))) (a1 := some (.d (.int k))) (a2 := some (.d (.list ((ns.drop k ++ ns.take k).map .int)))) (a3 := some (.d (.list (gr.map .int)))) (S := S) (all := (ns.drop k ++ ns.take k).map .int) (ns.drop k ++ ns.take k) (53 + 8 * k) none (by omega) (by omega)
  have hcut : ∀ zs : List Int, (cutA (ns.map PyData.int) (some (k : Int)) none).length + (cutA (ns.map PyData.int) none (some (k : Int))).length ≤ sizeLine := fun _ => by
    rw [cut_lo (by omega), cut_hi (by omega)]
    simp
    omega
  have hdk : ∀ a b c d : PyData, dctK (["left", "seed", "cells", "spot"] : List Str) [a, b, c, d] = some ([("left", a), ("seed", b), ("cells", c), ("spot", d)] : List (Str × PyData)) := fun a b c d => by
    unfold dctK
    rw [if_pos ⟨rfl, by decide, by decide +kernel⟩]
    rfl
  have hlen2 : (ns.drop k ++ ns.take k).length + 1 ≤ sizeLine := by
    simp
    omega
  obtain ⟨l, hl5⟩ : ∃ l : Int, ∀ P : Ph, P = ⟨callF T fuel con n, fuel, con⟩ → ev P (.ife (.cmp .Lt (.var 1) (.blt .len (.cons (.var 3) .nil))) (.idx (.var 3) (.var 1)) (.con (.int 0))) [some (.d (.list (ns.map .int))), some (.d (.int k)), some (.d (.list ((ns.drop k ++ ns.take k).map .int))), some (.d (.list (gr.map .int))), some (.d (.int v')), o'] S = .ok (.d (.int l)) S := by
    by_cases h : k < gr.length
    · refine ⟨gr[k], fun P _ => ?_⟩
      have e : atI (gr.map PyData.int) (k : Int) = some (.int gr[k]) := by
        rw [atI_nat (by simpa using h)]
        simp [h]
      simp [cmpR, h, e]
    · refine ⟨0, fun P _ => ?_⟩
      simp [cmpR, h]
  refine ⟨.dct (drK l v' (ns.drop k ++ ns.take k ++ [41 * (k : Int) + 13]) 0), ⟨⟨l, v', (ns.drop k ++ ns.take k ++ [41 * (k : Int) + 13]), 0, rfl, by simp, by omega, by omega⟩⟩, ?_⟩
  rw [call_eq hT rfl]
  show finR S.length (svs _ begunF.body [some (.d (.list (ns.map .int))), some (.d (.int k)), none, none, none, none] S) = _
  have s0 : sv ⟨callF T fuel con n, fuel, con⟩ begun0 [some (.d (.list (ns.map .int))), some (.d (.int k)), none, none, none, none] S = .ok (.nxt [some (.d (.list (ns.map .int))), some (.d (.int k)), some (.d (.list ((ns.drop k ++ ns.take k).map .int))), none, none, none]) S := by
    have := cells_of ns k
    simp only [begun0, sv_asg, ev_bin, ev_slc, ev_var, varR_0, varR_s, evO_some, evO_none, R.bind_ok, intO_int, opt1_d, slcD_l, opt_some, opt2_d, add_l]
    rw [if_pos (hcut ns), this]
    simp
  have s1 : sv ⟨callF T fuel con n, fuel, con⟩ begun1 [some (.d (.list (ns.map .int))), some (.d (.int k)), some (.d (.list ((ns.drop k ++ ns.take k).map .int))), none, none, none] S = .ok (.nxt [some (.d (.list (ns.map .int))), some (.d (.int k)), some (.d (.list ((ns.drop k ++ ns.take k).map .int))), some (.d (.list (gr.map .int))), none, none]) S := by
    have := hlc [some (.d (.list (ns.map .int))), some (.d (.int k)), some (.d (.list ((ns.drop k ++ ns.take k).map .int))), none, none] rfl
    simp only [begun1, sv_asg, ev_lc, evI_seq, ev_var, varR_0, R.bind_ok, seqI_list, itN_none, wipeG_cons, wipeG_nil]
    show (((lcR (lc1 ⟨callF T fuel con n, fuel, con⟩ _ _ _ ([some (.d (.list (ns.map .int))), some (.d (.int k)), some (.d (.list ((ns.drop k ++ ns.take k).map .int))), none, none] ++ [none])) _ [] S).bind _).bind _) = _
    rw [this]
    rfl
  have s2 : sv ⟨callF T fuel con n, fuel, con⟩ begun2 [some (.d (.list (ns.map .int))), some (.d (.int k)), some (.d (.list ((ns.drop k ++ ns.take k).map .int))), some (.d (.list (gr.map .int))), none, none] S = .ok (.nxt [some (.d (.list (ns.map .int))), some (.d (.int k)), some (.d (.list ((ns.drop k ++ ns.take k).map .int))), some (.d (.list (gr.map .int))), some (.d (.int (53 + 8 * k))), none]) S := by
    simp [begun2, mul_s (i := 8) (by decide) (by decide)]
  have s3 : sv ⟨callF T fuel con n, fuel, con⟩ begun3 [some (.d (.list (ns.map .int))), some (.d (.int k)), some (.d (.list ((ns.drop k ++ ns.take k).map .int))), some (.d (.list (gr.map .int))), some (.d (.int (53 + 8 * k))), none] S = .ok (.nxt [some (.d (.list (ns.map .int))), some (.d (.int k)), some (.d (.list ((ns.drop k ++ ns.take k).map .int))), some (.d (.list (gr.map .int))), some (.d (.int v')), o']) S := by
    simp only [begun3, sv_loop, evI_seq, ev_var, varR_0, varR_s, R.bind_ok, seqI_list]
    exact eL
  have s4 : sv ⟨callF T fuel con n, fuel, con⟩ begun4 [some (.d (.list (ns.map .int))), some (.d (.int k)), some (.d (.list ((ns.drop k ++ ns.take k).map .int))), some (.d (.list (gr.map .int))), some (.d (.int v')), o'] S = .ok (.ret (.c S.length)) (S ++ [.dct (drK l v' (ns.drop k ++ ns.take k ++ [41 * (k : Int) + 13]) 0)]) := by
    simp only [begun4, sv_ret, ev_dct, evD_cons, evD_nil, hl5 _ rfl, R.bind_ok, dat_d, ev_var, varR_0, varR_s, ev_bin, ev_lst, ev_con, mul_s (i := 41) (by decide) (by decide), opt2_d, opt_some, add_i, List.length_cons, List.length_nil, add_l]
    rw [if_pos (by decide)]
    simp only [R.bind_ok, opt2_d, add_l, List.length_map, List.length_cons, List.length_nil]
    rw [if_pos hlen2]
    simp only [opt_some, R.bind_ok, dat_d, dctR, hdk]
    simp [drK]
  simp only [begunF, svs_cons, s0, s1, s2, s3, s4, thenR_nxt, thenR_ret]
  simp [finR, fin, drK]
theorem begun_at {T : List FD} {fuel : Nat} {con : List PyData} {n kb : Nat} {S : Sto} {ns : List Int} {k : Nat} (hn : 0 < n) (hT : T[kb]? = some begunF) (hl : ns.length ≤ 63) (hk : k ≤ 1000) :
    ∃ d, Dr 0 d ∧ callF T fuel con n kb [.d (.list (ns.map .int)), .d (.int k)] S = .ok (.c S.length) (S ++ [d]) := by
  obtain ⟨m, rfl⟩ : ∃ m, n = m + 1 := ⟨n - 1, by omega⟩
  exact begun_ok hT hl hk
end Ht

set_option maxRecDepth 100000
set_option maxHeartbeats 16000000
/-! HtO: values that can be shown, loops. -/
namespace Ht
open PySem L2 PyProof.Rows

structure Neat (d : PyData) (n b : Nat) : Prop where
  sh : d.showable = true
  nd : d.hasDict = false
  dp : d.depth ≤ n
  lv : d.leavesShort 100 = true
  bk : d.bulk ≤ b
  pl : d.plain = true
structure NeatL (ds : List PyData) (n b : Nat) : Prop where
  sh : PyData.showableAll ds = true
  nd : PyData.hasDictAll ds = false
  dp : PyData.depthAll ds ≤ n
  lv : PyData.leavesShortAll 100 ds = true
  bk : PyData.bulkAll ds ≤ b
  pl : PyData.plainAll ds = true
section
variable {d : PyData} {ds : List PyData} {n n' b b' : Nat}
theorem Neat.mono (h : Neat d n b) (h1 : n ≤ n') (h2 : b ≤ b') : Neat d n' b' := ⟨h.sh, h.nd, Nat.le_trans h.dp h1, h.lv, Nat.le_trans h.bk h2, h.pl⟩
theorem NeatL.mono (h : NeatL ds n b) (h1 : n ≤ n') (h2 : b ≤ b') : NeatL ds n' b' := ⟨h.sh, h.nd, Nat.le_trans h.dp h1, h.lv, Nat.le_trans h.bk h2, h.pl⟩
theorem neat_big {i : Int} (h : i.natAbs < 10 ^ 99) : Neat (.int i) n b := by
  refine ⟨?_, rfl, Nat.zero_le _, ?_, Nat.zero_le _, rfl⟩
  · simp only [PyData.showable]
    by_cases z : i.natAbs = 0
    · rw [z]; decide
    · have : i.natAbs.log2 < 400 := (Nat.log2_lt z).mpr (Nat.lt_trans h (by decide))
      exact decide_eq_true (by omega)
  · simp only [PyData.leavesShort]
    have e := int_text_length_le10 (k := 99) (by decide) h
    have e2 : (PyData.shown (.int i)).length ≤ 100 := by
      show (Str.ofString (toString i)).length ≤ 100
      rw [PySem.ofString_length]
      exact e
    exact decide_eq_true e2
theorem neat_int {i : Int} (h1 : -999999999999 ≤ i) (h2 : i ≤ 999999999999) : Neat (.int i) n b :=
  neat_big (Nat.lt_of_lt_of_le (by omega : i.natAbs < 10 ^ 12) (by decide))
theorem neat_bool {k : Bool} : Neat (.bool k) n b := ⟨rfl, rfl, Nat.zero_le _, rfl, Nat.zero_le _, rfl⟩
theorem neat_none : Neat .none n b := ⟨rfl, rfl, Nat.zero_le _, rfl, Nat.zero_le _, rfl⟩
/-- a text that is small -/
def shortS (b : Nat) (x : Str) : Bool := (x.cps.toList.all fun c => decide (c < 16 ^ 8)) && decide (x.cps.size ≤ b)
theorem neat_str {x : Str} (h : shortS b x = true) : Neat (.str x) n b := by
  unfold shortS at h
  rw [Bool.and_eq_true, decide_eq_true_eq] at h
  exact ⟨rfl, rfl, Nat.zero_le _, by simp only [PyData.leavesShort]; exact h.1, h.2, rfl⟩
theorem neatL_nil : NeatL [] n b := ⟨rfl, rfl, Nat.zero_le _, rfl, Nat.zero_le _, rfl⟩
theorem neatL_cons {b1 b2 : Nat} (h1 : Neat d n b1) (h2 : NeatL ds n b2) : NeatL (d :: ds) n (b1 + 1 + b2) := by
  refine ⟨?_, ?_, ?_, ?_, ?_, ?_⟩
  · simp only [PyData.showableAll, h1.sh, h2.sh, Bool.and_self]
  · simp only [PyData.hasDictAll, h1.nd, h2.nd, Bool.or_self]
  · simp only [PyData.depthAll]
    have := h1.dp
    have := h2.dp
    omega
  · simp only [PyData.leavesShortAll, h1.lv, h2.lv, Bool.and_self]
  · simp only [PyData.bulkAll]
    have := h1.bk
    have := h2.bk
    omega
  · simp only [PyData.plainAll, h1.pl, h2.pl, Bool.and_self]
theorem neat_tup (h : NeatL ds n b) : Neat (.tuple ds) (n + 1) b :=
  ⟨by simp only [PyData.showable]; exact h.sh, by simp only [PyData.hasDict]; exact h.nd, by simp only [PyData.depth]; have := h.dp; omega, by simp only [PyData.leavesShort]; exact h.lv, by simp only [PyData.bulk]; exact h.bk, by simp only [PyData.plain]; exact h.pl⟩
theorem neat_lst (h : NeatL ds n b) : Neat (.list ds) (n + 1) b :=
  ⟨by simp only [PyData.showable]; exact h.sh, by simp only [PyData.hasDict]; exact h.nd, by simp only [PyData.depth]; have := h.dp; omega, by simp only [PyData.leavesShort]; exact h.lv, by simp only [PyData.bulk]; exact h.bk, by simp only [PyData.plain]; exact h.pl⟩
theorem neatL_map {α : Type} {f : α → PyData} (hf : α → Nat) : ∀ {l : List α}, (∀ x ∈ l, Neat (f x) n (hf x)) → NeatL (l.map f) n ((l.map fun x => hf x + 1).sum)
  | [], _ => neatL_nil
  | x :: l, h => by
    have := neatL_cons (h x List.mem_cons_self) (neatL_map hf (l := l) fun y hy => h y (List.mem_cons_of_mem _ hy))
    simpa using this
theorem repr_ok (h : Neat d 180 (2 ^ 17)) : bltD .repr [d] = some (.str d.shown) := by
  have h1 := PyData.shown_le_bulk 100 (by decide) d h.lv
  have h2 := h.bk
  have hl : d.shown.length ≤ sizeLine := by
    rw [sizeLine_eq]
    omega
  rw [bltD, if_pos]
  simp [h.sh, h.nd, h.dp, hl]
theorem eq_neat {e : PyData} (h1 : d.plain = true) (h2 : e.plain = true) (h3 : d.depth ≤ 180) : cmpD .Eq d e = some (PyData.eqv d e) := by
  have : eqOk d e = true := by
    unfold eqOk
    simp only [h1, h2, Bool.and_self, Bool.true_and, decide_eq_true_eq]
    omega
  unfold cmpD
  simp [this]
end
theorem lcR_filterS {α : Type} {f : PyData → Sto → R (Option PyData)} {c : α → PyData} {p : α → Bool} {S : Sto} : ∀ (xs : List α) (acc : List PyData), (∀ x ∈ xs, f (c x) S = .ok (if p x then some (c x) else none) S) → acc.length + xs.length ≤ sizeLine → lcR f (xs.map c) acc S = .ok (acc ++ (xs.filter p).map c) S
  | [], acc, _, _ => by simp [lcR]
  | x :: xs, acc, h, hl => by
    simp only [List.length_cons] at hl
    rw [List.map_cons, lcR, h x List.mem_cons_self]
    simp only [R.bind_ok]
    by_cases hp : p x = true
    · simp only [hp, if_true, List.filter_cons_of_pos]
      rw [if_pos (by omega), lcR_filterS xs (acc ++ [c x]) (fun z hz => h z (List.mem_cons_of_mem _ hz)) (by simp; omega)]
      simp
    · have hp' : p x = false := by simpa using hp
      simp only [hp', List.filter_cons]
      exact lcR_filterS xs acc (fun z hz => h z (List.mem_cons_of_mem _ hz)) (by omega)
/-- a for that only leaves its name -/
theorem forR_pass {w : Option Nat} {all : List PyData} {f : PyData → Gm → Sto → R Flow} {Γ : Option E → Gm} {S : Sto} (hs : Its.still w all S) : ∀ (xs : List PyData) (o : Option E), (∀ x ∈ xs, ∀ o, f x (Γ o) S = .ok (.nxt (Γ (some (.d x)))) S) →
    ∃ o', forR w all f xs (Γ o) S = .ok (.nxt (Γ o')) S
  | [], o, _ => ⟨o, by rw [forR]⟩
  | x :: xs, o, h => by
    obtain ⟨o', e⟩ := forR_pass hs xs (some (.d x)) fun y hy => h y (List.mem_cons_of_mem _ hy)
    refine ⟨o', ?_⟩
    rw [forR, h x List.mem_cons_self]
    simp only [R.bind_ok]
    rw [if_pos hs]
    exact e
theorem forR_cons {w : Option Nat} {all : List PyData} {f : PyData → Gm → Sto → R Flow} {x : PyData} {xs : List PyData} {Γ Γ1 : Gm} {S S1 : Sto} (h : f x Γ S = .ok (.nxt Γ1) S1) (hs : Its.still w all S1) : forR w all f (x :: xs) Γ S = forR w all f xs Γ1 S1 := by
  rw [forR, h]
  simp only [R.bind_ok]
  rw [if_pos hs]
theorem forR_nil {w : Option Nat} {all : List PyData} {f : PyData → Gm → Sto → R Flow} {Γ : Gm} {S : Sto} : forR w all f [] Γ S = .ok (.nxt Γ) S := by rw [forR]
theorem set_app {S : Sto} {z z' : Cell} : (S ++ [z]).set S.length z' = S ++ [z'] := by simp
theorem get_app {S : Sto} {z : Cell} : (S ++ [z])[S.length]? = some z := by simp
theorem seqI_c {S : Sto} {c : Nat} {xs : List PyData} (h : S[c]? = some (.lst xs)) : seqI (.c c) S = .ok ⟨xs, some c⟩ S := by simp [seqI, h]
theorem blt_c {S : Sto} {c : Nat} {xs : List PyData} {b : Blt} (h : S[c]? = some (.lst xs)) : bltR b [.c c] S = opt (bltD b [.list xs]) S := by simp [bltR, peeks, peek, h]
theorem idx_c {S : Sto} {c : Nat} {xs : List PyData} {i : Int} (h : S[c]? = some (.lst xs)) : idxE (.c c) (.d (.int i)) S = atI xs i := by simp [idxE, peek, h, idxD]
theorem atI_last {α : Type} {xs : List α} (h : xs ≠ []) : atI xs (-1) = some (xs.getLast h) := by
  have hl : 0 < xs.length := List.length_pos_iff.mpr h
  have : ixN xs.length (-1) = some (xs.length - 1) := by
    unfold ixN
    rw [if_neg (by omega), if_pos (by omega)]
    congr 1
    omega
  simp only [atI, this, Option.bind_some]
  rw [List.getLast_eq_getElem, List.getElem?_eq_getElem]
theorem ixN_last {n : Nat} (h : 0 < n) : ixN n (-1) = some (n - 1) := by
  unfold ixN
  rw [if_neg (by omega), if_pos (by omega)]
  congr 1
  omega
end Ht

set_option maxRecDepth 100000
set_option maxHeartbeats 16000000
/-! HtQ: Euclid, fractions in lowest terms. -/
namespace Ht
open PySem L2 PyProof.Rows

def eucT : CE := .cmp .Gt (.var 3) (.con (.int 0))
def eucB : CSs := .cons (.par 2 3 (.var 3) (.bin .Mod (.var 2) (.var 3))) .nil
def eucB' : CSs := .cons (.par 2 3 (.var 3) (.bin .Mod (.blt .int (.cons (.var 2) .nil)) (.var 3))) .nil
theorem fmod_nat (m n : Nat) : (m : Int).fmod (n : Int) = ((m % n : Nat) : Int) := by
  rw [Int.fmod_eq_emod_of_nonneg _ (Int.natCast_nonneg n)]
  exact (Int.natCast_emod m n).symm
theorem half_mod {y r : Nat} (h0 : 0 < r) (h : r < y) : 2 * (y % r) < y := by
  have h1 := Nat.mod_lt y h0
  have h2 := Nat.div_add_mod y r
  have h3 : 1 ≤ y / r := (Nat.one_le_div_iff h0).mpr (Nat.le_of_lt h)
  have h4 : r * 1 ≤ r * (y / r) := Nat.mul_le_mul_left r h3
  omega
section
variable {P : Ph} {a0 a1 : Option E} {S : Sto} {body : CSs}
theorem euc_step (hb : body = eucB ∨ body = eucB') {x y : Nat} (hy : y ≠ 0) : svs P body [a0, a1, some (.d (.int x)), some (.d (.int y))] S = .ok (.nxt [a0, a1, some (.d (.int y)), some (.d (.int ((x % y : Nat) : Int)))]) S := by
  have hy' : (y : Int) ≠ 0 := by omega
  have := mod_i (i := (x : Int)) hy'
  rw [fmod_nat] at this
  rcases hb with rfl | rfl <;> simp [eucB, eucB', this]
theorem euc_test {x y : Nat} : evT P eucT [a0, a1, some (.d (.int x)), some (.d (.int y))] S = .ok (decide (0 < y)) S := by
  simp [eucT]
theorem euclid (hb : body = eucB ∨ body = eucB') : ∀ (k x y fuel : Nat), y < 2 ^ k → 2 * k + 1 ≤ fuel →
    whlR (fun Γ S => evT P eucT Γ S) (fun Γ S => svs P body Γ S) fuel [a0, a1, some (.d (.int x)), some (.d (.int y))] S = .ok (.nxt [a0, a1, some (.d (.int (Nat.gcd x y : Nat))), some (.d (.int ((0 : Nat) : Int)))]) S := by
  have stop : ∀ (x fuel : Nat), 1 ≤ fuel → whlR (fun Γ S => evT P eucT Γ S) (fun Γ S => svs P body Γ S) fuel [a0, a1, some (.d (.int x)), some (.d (.int ((0 : Nat) : Int)))] S = .ok (.nxt [a0, a1, some (.d (.int (x : Nat))), some (.d (.int ((0 : Nat) : Int)))]) S := by
    intro x fuel h
    obtain ⟨f, rfl⟩ : ∃ f, fuel = f + 1 := ⟨fuel - 1, by omega⟩
    rw [whlR]
    simp only [euc_test]
    simp
  have step : ∀ (x y fuel : Nat), y ≠ 0 → 1 ≤ fuel → whlR (fun Γ S => evT P eucT Γ S) (fun Γ S => svs P body Γ S) fuel [a0, a1, some (.d (.int x)), some (.d (.int y))] S = whlR (fun Γ S => evT P eucT Γ S) (fun Γ S => svs P body Γ S) (fuel - 1) [a0, a1, some (.d (.int y)), some (.d (.int ((x % y : Nat) : Int)))] S := by
    intro x y fuel hy h
    obtain ⟨f, rfl⟩ : ∃ f, fuel = f + 1 := ⟨fuel - 1, by omega⟩
    rw [whlR]
    have hp : 0 < y := by omega
    simp only [euc_test, euc_step hb hy, R.bind_ok, decide_eq_true hp, if_true]
    rfl
  intro k
  induction k with
  | zero =>
    intro x y fuel h hf
    have : y = 0 := by omega
    subst this
    rw [stop x fuel (by omega), Nat.gcd_zero_right]
  | succ k ih =>
    intro x y fuel h hf
    by_cases hy : y = 0
    · subst hy
      rw [stop x fuel (by omega), Nat.gcd_zero_right]
    · rw [step x y fuel hy (by omega)]
      have e1 : Nat.gcd x y = Nat.gcd y (x % y) := by
        rw [Nat.gcd_comm x y, Nat.gcd_rec y x, Nat.gcd_comm]
      by_cases hr : x % y = 0
      · rw [hr, stop y (fuel - 1) (by omega), e1, hr, Nat.gcd_zero_right]
      · rw [step y (x % y) (fuel - 1) hr (by omega)]
        have hlt : x % y < y := Nat.mod_lt _ (by omega)
        have hh := half_mod (by omega : 0 < x % y) hlt
        have e2 : Nat.gcd y (x % y) = Nat.gcd (x % y) (y % (x % y)) := by
          rw [Nat.gcd_comm y (x % y), Nat.gcd_rec (x % y) y, Nat.gcd_comm]
        rw [ih (x % y) (y % (x % y)) (fuel - 1 - 1) (by rw [Nat.pow_succ] at h; omega) (by omega), e1, e2]
end
def absI (i : Int) : Int := if i < 0 then -i else i
theorem abs_nat (i : Int) : (if i < 0 then -i else i) = (i.natAbs : Int) := by
  split <;> omega
@[simp] theorem blt_abs {i : Int} : bltD .abs [.int i] = some (.int (i.natAbs : Int)) := by
  rw [bltD, abs_nat]
/-- common(first, second) -/
def comF : FD := ⟨2, 4, .cons (.par 2 3 (.blt .abs (.cons (.var 0) .nil)) (.blt .abs (.cons (.var 1) .nil))) (.cons (.whl eucT eucB) (.cons (.ret (.var 2)) .nil))⟩
theorem com_ok {T : List FD} {con : List PyData} {k n : Nat} {a b : Int} {S : Sto} (hn : 0 < n) (hT : T[k]? = some comF) (hb : b.natAbs < 2 ^ 499) : callF T 1000 con n k [.d (.int a), .d (.int b)] S = .ok (.d (.int (Int.gcd a b : Nat))) S := by
  obtain ⟨m, rfl⟩ : ∃ m, n = m + 1 := ⟨n - 1, by omega⟩
  rw [call_eq hT rfl]
  show finR S.length (svs _ comF.body [some (.d (.int a)), some (.d (.int b)), none, none] S) = _
  have e := euclid (P := ⟨callF T 1000 con m, 1000, con⟩) (a0 := some (.d (.int a))) (a1 := some (.d (.int b))) (S := S) (.inl rfl) 499 a.natAbs b.natAbs 1000 hb (by decide)
  simp [comF, e, Int.gcd]
/-- _law_lowest(above, below), below positive -/
def lowF : FD := ⟨2, 4, .cons (.par 2 3 (.blt .abs (.cons (.var 0) .nil)) (.var 1)) (.cons (.whl eucT eucB') (.cons (.ret (.tup (.cons (.bin .FloorDiv (.var 0) (.var 2)) (.cons (.bin .FloorDiv (.var 1) (.var 2)) .nil)))) .nil))⟩
/-- a fraction in lowest terms -/
def lowI (a b : Int) : PyData := .tuple [.int (a.fdiv (Int.gcd a b : Nat)), .int (b.fdiv (Int.gcd a b : Nat))]
theorem gcd_small {a b : Int} (h0 : 0 < b) (h : b < 2 ^ 499) : ((Int.gcd a b : Nat) : Int) ≠ 0 ∧ ((Int.gcd a b : Nat) : Int).natAbs.log2 < 9000 := by
  have h1 : 0 < Int.gcd a b := Int.gcd_pos_of_ne_zero_right _ (by omega)
  have h2 : Int.gcd a b ≤ b.natAbs := Nat.le_of_dvd (by omega) (Nat.gcd_dvd_right _ _)
  refine ⟨by omega, ?_⟩
  have h3 : Int.gcd a b < 2 ^ 499 := by omega
  have : (Int.gcd a b).log2 < 499 := (Nat.log2_lt (by omega)).mpr h3
  simp only [Int.natAbs_natCast]
  omega
theorem low_ok {T : List FD} {con : List PyData} {k n : Nat} {a b : Int} {S : Sto} (hn : 0 < n) (hT : T[k]? = some lowF) (h0 : 0 < b) (hb : b < 2 ^ 499) : callF T 1000 con n k [.d (.int a), .d (.int b)] S = .ok (.d (lowI a b)) S := by
  obtain ⟨m, rfl⟩ : ∃ m, n = m + 1 := ⟨n - 1, by omega⟩
  rw [call_eq hT rfl]
  show finR S.length (svs _ lowF.body [some (.d (.int a)), some (.d (.int b)), none, none] S) = _
  obtain ⟨c, rfl⟩ := Int.eq_ofNat_of_zero_le (Int.le_of_lt h0)
  have e := euclid (P := ⟨callF T 1000 con m, 1000, con⟩) (a0 := some (.d (.int a))) (a1 := some (.d (.int c))) (S := S) (.inr rfl) 499 a.natAbs c 1000 (by omega) (by decide)
  have hg := gcd_small (a := a) h0 hb
  have eg : a.natAbs.gcd c = Int.gcd a c := by simp [Int.gcd]
  rw [eg] at e
  simp [lowF, e, div_i hg, lowI, sizeLine_eq]
/-- lowest(above, below), which calls common -/
def lowestF (k : Nat) : FD := ⟨2, 3, .cons (.asg (.nam 2) (.call k (.cons (.var 0) (.cons (.var 1) .nil)))) (.cons (.ite (.cmp .Lt (.var 1) (.con (.int 0))) (.cons (.asg (.nam 2) (.neg (.var 2))) .nil) .nil) (.cons (.ret (.tup (.cons (.bin .FloorDiv (.var 0) (.var 2)) (.cons (.bin .FloorDiv (.var 1) (.var 2)) .nil)))) .nil))⟩
theorem lowest_ok {T : List FD} {con : List PyData} {k kc n : Nat} {a b : Int} {S : Sto} (hn : 1 < n) (hC : T[kc]? = some comF) (hT : T[k]? = some (lowestF kc)) (h0 : 0 < b) (hb : b < 2 ^ 499) : callF T 1000 con n k [.d (.int a), .d (.int b)] S = .ok (.d (lowI a b)) S := by
  obtain ⟨m, rfl⟩ : ∃ m, n = m + 1 := ⟨n - 1, by omega⟩
  rw [call_eq hT rfl]
  show finR S.length (svs _ (lowestF kc).body [some (.d (.int a)), some (.d (.int b)), none] S) = _
  have e := com_ok (con := con) (n := m) (a := a) (b := b) (S := S) (by omega) hC (by omega)
  have hg := gcd_small (a := a) h0 hb
  have hn : ¬ b < 0 := by omega
  simp [lowestF, e, div_i hg, lowI, sizeLine_eq, hn]
/-- a comprehension that draws -/
theorem lcR_draw {f : PyData → Sto → R (Option PyData)} {Gd : PyData → Prop} {c k B : Nat} : ∀ (xs acc : List PyData) (S : Sto) (d : Cell) (p : Nat), (∀ x ∈ xs, ∀ S d p, S[c]? = some d → Dr p d → p + k ≤ B → ∃ y d', Gd y ∧ Dr (p + k) d' ∧ f x S = .ok (some y) (S.set c d')) →
    S[c]? = some d → Dr p d → p + k * xs.length ≤ B → acc.length + xs.length ≤ sizeLine →
    ∃ ys d', (∀ y ∈ ys, Gd y) ∧ ys.length = xs.length ∧ Dr (p + k * xs.length) d' ∧ lcR f xs acc S = .ok (acc ++ ys) (S.set c d')
  | [], acc, S, d, p, hf, hS, hd, hp, hl => by
    refine ⟨[], d, by simp, rfl, hd, ?_⟩
    rw [lcR]
    have : S.set c d = S := by
      apply List.ext_getElem?
      intro i
      rw [List.getElem?_set]
      split
      · rename_i e
        subst e
        rw [hS]
        have := (List.getElem?_eq_some_iff.mp hS).1
        simp [this]
      · rfl
    rw [this]
    simp
  | x :: xs, acc, S, d, p, hf, hS, hd, hp, hl => by
    simp only [List.length_cons, Nat.mul_add, Nat.mul_one] at hp hl
    obtain ⟨y, d1, g1, g2, e1⟩ := hf x List.mem_cons_self S d p hS hd (by omega)
    have hS1 : (S.set c d1)[c]? = some d1 := List.getElem?_set_self (List.getElem?_eq_some_iff.mp hS).1
    obtain ⟨ys, d2, h1, h2, h3, h4⟩ := lcR_draw (f := f) (Gd := Gd) (c := c) (k := k) (B := B) xs (acc ++ [y]) (S.set c d1) d1 (p + k) (fun z hz => hf z (List.mem_cons_of_mem _ hz)) hS1 g2 (by omega) (by simp; omega)
    refine ⟨y :: ys, d2, ?_, by simp [h2], h3.mono (by rw [List.length_cons, Nat.mul_add]; omega), ?_⟩
    · intro z hz
      rcases List.mem_cons.mp hz with q | q
      · rw [q]; exact g1
      · exact h1 z q
    · rw [lcR, e1]
      simp only [R.bind_ok]
      rw [if_pos (by omega), h4]
      simp
/-- a comprehension, a range: with these the kernel does not open rngR's test -/
theorem lc_ev {P : Ph} {a : CE} {tg : CT} {it : CI} {ts : CO} {own : List Nat} {Γ : Gm} {S S1 S2 : Sto} {xs ys : List PyData} (h1 : evI P it Γ S = .ok ⟨xs, none⟩ S1) (h2 : lcR (lc1 P a tg ts (wipeG Γ own)) xs [] S1 = .ok ys S2) : ev P (.lc a tg it ts own) Γ S = .ok (.d (.list ys)) S2 := by
  rw [ev_lc, h1, R.bind_ok, itN_none, h2]
  rfl
theorem lc2_ev {P : Ph} {a : CE} {tg : CT} {it : CI} {ts : CO} {own : List Nat} {tg1 : CT} {it1 : CI} {ts1 : CO} {own1 : List Nat} {Γ : Gm} {S S1 S2 : Sto} {xs ys : List PyData} (h1 : evI P it Γ S = .ok ⟨xs, none⟩ S1) (h2 : lcO (lc1o P a tg ts tg1 it1 ts1 own1 (wipeG Γ own)) xs [] S1 = .ok ys S2) : ev P (.lc2 a tg it ts own tg1 it1 ts1 own1) Γ S = .ok (.d (.list ys)) S2 := by
  rw [ev_lc2, h1, R.bind_ok, itN_none, h2]
  rfl
theorem rng_ev {P : Ph} {a : CE} {Γ : Gm} {S S1 : Sto} {k : Nat} (h : ev P a Γ S = .ok (.d (.int k)) S1) (hk : k ≤ 1000000) : evI P (.rng1 a) Γ S = .ok ⟨rangeD 0 k, none⟩ S1 := by
  rw [evI_rng1, h, R.bind_ok, rngR_int ⟨by omega, by omega⟩, Int.toNat_natCast]
end Ht

set_option maxRecDepth 100000
set_option maxHeartbeats 16000000
/-! HtW: forward through a body: what is wanted behind. -/
namespace Ht
open PySem L2 PyProof.Rows

abbrev Xq := Exn → Gm → Sto → Prop
def Wp {α : Type} (r : R α) (Q : α → Sto → Prop) (X : Xq) : Prop := match r with
  | .ok a S => Q a S
  | .err x Γ S => X x Γ S
  | .no => False
def xNo : Xq := fun _ _ _ => False
section
variable {α β : Type} {P : Ph} {Q : α → Sto → Prop} {QF : Flow → Sto → Prop} {QE : E → Sto → Prop} {X X' : Xq} {a : α} {S : Sto} {Γ : Gm} {s : CS} {ss : CSs} {r : R α} {rb : R β} {f : β → Sto → R α}
@[simp] theorem wp_ok : Wp (.ok a S) Q X = Q a S := rfl
theorem wp_bind (h : Wp rb (fun b S => Wp (f b S) Q X) X) : Wp (rb.bind f) Q X := by
  cases rb <;> exact h
theorem wp_eq {b : β} {S' : Sto} (e : rb = .ok b S') (h : Wp (f b S') Q X) : Wp (rb.bind f) Q X := by
  rw [e]; exact h
theorem wp_imp {Q' : α → Sto → Prop} (h : Wp r Q' X) (i : ∀ a S, Q' a S → Q a S) : Wp r Q X := by
  cases r with
  | ok a S => exact i _ _ h
  | err x Γ S => exact h
  | no => exact h
theorem wp_get (h : Wp r Q xNo) : ∃ a S, r = .ok a S ∧ Q a S := by
  cases r with
  | ok a S => exact ⟨a, S, rfl, h⟩
  | err x Γ S => exact h.elim
  | no => exact h.elim
theorem wp_of {S' : Sto} (e : r = .ok a S') (h : Q a S') : Wp r Q X := by
  rw [e]; exact h
/-- what comes behind a statement -/
def Kc (P : Ph) (ss : CSs) (Q : Flow → Sto → Prop) (X : Xq) : Flow → Sto → Prop := fun fl S => match fl with
  | .nxt Γ => Wp (svs P ss Γ S) Q X
  | fl => Q fl S
theorem wp_cons (h : Wp (sv P s Γ S) (Kc P ss QF X) X) : Wp (svs P (.cons s ss) Γ S) QF X := by
  rw [svs_cons]
  unfold thenR
  refine wp_bind ?_
  revert h
  cases sv P s Γ S with
  | ok fl S1 => cases fl <;> exact fun h => h
  | err x Γ S => exact fun h => h
  | no => exact fun h => h
@[simp] theorem kc_nxt : Kc P ss QF X (.nxt Γ) S = Wp (svs P ss Γ S) QF X := rfl
@[simp] theorem kc_ret {e : E} : Kc P ss QF X (.ret e) S = QF (.ret e) S := rfl
@[simp] theorem kc_brk : Kc P ss QF X (.brk Γ) S = QF (.brk Γ) S := rfl
@[simp] theorem kc_cnt : Kc P ss QF X (.cnt Γ) S = QF (.cnt Γ) S := rfl
@[simp] theorem wp_nil : Wp (svs P .nil Γ S) QF X = QF (.nxt Γ) S := rfl
/-- behind a def -/
def Kf (L : Nat) (Q : E → Sto → Prop) : Flow → Sto → Prop := fun fl S => Wp (finR L (.ok fl S)) Q xNo
@[simp] theorem kf_d {x : PyData} {L : Nat} : Kf L QE (.ret (.d x)) S = QE (.d x) (S.take L) := by
  simp [Kf, finR, fin]
@[simp] theorem kf_nxt {L : Nat} : Kf L QE (.nxt Γ) S = QE (.d .none) (S.take L) := by
  simp [Kf, finR, fin]
theorem wp_call {T : List FD} {fuel : Nat} {con : List PyData} {n k : Nat} {es : List E} {F : FD} (hn : 0 < n) (h : T[k]? = some F) (hl : es.length = F.np) (w : Wp (svs ⟨callF T fuel con (n - 1), fuel, con⟩ F.body (begin_ F es) S) (Kf S.length QE) xNo) : Wp (callF T fuel con n k es S) QE X := by
  obtain ⟨m, rfl⟩ : ∃ m, n = m + 1 := ⟨n - 1, by omega⟩
  rw [call_eq h hl]
  revert w
  rw [Nat.add_sub_cancel]
  cases svs ⟨callF T fuel con m, fuel, con⟩ F.body (begin_ F es) S with
  | ok fl S1 =>
    intro w
    have w : Wp (finR S.length (.ok fl S1)) QE xNo := w
    revert w
    cases finR S.length (.ok fl S1) with
    | ok a S => exact fun w => w
    | err x Γ S => exact fun w => w.elim
    | no => exact fun w => w.elim
  | err x Γ S => exact fun w => w.elim
  | no => exact fun w => w.elim
/-- draws -/
theorem wp_draw {T : List FD} {fuel : Nat} {con : List PyData} {k : Nat} {b : Int} {p c n : Nat} {d : Cell} {f : E → Sto → R α} (hn : 0 < n) (hT : T[k]? = some drawF) (hS : S[c]? = some d) (hd : Dr p d) (hp : p ≤ 2 ^ 40) (hb : 0 < b) (hb2 : b < 2 ^ 60)
    (h : ∀ r d', 0 ≤ r → r < b → Dr (p + 1) d' → (S.set c d')[c]? = some d' → Wp (f (.d (.int r)) (S.set c d')) Q X) : Wp ((callF T fuel con n k [.c c, .d (.int b)] S).bind f) Q X := by
  obtain ⟨r, d', h1, h2, h3, h4, e⟩ := draw_at (fuel := fuel) (con := con) hn hT hS hd hp hb hb2
  exact wp_eq e (h r d' h1 h2 h3 h4)
theorem wp_of_ {T : List FD} {fuel : Nat} {con : List PyData} {k ko p c n : Nat} {d : Cell} {xs : List PyData} {mk : List PyData → PyData} {f : E → Sto → R α} (hmk : mk = .list ∨ mk = .tuple) (hn : 1 < n) (hT : T[k]? = some drawF) (hO : T[ko]? = some (ofF k)) (hS : S[c]? = some d) (hd : Dr p d) (hp : p ≤ 2 ^ 40) (hx : xs ≠ []) (hx2 : xs.length < 2 ^ 60)
    (h : ∀ x d', x ∈ xs → Dr (p + 1) d' → (S.set c d')[c]? = some d' → Wp (f (.d x) (S.set c d')) Q X) : Wp ((callF T fuel con n ko [.c c, .d (mk xs)] S).bind f) Q X := by
  obtain ⟨x, hx, d', h1, h2, e⟩ := of_at (fuel := fuel) (con := con) hmk hn hT hO hS hd hp hx hx2
  exact wp_eq e (h x d' hx h1 h2)
theorem bind_assoc {γ : Type} {r : R α} {f : α → Sto → R β} {g : β → Sto → R γ} : (r.bind f).bind g = r.bind fun a S => (f a S).bind g := by cases r <;> rfl
theorem wp_fn {r : R E} {f : E → Sto → R α} {b : E} {S' : Sto} (e : r = .ok b S') (h : Wp (f b S') Q X) : Wp ((callR r Γ).bind f) Q X := by
  rw [e]; exact h
theorem wp_drawC {T : List FD} {fuel : Nat} {con : List PyData} {k : Nat} {b : Int} {p c n : Nat} {d : Cell} {f : E → Sto → R α} (hT : T[k]? = some drawF) (hS : S[c]? = some d) (hd : Dr p d) (hn : 0 < n) (hp : p ≤ 2 ^ 40) (hb : 0 < b) (hb2 : b < 2 ^ 60)
    (h : ∀ r d', 0 ≤ r → r < b → Dr (p + 1) d' → (S.set c d')[c]? = some d' → Wp (f (.d (.int r)) (S.set c d')) Q X) : Wp ((callR (callF T fuel con n k [.c c, .d (.int b)] S) Γ).bind f) Q X := by
  obtain ⟨r, d', h1, h2, h3, h4, e⟩ := draw_at (fuel := fuel) (con := con) hn hT hS hd hp hb hb2
  exact wp_fn e (h r d' h1 h2 h3 h4)
theorem wp_ofC {T : List FD} {fuel : Nat} {con : List PyData} {k ko p c n : Nat} {d : Cell} {xs : List PyData} {mk : List PyData → PyData} {f : E → Sto → R α} (hmk : mk = .list ∨ mk = .tuple) (hT : T[k]? = some drawF) (hO : T[ko]? = some (ofF k)) (hS : S[c]? = some d) (hd : Dr p d) (hn : 1 < n) (hp : p ≤ 2 ^ 40) (hx : xs ≠ []) (hx2 : xs.length < 2 ^ 60)
    (h : ∀ x d', x ∈ xs → Dr (p + 1) d' → (S.set c d')[c]? = some d' → Wp (f (.d x) (S.set c d')) Q X) : Wp ((callR (callF T fuel con n ko [.c c, .d (mk xs)] S) Γ).bind f) Q X := by
  obtain ⟨x, hx, d', h1, h2, e⟩ := of_at (fuel := fuel) (con := con) hmk hn hT hO hS hd hp hx hx2
  exact wp_fn e (h x d' hx h1 h2)
theorem ex_of {r : R E} {c q : Nat} {e0 : E} (h : Wp r (fun e S' => ∃ d', Dr q d' ∧ e = e0 ∧ S' = S.set c d') xNo) : ∃ d', Dr q d' ∧ r = .ok e0 (S.set c d') := by
  obtain ⟨a, S', e, d', h1, rfl, rfl⟩ := wp_get h
  exact ⟨d', h1, e⟩
/-- a for by an invariant -/
theorem wp_for {w : Option Nat} {all : List PyData} {f : PyData → Gm → Sto → R Flow} (I : Nat → Gm → Sto → Prop) : ∀ (xs : List PyData) (i : Nat) {Γ : Gm} {S : Sto}, I i Γ S →
    (∀ (k : Nat) (x : PyData) Γ S, xs[k]? = some x → I (i + k) Γ S → Wp (f x Γ S) (fun fl S' => match fl with
      | .nxt Γ' => Its.still w all S' ∧ I (i + k + 1) Γ' S'
      | .cnt Γ' => Its.still w all S' ∧ I (i + k + 1) Γ' S'
      | .brk Γ' => QF (.nxt Γ') S'
      | .ret e => QF (.ret e) S') X) → (∀ Γ S, I (i + xs.length) Γ S → QF (.nxt Γ) S) → Wp (forR w all f xs Γ S) QF X
  | [], i, Γ, S, h, _, hq => by rw [forR_nil]; exact hq Γ S h
  | x :: xs, i, Γ, S, h, hf, hq => by
    rw [forR]
    have h1 := hf 0 x Γ S rfl h
    refine wp_bind (wp_imp h1 fun fl S' h2 => ?_)
    have rest : ∀ Γ' S', Its.still w all S' → I (i + 0 + 1) Γ' S' → Wp (forR w all f xs Γ' S') QF X := fun Γ' S' hs hI => wp_for I xs (i + 1) hI (fun k z Γ S hz hI => by
        have := hf (k + 1) z Γ S (by simpa using hz) (by rw [show i + (k + 1) = i + 1 + k by omega]; exact hI)
        rw [show i + (k + 1) + 1 = i + 1 + k + 1 by omega] at this
        exact this) fun Γ S hI => hq Γ S (by rw [List.length_cons, show i + (xs.length + 1) = i + 1 + xs.length by omega]; exact hI)
    cases fl with
    | nxt Γ' =>
      simp only [h2.1, if_true]
      exact rest Γ' S' h2.1 h2.2
    | cnt Γ' =>
      simp only [h2.1, if_true]
      exact rest Γ' S' h2.1 h2.2
    | brk Γ' => exact h2
    | ret e => exact h2
/-- a comprehension by an invariant -/
theorem wp_lc {f : PyData → Sto → R (Option PyData)} {Q : List PyData → Sto → Prop} (I : Nat → List PyData → Sto → Prop) : ∀ (xs : List PyData) (i : Nat) {acc : List PyData} {S : Sto}, I i acc S →
    (∀ (k : Nat) (x : PyData) acc S, xs[k]? = some x → I (i + k) acc S → Wp (f x S) (fun y S' => match y with
      | some y => acc.length < sizeLine ∧ I (i + k + 1) (acc ++ [y]) S'
      | none => I (i + k + 1) acc S') X) → (∀ acc S, I (i + xs.length) acc S → Q acc S) → Wp (lcR f xs acc S) Q X
  | [], i, acc, S, h, _, hq => by rw [lcR]; exact hq acc S h
  | x :: xs, i, acc, S, h, hf, hq => by
    rw [lcR]
    have h1 := hf 0 x acc S rfl h
    refine wp_bind (wp_imp h1 fun y S' h2 => ?_)
    have rest : ∀ acc' S', I (i + 0 + 1) acc' S' → Wp (lcR f xs acc' S') Q X := fun acc' S' hI => wp_lc I xs (i + 1) hI (fun k z acc S hz hI => by
        have := hf (k + 1) z acc S (by simpa using hz) (by rw [show i + (k + 1) = i + 1 + k by omega]; exact hI)
        rw [show i + (k + 1) + 1 = i + 1 + k + 1 by omega] at this
        exact this) fun acc S hI => hq acc S (by rw [List.length_cons, show i + (xs.length + 1) = i + 1 + xs.length by omega]; exact hI)
    cases y with
    | some y =>
      simp only [h2.1, if_true]
      exact rest _ S' h2.2
    | none => exact rest _ S' h2
end
@[simp] theorem still_none (xs : List PyData) (S : Sto) : Its.still none xs S = True := rfl
theorem lcR_mapS {α : Type} {f : PyData → Sto → R (Option PyData)} {c g : α → PyData} {S : Sto} : ∀ (xs : List α) (acc : List PyData), (∀ x ∈ xs, f (c x) S = .ok (some (g x)) S) → acc.length + xs.length ≤ sizeLine → lcR f (xs.map c) acc S = .ok (acc ++ xs.map g) S
  | [], acc, _, _ => by simp [lcR]
  | x :: xs, acc, h, hl => by
    simp only [List.length_cons] at hl
    rw [List.map_cons, lcR, h x List.mem_cons_self]
    simp only [R.bind_ok]
    rw [if_pos (by omega), lcR_mapS xs (acc ++ [g x]) (fun z hz => h z (List.mem_cons_of_mem _ hz)) (by simp; omega)]
    simp
/-! ### the store's end -/
section
variable {A S : Sto} {n c l : Nat} {z z' : Cell} {xs : List PyData} {x y : PyData} {i : Int} {b : Blt}
theorem get_last (h : n = A.length) : (A ++ [z])[n]? = some z := by subst h; simp
theorem set_last (h : n = A.length) : (A ++ [z]).set n z' = A ++ [z'] := by subst h; simp
theorem isLst_at (h : S[c]? = some (.lst xs)) : isLst (.c c) S = true := by simp [isLst, h]
theorem app_at (h : S[c]? = some (.lst xs)) (hl : xs.length < sizeLine) : appE (.c c) (.d y) S = .ok (.d .none) (S.set c (.lst (xs ++ [y]))) := by
  simp only [appE, h]
  exact if_pos hl
theorem sub_at {m : Nat} (h : S[c]? = some (.lst xs)) (hm : m < xs.length) : subE (.c c) (.d (.int m)) (.d x) S = some (S.set c (.lst (xs.set m x))) := by
  have : ixN xs.length (m : Int) = some m := by
    unfold ixN
    rw [if_pos (by omega), if_pos (by omega), Int.toNat_natCast]
  simp only [subE, h, this, Option.map_some]
end
end Ht

set_option maxRecDepth 100000
set_option maxHeartbeats 16000000
/-! HtS: sayings, and the defs that walk them (the same text in many laws). -/
namespace Ht
open PySem L2 PyProof.Rows

inductive Say where
  | yes | no
  | unk (x : Str)
  | not (a : Say)
  | two (m : Str) (a b : Say)
def marks : List Str := ["plus", "times", "leads", "and", "or", "same"]
namespace Say
def parts : Say → List Say
  | .not a => [a]
  | .two _ a b => [a, b]
  | _ => []
def d : Say → PyData
  | .yes => .tuple [.str "yes"]
  | .no => .tuple [.str "no"]
  | .unk x => .tuple [.str "unknown", .str x]
  | .not a => .tuple [.str "not", a.d]
  | .two m a b => .tuple [.str m, a.d, b.d]
/-- its marks are marks -/
def ok : Say → Prop
  | .not a => a.ok
  | .two m a b => m ∈ marks ∧ a.ok ∧ b.ok
  | _ => True
/-- its unknowns are among these -/
def over (l : List Str) : Say → Prop
  | .unk x => x ∈ l
  | .not a => a.over l
  | .two _ a b => a.over l ∧ b.over l
  | _ => True
def heads : Say → List Str
  | .yes => ["yes"]
  | .no => ["no"]
  | .unk _ => ["unknown"]
  | .not a => "not" :: a.heads
  | .two m a b => m :: (a.heads ++ b.heads)
def words : Say → Nat
  | .not a => a.words + 1
  | .two _ a b => a.words + b.words + 1
  | _ => 1
def deep : Say → Nat
  | .not a => a.deep + 1
  | .two _ a b => max a.deep b.deep + 1
  | _ => 0
def cnt : Say → Nat
  | .not a => a.cnt
  | .two _ a b => a.cnt + b.cnt + 1
  | _ => 0
def leaves : Say → List Str
  | .unk x => [x]
  | .not a => a.leaves
  | .two _ a b => a.leaves ++ b.leaves
  | _ => []
end Say
theorem ok_marks {x : Str} (h : x ∈ marks) : (x == Str.ofString "unknown") = false ∧ x ∉ ([Str.ofString "unknown", Str.ofString "yes", Str.ofString "no"] : List Str) :=
  (by decide +kernel : ∀ x ∈ marks, (x == Str.ofString "unknown") = false ∧ x ∉ ([Str.ofString "unknown", Str.ofString "yes", Str.ofString "no"] : List Str)) x h
theorem mark_ne {x : Str} (h : x ∈ marks) : x ≠ Str.ofString "unknown" ∧ x ≠ Str.ofString "yes" ∧ x ≠ Str.ofString "no" ∧ x ≠ Str.ofString "not" :=
  (by decide +kernel : ∀ x ∈ marks, x ≠ Str.ofString "unknown" ∧ x ≠ Str.ofString "yes" ∧ x ≠ Str.ofString "no" ∧ x ≠ Str.ofString "not") x h
theorem eq_mark {m : Str} (h : m ∈ marks) : cmpD .Eq (.str m) (.str (Str.ofString "unknown")) = some false := by
  rw [eq_s, (ok_marks h).1]
theorem in_marks (u : Str) : cmpD .In (.str u) (.tuple [.str "plus", .str "times", .str "leads", .str "and", .str "or", .str "same"]) = some (decide (u ∈ marks)) := in_s (us := marks) (.inr rfl)
theorem nin_marks (u : Str) : cmpD .NotIn (.str u) (.tuple [.str "plus", .str "times", .str "leads", .str "and", .str "or", .str "same"]) = some (!decide (u ∈ marks)) := nin_s (us := marks) (.inr rfl)
theorem leaves_le : ∀ s : Say, s.leaves.length ≤ s.words
  | .yes => by simp [Say.leaves, Say.words]
  | .no => by simp [Say.leaves, Say.words]
  | .unk _ => by simp [Say.leaves, Say.words]
  | .not a => by
    have := leaves_le a
    simp only [Say.leaves, Say.words]
    omega
  | .two m a b => by
    have := leaves_le a
    have := leaves_le b
    simp only [Say.leaves, Say.words, List.length_append]
    omega
theorem set_same {S : Sto} {c : Nat} {z : Cell} (h : S[c]? = some z) : S.set c z = S := by
  apply List.ext_getElem?
  intro i
  rw [List.getElem?_set]
  split
  · rename_i e
    subst e
    rw [h]
    have := (List.getElem?_eq_some_iff.mp h).1
    try simp [this]
  · rfl
theorem set_at {S : Sto} {c : Nat} {z z' : Cell} (h : S[c]? = some z) : (S.set c z')[c]? = some z' := List.getElem?_set_self (List.getElem?_eq_some_iff.mp h).1
@[simp] theorem finR_nxt {S : Sto} {Γ : Gm} : finR S.length (.ok (.nxt Γ) S) = .ok (.d .none) S := by simp [finR, fin]
@[simp] theorem finR_nset {S : Sto} {Γ : Gm} {c : Nat} {z : Cell} : finR S.length (.ok (.nxt Γ) (S.set c z)) = .ok (.d .none) (S.set c z) := by
  simp only [finR, fin]
  rw [List.take_of_length_le (by simp)]
abbrev txs (l : List Str) : List PyData := l.map .str
/-! ### equality of data with itself -/
mutual
theorem eqv_self : ∀ x : PyData, x.plain = true → PyData.eqv x x = true
  | .none, _ => by simp [PyData.eqv]
  | .bool b, _ => by simp [PyData.eqv]
  | .int i, _ => by simp [PyData.eqv]
  | .str s, _ => by simp [PyData.eqv]
  | .list xs, h => by
    simp only [PyData.plain] at h
    simp [PyData.eqv, eqvs_self xs h]
  | .tuple xs, h => by
    simp only [PyData.plain] at h
    simp [PyData.eqv, eqvs_self xs h]
  | .dict xs, h => by simp [PyData.plain] at h
theorem eqvs_self : ∀ xs : List PyData, PyData.plainAll xs = true → PyData.eqvAll xs xs = true
  | [], _ => by simp [PyData.eqvAll]
  | x :: xs, h => by
    simp only [PyData.plainAll, Bool.and_eq_true] at h
    simp [PyData.eqvAll, eqv_self x h.1, eqvs_self xs h.2]
end
theorem eq_self {x : PyData} (h : x.plain = true) (hd : x.depth ≤ 180) : cmpD .Eq x x = some true := by
  rw [eq_neat h h hd, eqv_self x h]
theorem ne_of_eq {d e : PyData} {b : Bool} (h : cmpD .Eq d e = some b) : cmpD .NotEq d e = some (!b) := by
  unfold cmpD at h ⊢
  dsimp only at h ⊢
  split at h
  · rename_i q
    rw [if_pos q]
    cases h
    rfl
  · cases h
theorem ne_self {x : PyData} (h : x.plain = true) (hd : x.depth ≤ 180) : cmpD .NotEq x x = some false := ne_of_eq (eq_self h hd)
/-! ### Euclid, wherever its two numbers stand -/
theorem euclidG {t : Gm → Sto → R Bool} {f : Gm → Sto → R Ht.Flow} {S : Sto} (enc : Nat → Nat → Gm) (ht : ∀ x y, t (enc x y) S = .ok (decide (0 < y)) S) (hf : ∀ x y, y ≠ 0 → f (enc x y) S = .ok (.nxt (enc y (x % y))) S) : ∀ (k x y fuel : Nat), y < 2 ^ k → 2 * k + 1 ≤ fuel →
    whlR t f fuel (enc x y) S = .ok (.nxt (enc (Nat.gcd x y) 0)) S := by
  have stop : ∀ (x fuel : Nat), 1 ≤ fuel → whlR t f fuel (enc x 0) S = .ok (.nxt (enc x 0)) S := by
    intro x fuel h
    obtain ⟨g, rfl⟩ : ∃ g, fuel = g + 1 := ⟨fuel - 1, by omega⟩
    rw [whlR, ht]
    simp
  have step : ∀ (x y fuel : Nat), y ≠ 0 → 1 ≤ fuel → whlR t f fuel (enc x y) S = whlR t f (fuel - 1) (enc y (x % y)) S := by
    intro x y fuel hy h
    obtain ⟨g, rfl⟩ : ∃ g, fuel = g + 1 := ⟨fuel - 1, by omega⟩
    rw [whlR]
    have hp : 0 < y := by omega
    simp only [ht, hf x y hy, R.bind_ok, decide_eq_true hp, if_true]
    rfl
  intro k
  induction k with
  | zero =>
    intro x y fuel h hf
    have : y = 0 := by omega
    subst this
    rw [stop x fuel (by omega), Nat.gcd_zero_right]
  | succ k ih =>
    intro x y fuel h hf
    by_cases hy : y = 0
    · subst hy
      rw [stop x fuel (by omega), Nat.gcd_zero_right]
    · rw [step x y fuel hy (by omega)]
      have e1 : Nat.gcd x y = Nat.gcd y (x % y) := by
        rw [Nat.gcd_comm x y, Nat.gcd_rec y x, Nat.gcd_comm]
      by_cases hr : x % y = 0
      · rw [hr, stop y (fuel - 1) (by omega), e1, hr, Nat.gcd_zero_right]
      · rw [step y (x % y) (fuel - 1) hr (by omega)]
        have hlt : x % y < y := Nat.mod_lt _ (by omega)
        have hh := half_mod (by omega : 0 < x % y) hlt
        have e2 : Nat.gcd y (x % y) = Nat.gcd (x % y) (y % (x % y)) := by
          rw [Nat.gcd_comm y (x % y), Nat.gcd_rec (x % y) y, Nat.gcd_comm]
        rw [ih (x % y) (y % (x % y)) (fuel - 1 - 1) (by rw [Nat.pow_succ] at h; omega) (by omega), e1, e2]
/-! ### the package's walks -/
section
variable {T : List FD} {fuel : Nat} {con : List PyData}
def partsF : FD := ⟨1, 1, .cons (.ret (.ife (.cmp .Eq (.idx (.var 0) (.con (.int 0))) (.con (.str "unknown"))) (.tup .nil) (.slc (.var 0) (.some (.con (.int 1))) .none))) .nil⟩
theorem parts_ok {k n : Nat} (hT : T[k]? = some partsF) (hn : 0 < n) {s : Say} (h : s.ok) (S : Sto) : callF T fuel con n k [.d s.d] S = .ok (.d (.tuple (s.parts.map Say.d))) S := by
  obtain ⟨m, rfl⟩ : ∃ m, n = m + 1 := ⟨n - 1, by omega⟩
  rw [call_eq hT rfl]
  show finR S.length (svs _ partsF.body [some (.d s.d)] S) = _
  cases s with
  | two m a b => simp [partsF, Say.d, Say.parts, eq_mark h.1, sizeLine_eq]
  | _ => simp [partsF, Say.d, Say.parts, sizeLine_eq]
def wordsF (kp kw : Nat) : FD := ⟨1, 2, .cons (.ret (.bin .Add (.con (.int 1)) (.blt .sum (.cons (.lc (.call kw (.cons (.var 1) .nil)) (.nam 1) (.seq (.call kp (.cons (.var 0) .nil))) .none [1]) .nil)))) .nil⟩
theorem words_ok {kp kw : Nat} (h0 : T[kp]? = some partsF) (h1 : T[kw]? = some (wordsF kp kw)) : ∀ {s : Say} {n : Nat}, s.deep + 1 < n → s.ok → ∀ S : Sto, callF T fuel con n kw [.d s.d] S = .ok (.d (.int s.words)) S := by
  intro s
  induction s with
  | not a ih =>
    intro n hn h S
    obtain ⟨m, rfl⟩ : ∃ m, n = m + 1 := ⟨n - 1, by omega⟩
    simp only [Say.deep] at hn
    rw [call_eq h1 rfl]
    show finR S.length (svs _ (wordsF kp kw).body [some (.d (Say.not a).d), none] S) = _
    have e0 := parts_ok (fuel := fuel) (con := con) (n := m) h0 (by omega) (s := .not a) h S
    have e1 := ih (n := m) (by omega) h S
    simp [wordsF, e0, e1, Say.parts, lcR, lc1, sizeLine_eq, bltD, intsOf, Say.words]
    omega
  | two w a b iha ihb =>
    intro n hn h S
    obtain ⟨m, rfl⟩ : ∃ m, n = m + 1 := ⟨n - 1, by omega⟩
    simp only [Say.deep] at hn
    rw [call_eq h1 rfl]
    show finR S.length (svs _ (wordsF kp kw).body [some (.d (Say.two w a b).d), none] S) = _
    have e0 := parts_ok (fuel := fuel) (con := con) (n := m) h0 (by omega) (s := .two w a b) h S
    have e1 := iha (n := m) (by omega) h.2.1 S
    have e2 := ihb (n := m) (by omega) h.2.2 S
    simp [wordsF, e0, e1, e2, Say.parts, lcR, lc1, sizeLine_eq, bltD, intsOf, Say.words]
    omega
  | _ =>
    intro n hn h S
    obtain ⟨m, rfl⟩ : ∃ m, n = m + 1 := ⟨n - 1, by omega⟩
    rw [call_eq h1 rfl]
    show finR S.length (svs _ (wordsF kp kw).body [some (.d (Say.d _)), none] S) = _
    have e0 := parts_ok (fuel := fuel) (con := con) (n := m) h0 (by omega) h S
    simp [wordsF, e0, Say.parts, lcR, lc1, sizeLine_eq, bltD, intsOf, Say.words]
def depthF (kp kw : Nat) : FD := ⟨1, 2, .cons (.ret (.blt .max (.cons (.bin .Add (.lst (.cons (.con (.int 0)) .nil)) (.lc (.bin .Add (.con (.int 1)) (.call kw (.cons (.var 1) .nil))) (.nam 1) (.seq (.call kp (.cons (.var 0) .nil))) .none [1])) .nil))) .nil⟩
theorem depth_ok {kp kw : Nat} (h0 : T[kp]? = some partsF) (h1 : T[kw]? = some (depthF kp kw)) : ∀ {s : Say} {n : Nat}, s.deep + 1 < n → s.ok → ∀ S : Sto, callF T fuel con n kw [.d s.d] S = .ok (.d (.int s.deep)) S := by
  intro s
  induction s with
  | not a ih =>
    intro n hn h S
    obtain ⟨m, rfl⟩ : ∃ m, n = m + 1 := ⟨n - 1, by omega⟩
    simp only [Say.deep] at hn
    rw [call_eq h1 rfl]
    show finR S.length (svs _ (depthF kp kw).body [some (.d (Say.not a).d), none] S) = _
    have e0 := parts_ok (fuel := fuel) (con := con) (n := m) h0 (by omega) (s := .not a) h S
    have e1 := ih (n := m) (by omega) h S
    simp [depthF, e0, e1, Say.parts, lcR, lc1, sizeLine_eq, bltD, intsOf, Say.deep]
    omega
  | two w a b iha ihb =>
    intro n hn h S
    obtain ⟨m, rfl⟩ : ∃ m, n = m + 1 := ⟨n - 1, by omega⟩
    simp only [Say.deep] at hn
    rw [call_eq h1 rfl]
    show finR S.length (svs _ (depthF kp kw).body [some (.d (Say.two w a b).d), none] S) = _
    have e0 := parts_ok (fuel := fuel) (con := con) (n := m) h0 (by omega) (s := .two w a b) h S
    have e1 := iha (n := m) (by omega) h.2.1 S
    have e2 := ihb (n := m) (by omega) h.2.2 S
    simp [depthF, e0, e1, e2, Say.parts, lcR, lc1, sizeLine_eq, bltD, intsOf, Say.deep]
    (repeat split) <;> omega
  | _ =>
    intro n hn h S
    obtain ⟨m, rfl⟩ : ∃ m, n = m + 1 := ⟨n - 1, by omega⟩
    rw [call_eq h1 rfl]
    show finR S.length (svs _ (depthF kp kw).body [some (.d (Say.d _)), none] S) = _
    have e0 := parts_ok (fuel := fuel) (con := con) (n := m) h0 (by omega) h S
    simp [depthF, e0, Say.parts, lcR, lc1, sizeLine_eq, bltD, intsOf, Say.deep]
/-! ### a saying drawn -/
def ms9 : CEs := .cons (.con (.str "plus")) (.cons (.con (.str "times")) (.cons (.con (.str "leads")) (.cons (.con (.str "and")) (.cons (.con (.str "or")) (.cons (.con (.str "same")) (.cons (.con (.str "plus")) (.cons (.con (.str "times")) (.cons (.con (.str "leads")) .nil))))))))
def say0 (kd ko ks : Nat) : CS := .ite (.cmp .Eq (.var 2) (.con (.int 0))) (.cons (.asg (.nam 3) (.call kd (.cons (.var 0) (.cons (.con (.int 9)) .nil)))) (.cons (.asg (.nam 4) (.ife (.cmp .Eq (.var 3) (.con (.int 0))) (.tup (.cons (.con (.str "yes")) .nil)) (.ife (.cmp .Eq (.var 3) (.con (.int 1))) (.tup (.cons (.con (.str "no")) .nil)) (.tup (.cons (.con (.str "unknown")) (.cons (.call ko (.cons (.var 0) (.cons (.var 1) .nil))) .nil)))))) .nil)) (.cons (.asg (.nam 5) (.call kd (.cons (.var 0) (.cons (.var 2) .nil)))) (.cons (.asg (.nam 6) (.call ko (.cons (.var 0) (.cons (.lst ms9) .nil)))) (.cons (.asg (.nam 7) (.call ks (.cons (.var 0) (.cons (.var 1) (.cons (.var 5) .nil))))) (.cons (.asg (.nam 4) (.tup (.cons (.var 6) (.cons (.var 7) (.cons (.call ks (.cons (.var 0) (.cons (.var 1) (.cons (.bin .Sub (.bin .Sub (.var 2) (.con (.int 1))) (.var 5)) .nil)))) .nil))))) .nil))))
def say1 (kd : Nat) (nt : Int) : CS := .ret (.ife (.cmp .Eq (.call kd (.cons (.var 0) (.cons (.con (.int nt)) .nil))) (.con (.int 0))) (.tup (.cons (.con (.str "not")) (.cons (.var 4) .nil))) (.var 4))
/-- _law_saying(m, names, size), a not in one of nt -/
def sayF (kd ko ks : Nat) (nt : Int) : FD := ⟨3, 8, .cons (say0 kd ko ks) (.cons (say1 kd nt) .nil)⟩
def marks9 : List PyData := [.str "plus", .str "times", .str "leads", .str "and", .str "or", .str "same", .str "plus", .str "times", .str "leads"]
theorem marks9_ok {x : PyData} (h : x ∈ marks9) : ∃ w ∈ marks, x = .str w := by
  simp only [marks9, List.mem_cons, List.not_mem_nil, or_false] at h
  rcases h with rfl | rfl | rfl | rfl | rfl | rfl | rfl | rfl | rfl <;> exact ⟨_, by decide +kernel, rfl⟩
theorem say_ok {kd ko ks : Nat} {nt : Int} (hkd : T[kd]? = some drawF) (hko : T[ko]? = some (ofF kd)) (hks : T[ks]? = some (sayF kd ko ks nt)) (h0 : 0 < nt) (h1 : nt ≤ 1000) : ∀ (k : Nat) {n c p : Nat} {d : Cell} {S : Sto} {names : List Str}, k ≤ 100 → k + 3 < n → S[c]? = some d → Dr p d → p + 6 * k + 3 ≤ 2 ^ 40 → names ≠ [] → names.length ≤ 1000 →
    ∃ (s : Say) (d' : Cell), s.ok ∧ s.over names ∧ s.deep ≤ 2 * k + 1 ∧ s.words ≤ 4 * k + 2 ∧ s.cnt = k ∧ Dr (p + 6 * k + 3) d' ∧ callF T fuel con n ks [.c c, .d (.list (txs names)), .d (.int k)] S = .ok (.d s.d) (S.set c d') := by
  intro k
  induction k using Nat.strongRecOn with
  | _ k ih =>
    intro n c p d S names hk hn hS hd hp hne hnl
    obtain ⟨m, rfl⟩ : ∃ m, n = m + 1 := ⟨n - 1, by omega⟩
    rw [call_eq hks rfl]
    show ∃ (s : Say) (d' : Cell), _ ∧ _ ∧ _ ∧ _ ∧ _ ∧ _ ∧ finR S.length (svs _ (sayF kd ko ks nt).body [some (.c c), some (.d (.list (txs names))), some (.d (.int k)), none, none, none, none, none] S) = _
    have first : ∃ (s : Say) (d1 : Cell) (o3 o5 o6 o7 : Option E), s.ok ∧ s.over names ∧ s.deep ≤ 2 * k ∧ s.words ≤ 4 * k + 1 ∧ s.cnt = k ∧ Dr (p + 6 * k + 2) d1 ∧
        sv ⟨callF T fuel con m, fuel, con⟩ (say0 kd ko ks) [some (.c c), some (.d (.list (txs names))), some (.d (.int k)), none, none, none, none, none] S = .ok (.nxt [some (.c c), some (.d (.list (txs names))), some (.d (.int k)), o3, some (.d s.d), o5, o6, o7]) (S.set c d1) := by
      by_cases hk0 : k = 0
      · subst hk0
        obtain ⟨r, d1, hr0, hr1, hd1, hs1, e1⟩ := draw_at (n := m) (fuel := fuel) (con := con) (b := 9) (by omega) hkd hS hd (by omega) (by decide) (by decide)
        by_cases q0 : r = 0
        · subst q0
          exact ⟨.yes, d1, some (.d (.int 0)), none, none, none, trivial, trivial, by simp [Say.deep], by simp [Say.words], rfl, hd1.mono (by omega), by simp [say0, e1, sizeLine_eq, Say.d]⟩
        · by_cases q1 : r = 1
          · subst q1
            exact ⟨.no, d1, some (.d (.int 1)), none, none, none, trivial, trivial, by simp [Say.deep], by simp [Say.words], rfl, hd1.mono (by omega), by simp [say0, e1, sizeLine_eq, Say.d]⟩
          · obtain ⟨x, hx, d2, hd2, hs2, e2⟩ := of_at (n := m) (fuel := fuel) (con := con) (mk := .list) (xs := txs names) (.inl rfl) (by omega) hkd hko hs1 hd1 (by omega) (by simpa using hne) (by simp; omega)
            obtain ⟨y, hy, rfl⟩ := List.mem_map.mp hx
            exact ⟨.unk y, d2, some (.d (.int r)), none, none, none, trivial, hy, by simp [Say.deep], by simp [Say.words], rfl, hd2.mono (by omega), by simp [say0, e1, e2, q0, q1, sizeLine_eq, Say.d]⟩
      · obtain ⟨r, d1, hr0, hr1, hd1, hs1, e1⟩ := draw_at (n := m) (fuel := fuel) (con := con) (b := k) (by omega) hkd hS hd (by omega) (by omega) (by omega)
        obtain ⟨l, rfl⟩ := Int.eq_ofNat_of_zero_le hr0
        obtain ⟨x, hx, d2, hd2, hs2, e2⟩ := of_at (n := m) (fuel := fuel) (con := con) (mk := .list) (xs := marks9) (.inl rfl) (by omega) hkd hko hs1 hd1 (by omega) (by simp [marks9]) (by simp [marks9])
        obtain ⟨w, hw, rfl⟩ := marks9_ok hx
        have hlk : l < k := by omega
        obtain ⟨a, d3, oa, va, da, ha, ca, hd3, e3⟩ := ih l hlk (n := m) (by omega) (by omega) hs2 hd2 (by omega) hne hnl
        obtain ⟨b, d4, ob, vb, db, hb, cb, hd4, e4⟩ := ih (k - 1 - l) (by omega) (n := m) (by omega) (by omega) (set_at (z' := d3) hs2) hd3 (by omega) hne hnl
        have ek : ((k : Int) - 1 - (l : Int)) = ((k - 1 - l : Nat) : Int) := by omega
        have hk0' : ¬ ((k : Int) = 0) := by omega
        simp only [List.set_set, marks9] at e2 e3 e4
        refine ⟨.two w a b, d4, none, some (.d (.int l)), some (.d (.str w)), some (.d a.d), ⟨hw, oa, ob⟩, ⟨va, vb⟩, by simp only [Say.deep]; omega, by simp only [Say.words]; omega, by simp only [Say.cnt]; omega, hd4.mono (by omega), ?_⟩
        simp [say0, ms9, e1, e2, e3, e4, ek, hk0, sizeLine_eq, Say.d]
    obtain ⟨s, d1, o3, o5, o6, o7, hs, hv, hde, hhe, hc, hd1, e0⟩ := first
    obtain ⟨r, d2, hr0, hr1, hd2, hs2, e1⟩ := draw_at (n := m) (fuel := fuel) (con := con) (b := nt) (by omega) hkd (set_at (z' := d1) hS) hd1 (by omega) h0 (by omega)
    simp only [List.set_set] at e1
    by_cases q : r = 0
    · subst q
      refine ⟨.not s, d2, hs, hv, by simp only [Say.deep]; omega, by simp only [Say.words]; omega, hc, hd2.mono (by omega), ?_⟩
      simp [sayF, e0, say1, e1, sizeLine_eq, Say.d]
    · refine ⟨s, d2, hs, hv, by omega, by omega, hc, hd2.mono (by omega), ?_⟩
      simp [sayF, e0, say1, e1, q]
end
end Ht

set_option maxRecDepth 100000
set_option maxHeartbeats 16000000
/-! HtU: fractions in lowest terms over a common denominator; the package's values. -/
namespace Ht
open PySem L2 PyProof.Rows
/-! ### lowest terms -/
structure Low (u v n W : Int) : Prop where
  pos : 0 < v
  cop : Int.gcd u v = 1
  eq : u * W = n * v
def lowA (n W : Int) : Int := n.fdiv (Int.gcd n W : Nat)
def lowB (n W : Int) : Int := W.fdiv (Int.gcd n W : Nat)
theorem lowI_ab (n W : Int) : lowI n W = .tuple [.int (lowA n W), .int (lowB n W)] := rfl
theorem low_is {n W : Int} (h : 0 < W) : Low (lowA n W) (lowB n W) n W := by
  have hg : 0 < Int.gcd n W := Int.gcd_pos_of_ne_zero_right _ (by omega)
  have hg' : (0 : Int) < (Int.gcd n W : Nat) := by omega
  have d1 : ((Int.gcd n W : Nat) : Int) ∣ n := Int.gcd_dvd_left ..
  have d2 : ((Int.gcd n W : Nat) : Int) ∣ W := Int.gcd_dvd_right ..
  have e1 : lowA n W = n / (Int.gcd n W : Nat) := Int.fdiv_eq_ediv_of_nonneg _ (by omega)
  have e2 : lowB n W = W / (Int.gcd n W : Nat) := Int.fdiv_eq_ediv_of_nonneg _ (by omega)
  refine ⟨?_, ?_, ?_⟩
  · rw [e2]
    exact Int.ediv_pos_of_pos_of_dvd h (by omega) d2
  · rw [e1, e2]
    exact Int.gcd_ediv_gcd_ediv_gcd_of_ne_zero_right (by omega)
  · rw [e1, e2]
    obtain ⟨a, ha⟩ := d1
    obtain ⟨b, hb⟩ := d2
    have q1 : n / (Int.gcd n W : Nat) = a := Int.ediv_eq_of_eq_mul_right (by omega) ha
    have q2 : W / (Int.gcd n W : Nat) = b := Int.ediv_eq_of_eq_mul_right (by omega) hb
    rw [q1, q2]
    calc a * W = a * ((Int.gcd n W : Nat) * b) := by rw [← hb]
      _ = ((Int.gcd n W : Nat) * a) * b := by rw [← Int.mul_assoc, Int.mul_comm a]
      _ = n * b := by rw [← ha]
theorem cop_dvd {u v w : Int} (h : Int.gcd u v = 1) (d : v ∣ u * w) : v ∣ w := by
  have c : Nat.Coprime v.natAbs u.natAbs := by
    unfold Nat.Coprime
    rw [Nat.gcd_comm]
    exact h
  have d' : v.natAbs ∣ u.natAbs * w.natAbs := by
    rw [← Int.natAbs_mul]
    exact Int.natAbs_dvd_natAbs.mpr d
  exact Int.natAbs_dvd_natAbs.mp (c.dvd_of_dvd_mul_left d')
theorem low_unique {u v u' v' n W : Int} (h : Low u v n W) (h' : Low u' v' n W) (hW : 0 < W) : u = u' ∧ v = v' := by
  have key : u * v' = u' * v := by
    have : W * (u * v') = W * (u' * v) := by
      calc W * (u * v') = (u * W) * v' := by rw [← Int.mul_assoc, Int.mul_comm W]
        _ = n * v * v' := by rw [h.eq]
        _ = n * v' * v := by rw [Int.mul_assoc, Int.mul_comm v, ← Int.mul_assoc]
        _ = u' * W * v := by rw [h'.eq]
        _ = W * (u' * v) := by rw [Int.mul_comm u', Int.mul_assoc]
    exact Int.eq_of_mul_eq_mul_left (by omega) this
  have d1 : v ∣ v' := cop_dvd h.cop ⟨u', by rw [key, Int.mul_comm]⟩
  have d2 : v' ∣ v := cop_dvd h'.cop ⟨u, by rw [← key, Int.mul_comm]⟩
  have hv : v = v' := Int.dvd_antisymm (Int.le_of_lt h.pos) (Int.le_of_lt h'.pos) d1 d2
  subst hv
  have hp := h.pos
  exact ⟨Int.eq_of_mul_eq_mul_right (by omega) key, rfl⟩
theorem lowI_of {u v n W : Int} (h : Low u v n W) (hW : 0 < W) : lowI n W = .tuple [.int u, .int v] := by
  obtain ⟨e1, e2⟩ := low_unique (low_is (n := n) hW) h hW
  rw [lowI_ab, e1, e2]
theorem lowI_congr {n W n' W' : Int} (hW : 0 < W) (hW' : 0 < W') (e : n * W' = n' * W) : lowI n W = lowI n' W' := by
  have h := low_is (n := n') hW'
  rw [lowI_ab n' W']
  refine lowI_of ⟨h.pos, h.cop, ?_⟩ hW
  have : W' * (lowA n' W' * W) = W' * (n * lowB n' W') := by
    calc W' * (lowA n' W' * W) = (lowA n' W' * W') * W := by rw [Int.mul_comm W', Int.mul_assoc, Int.mul_comm W, Int.mul_assoc]
      _ = n' * lowB n' W' * W := by rw [h.eq]
      _ = n' * W * lowB n' W' := by rw [Int.mul_assoc, Int.mul_comm (lowB n' W'), ← Int.mul_assoc]
      _ = n * W' * lowB n' W' := by rw [e]
      _ = W' * (n * lowB n' W') := by rw [Int.mul_comm n, Int.mul_assoc]
  exact Int.eq_of_mul_eq_mul_left (by omega) this
theorem lowB_le {n W : Int} (h : 0 < W) : lowB n W ≤ W := by
  have e2 : lowB n W = W / (Int.gcd n W : Nat) := Int.fdiv_eq_ediv_of_nonneg _ (by omega)
  rw [e2]
  exact Int.ediv_le_self _ (by omega)
theorem lowB_pos {n W : Int} (h : 0 < W) : 0 < lowB n W := (low_is h).pos
theorem lowA_nn {n W : Int} (h : 0 < W) (hn : 0 ≤ n) : 0 ≤ lowA n W := by
  have e1 : lowA n W = n / (Int.gcd n W : Nat) := Int.fdiv_eq_ediv_of_nonneg _ (by omega)
  rw [e1]
  exact Int.ediv_nonneg hn (by omega)
theorem lowA_le {n W : Int} (h : 0 < W) (hn : n ≤ W) : lowA n W ≤ lowB n W := by
  have e1 : lowA n W = n / (Int.gcd n W : Nat) := Int.fdiv_eq_ediv_of_nonneg _ (by omega)
  have e2 : lowB n W = W / (Int.gcd n W : Nat) := Int.fdiv_eq_ediv_of_nonneg _ (by omega)
  rw [e1, e2]
  have hg : 0 < Int.gcd n W := Int.gcd_pos_of_ne_zero_right _ (by omega)
  exact Int.ediv_le_ediv (by omega) hn
/-- comparing -/
theorem low_lt {a b W : Int} (h : 0 < W) : (lowA a W * lowB b W < lowA b W * lowB a W ↔ a < b) ∧ (lowA a W * lowB b W = lowA b W * lowB a W ↔ a = b) := by
  have ha := low_is (n := a) h
  have hb := low_is (n := b) h
  generalize lowA a W = p at *
  generalize lowB a W = q at *
  generalize lowA b W = r at *
  generalize lowB b W = s at *
  have e1 : W * (p * s) = a * (q * s) := by
    calc W * (p * s) = p * W * s := by rw [← Int.mul_assoc, Int.mul_comm W]
      _ = a * q * s := by rw [ha.eq]
      _ = a * (q * s) := by rw [Int.mul_assoc]
  have e2 : W * (r * q) = b * (q * s) := by
    calc W * (r * q) = r * W * q := by rw [← Int.mul_assoc, Int.mul_comm W]
      _ = b * s * q := by rw [hb.eq]
      _ = b * (q * s) := by rw [Int.mul_assoc, Int.mul_comm s]
  have hqs : 0 < q * s := Int.mul_pos ha.pos hb.pos
  constructor
  · constructor
    · intro hlt
      have := Int.mul_lt_mul_of_pos_left hlt h
      rw [e1, e2] at this
      exact Int.lt_of_mul_lt_mul_right this (Int.le_of_lt hqs)
    · intro hlt
      have := Int.mul_lt_mul_of_pos_right hlt hqs
      rw [← e1, ← e2] at this
      exact Int.lt_of_mul_lt_mul_left this (Int.le_of_lt h)
  · constructor
    · intro he
      have : a * (q * s) = b * (q * s) := by rw [← e1, ← e2, he]
      exact Int.eq_of_mul_eq_mul_right (by omega) this
    · intro he
      subst he
      have : W * (p * s) = W * (r * q) := by rw [e1, e2]
      exact Int.eq_of_mul_eq_mul_left (by omega) this
theorem low_opp {a W : Int} (h : 0 < W) : lowI (W - a) W = .tuple [.int (lowB a W - lowA a W), .int (lowB a W)] := by
  have ha := low_is (n := a) h
  refine lowI_of ⟨ha.pos, ?_, ?_⟩ h
  · rw [Int.gcd_comm]
    have := ha.cop
    rw [Int.gcd_comm] at this
    rw [show lowB a W - lowA a W = -(lowA a W - lowB a W) by omega, Int.gcd_neg, Int.gcd_sub_self_right]
    exact this
  · rw [Int.sub_mul, Int.sub_mul, ha.eq, Int.mul_comm (lowB a W)]
theorem low_plus {a b W : Int} (h : 0 < W) : lowI (lowA a W * lowB b W + lowA b W * lowB a W) (lowB a W * lowB b W) = lowI (a + b) W := by
  have ha := low_is (n := a) h
  have hb := low_is (n := b) h
  refine lowI_congr (Int.mul_pos ha.pos hb.pos) h ?_
  calc (lowA a W * lowB b W + lowA b W * lowB a W) * W = lowA a W * W * lowB b W + lowA b W * W * lowB a W := by
        rw [Int.add_mul, Int.mul_assoc, Int.mul_comm (lowB b W), ← Int.mul_assoc, Int.mul_assoc (lowA b W), Int.mul_comm (lowB a W) W, ← Int.mul_assoc]
    _ = a * lowB a W * lowB b W + b * lowB b W * lowB a W := by rw [ha.eq, hb.eq]
    _ = (a + b) * (lowB a W * lowB b W) := by rw [Int.add_mul, Int.mul_assoc, Int.mul_assoc b, Int.mul_comm (lowB b W)]
theorem low_top {W : Int} (h : 0 < W) : lowI W W = .tuple [.int 1, .int 1] := lowI_of ⟨by decide, by decide, by omega⟩ h
theorem low_zero {W : Int} (h : 0 < W) : lowI 0 W = .tuple [.int 0, .int 1] := lowI_of ⟨by decide, by decide, by omega⟩ h
theorem low_gt {n W : Int} (h : 0 < W) : lowB n W < lowA n W ↔ W < n := by
  have ha := low_is (n := n) h
  have hp := ha.pos
  constructor
  · intro q
    have := Int.mul_lt_mul_of_pos_right q h
    rw [ha.eq, Int.mul_comm] at this
    exact Int.lt_of_mul_lt_mul_right this (Int.le_of_lt hp)
  · intro q
    have := Int.mul_lt_mul_of_pos_right q hp
    rw [← ha.eq, Int.mul_comm] at this
    exact Int.lt_of_mul_lt_mul_right this (Int.le_of_lt h)
/-! ### the defs -/
def fraction_0 (k1 : Nat) : CS := .asg (.nam 2) (.call k1 (.cons (.var 0) (.cons (.var 1) .nil)))
def fraction_1 (x0 : Nat) : CS := .ite (.not (.chain .LtE .LtE (.con (.int 0)) (.idx (.var 2) (.con (.int 0))) (.idx (.var 2) (.con (.int 1))))) (.cons (.rais x0 (.tup (.cons (.var 0) (.cons (.var 1) .nil)))) .nil) .nil
def fraction_2 : CS := .ret (.var 2)
def fractionF (k1 x0 : Nat) : FD := ⟨2, 3, .cons (fraction_0 k1) (.cons (fraction_1 x0) (.cons fraction_2 (.nil)))⟩
def compared_0 : CS := .par 2 3 (.bin .Mult (.idx (.var 0) (.con (.int 0))) (.idx (.var 1) (.con (.int 1)))) (.bin .Mult (.idx (.var 1) (.con (.int 0))) (.idx (.var 0) (.con (.int 1))))
def compared_1 : CS := .ite (.cmp .Eq (.var 2) (.var 3)) (.cons (.ret (.con (.int 0))) .nil) .nil
def compared_2 : CS := .ret (.ife (.cmp .Lt (.var 2) (.var 3)) (.neg (.con (.int 1))) (.con (.int 1)))
def comparedF : FD := ⟨2, 4, .cons compared_0 (.cons compared_1 (.cons compared_2 (.nil)))⟩
def denom_0 : CS := .asg (.nam 1) (.con (.int 1))
def denom_1 (k0 : Nat) : CS := .loop (.nam 2) (.seq (.var 0)) (.cons (.asg (.nam 1) (.bin .FloorDiv (.bin .Mult (.var 1) (.idx (.var 2) (.con (.int 1)))) (.call k0 (.cons (.var 1) (.cons (.idx (.var 2) (.con (.int 1))) .nil))))) .nil)
def denom_2 : CS := .ret (.var 1)
def denomF (k0 : Nat) : FD := ⟨1, 3, .cons denom_0 (.cons (denom_1 k0) (.cons denom_2 (.nil)))⟩
def plus_0 (k1 : Nat) : CS := .ret (.call k1 (.cons (.bin .Add (.bin .Mult (.idx (.var 0) (.con (.int 0))) (.idx (.var 1) (.con (.int 1)))) (.bin .Mult (.idx (.var 1) (.con (.int 0))) (.idx (.var 0) (.con (.int 1))))) (.cons (.bin .Mult (.idx (.var 0) (.con (.int 1))) (.idx (.var 1) (.con (.int 1)))) .nil)))
def plusF (k1 : Nat) : FD := ⟨2, 2, .cons (plus_0 k1) (.nil)⟩
def opposite_0 : CS := .ret (.tup (.cons (.bin .Sub (.idx (.var 0) (.con (.int 1))) (.idx (.var 0) (.con (.int 0)))) (.cons (.idx (.var 0) (.con (.int 1))) .nil)))
def oppositeF : FD := ⟨1, 1, .cons opposite_0 (.nil)⟩
def capped_0 : CS := .ret (.ife (.cmp .Gt (.idx (.var 0) (.con (.int 0))) (.idx (.var 0) (.con (.int 1)))) (.tup (.cons (.con (.int 1)) (.cons (.con (.int 1)) .nil))) (.var 0))
def cappedF : FD := ⟨1, 1, .cons capped_0 (.nil)⟩
def given_by_0 (k7 k5 : Nat) : CS := .ite (.cmp .Eq (.var 0) (.con (.str "plus"))) (.cons (.ret (.call k7 (.cons (.call k5 (.cons (.var 1) (.cons (.var 2) .nil))) .nil))) .nil) .nil
def given_by_1 (k7 k5 k6 : Nat) : CS := .ite (.cmp .Eq (.var 0) (.con (.str "times"))) (.cons (.ret (.call k6 (.cons (.call k7 (.cons (.call k5 (.cons (.call k6 (.cons (.var 1) .nil)) (.cons (.call k6 (.cons (.var 2) .nil)) .nil))) .nil)) .nil))) .nil) .nil
def given_by_2 (k7 k5 k6 : Nat) : CS := .ite (.cmp .Eq (.var 0) (.con (.str "leads"))) (.cons (.ret (.call k7 (.cons (.call k5 (.cons (.call k6 (.cons (.var 1) .nil)) (.cons (.var 2) .nil))) .nil))) .nil) .nil
def given_by_3 (k3 : Nat) : CS := .asg (.tup (.cons (.nam 3) (.cons (.nam 4) .nil))) (.ife (.cmp .LtE (.call k3 (.cons (.var 1) (.cons (.var 2) .nil))) (.con (.int 0))) (.tup (.cons (.var 1) (.cons (.var 2) .nil))) (.tup (.cons (.var 2) (.cons (.var 1) .nil))))
def given_by_4 : CS := .ite (.cmp .Eq (.var 0) (.con (.str "and"))) (.cons (.ret (.var 3)) .nil) .nil
def given_by_5 : CS := .ite (.cmp .Eq (.var 0) (.con (.str "or"))) (.cons (.ret (.var 4)) .nil) .nil
def given_by_6 (k7 k5 k6 : Nat) : CS := .ret (.call k7 (.cons (.call k5 (.cons (.call k6 (.cons (.var 4) .nil)) (.cons (.var 3) .nil))) .nil))
def given_byF (k7 k5 k6 k3 : Nat) : FD := ⟨3, 5, .cons (given_by_0 k7 k5) (.cons (given_by_1 k7 k5 k6) (.cons (given_by_2 k7 k5 k6) (.cons (given_by_3 k3) (.cons given_by_4 (.cons given_by_5 (.cons (given_by_6 k7 k5 k6) (.nil)))))))⟩
def value_in_0 (x1 : Nat) : CS := .ite (.cmp .Eq (.idx (.var 0) (.con (.int 0))) (.con (.str "unknown"))) (.cons (.ite (.cmp .NotIn (.idx (.var 0) (.con (.int 1))) (.var 1)) (.cons (.rais x1 (.idx (.var 0) (.con (.int 1)))) .nil) .nil) (.cons (.ret (.idx (.var 1) (.idx (.var 0) (.con (.int 1))))) .nil)) .nil
def value_in_1 : CS := .ite (.cmp .Eq (.idx (.var 0) (.con (.int 0))) (.con (.str "yes"))) (.cons (.ret (.tup (.cons (.con (.int 1)) (.cons (.con (.int 1)) .nil)))) .nil) .nil
def value_in_2 : CS := .ite (.cmp .Eq (.idx (.var 0) (.con (.int 0))) (.con (.str "no"))) (.cons (.ret (.tup (.cons (.con (.int 0)) (.cons (.con (.int 1)) .nil)))) .nil) .nil
def value_in_3 (k6 k9 : Nat) : CS := .ite (.cmp .Eq (.idx (.var 0) (.con (.int 0))) (.con (.str "not"))) (.cons (.ret (.call k6 (.cons (.call k9 (.cons (.idx (.var 0) (.con (.int 1))) (.cons (.var 1) .nil))) .nil))) .nil) .nil
def value_in_4 (k9 : Nat) : CS := .asg (.nam 2) (.call k9 (.cons (.idx (.var 0) (.con (.int 1))) (.cons (.var 1) .nil)))
def value_in_5 (k9 k8 : Nat) : CS := .ret (.call k8 (.cons (.idx (.var 0) (.con (.int 0))) (.cons (.var 2) (.cons (.call k9 (.cons (.idx (.var 0) (.con (.int 2))) (.cons (.var 1) .nil))) .nil))))
def value_inF (x1 k6 k9 k8 : Nat) : FD := ⟨2, 3, .cons (value_in_0 x1) (.cons value_in_1 (.cons value_in_2 (.cons (value_in_3 k6 k9) (.cons (value_in_4 k9) (.cons (value_in_5 k9 k8) (.nil))))))⟩
def value_at_0 (k9 : Nat) : CS := .ret (.call k9 (.cons (.var 0) (.cons (.dzip (.var 1) (.var 2)) .nil)))
def value_atF (k9 : Nat) : FD := ⟨3, 3, .cons (value_at_0 k9) (.nil)⟩
def lgraded_0 : CS := .ite (.cmp .Eq (.idx (.var 0) (.con (.int 0))) (.con (.str "unknown"))) (.cons (.ret (.idx (.var 1) (.idx (.var 0) (.con (.int 1))))) .nil) .nil
def lgraded_1 : CS := .ite (.cmp .In (.idx (.var 0) (.con (.int 0))) (.tup (.cons (.con (.str "yes")) (.cons (.con (.str "no")) .nil)))) (.cons (.ret (.ife (.cmp .Eq (.idx (.var 0) (.con (.int 0))) (.con (.str "yes"))) (.var 2) (.con (.int 0)))) .nil) .nil
def lgraded_2 (k16 : Nat) : CS := .asg (.nam 3) (.call k16 (.cons (.idx (.var 0) (.con (.int 1))) (.cons (.var 1) (.cons (.var 2) .nil))))
def lgraded_3 : CS := .ite (.cmp .Eq (.idx (.var 0) (.con (.int 0))) (.con (.str "not"))) (.cons (.ret (.bin .Sub (.var 2) (.var 3))) .nil) .nil
def lgraded_4 (k16 : Nat) : CS := .asg (.nam 4) (.call k16 (.cons (.idx (.var 0) (.con (.int 2))) (.cons (.var 1) (.cons (.var 2) .nil))))
def lgraded_5 : CS := .ite (.cmp .Eq (.idx (.var 0) (.con (.int 0))) (.con (.str "plus"))) (.cons (.ret (.blt .min2 (.cons (.var 2) (.cons (.bin .Add (.var 3) (.var 4)) .nil)))) .nil) .nil
def lgraded_6 : CS := .ite (.cmp .Eq (.idx (.var 0) (.con (.int 0))) (.con (.str "times"))) (.cons (.ret (.blt .max2 (.cons (.con (.int 0)) (.cons (.bin .Sub (.bin .Add (.var 3) (.var 4)) (.var 2)) .nil)))) .nil) .nil
def lgraded_7 : CS := .ite (.cmp .Eq (.idx (.var 0) (.con (.int 0))) (.con (.str "leads"))) (.cons (.ret (.blt .min2 (.cons (.var 2) (.cons (.bin .Add (.bin .Sub (.var 2) (.var 3)) (.var 4)) .nil)))) .nil) .nil
def lgraded_8 : CS := .ite (.cmp .In (.idx (.var 0) (.con (.int 0))) (.tup (.cons (.con (.str "and")) (.cons (.con (.str "or")) .nil)))) (.cons (.ret (.ife (.cmp .Eq (.idx (.var 0) (.con (.int 0))) (.con (.str "and"))) (.blt .min2 (.cons (.var 3) (.cons (.var 4) .nil))) (.blt .max2 (.cons (.var 3) (.cons (.var 4) .nil))))) .nil) .nil
def lgraded_9 : CS := .ret (.bin .Sub (.var 2) (.blt .abs (.cons (.bin .Sub (.var 3) (.var 4)) .nil)))
def lgradedF (k16 : Nat) : FD := ⟨3, 5, .cons lgraded_0 (.cons lgraded_1 (.cons (lgraded_2 k16) (.cons lgraded_3 (.cons (lgraded_4 k16) (.cons lgraded_5 (.cons lgraded_6 (.cons lgraded_7 (.cons lgraded_8 (.cons lgraded_9 (.nil))))))))))⟩

theorem mul_b {i j : Int} (h1 : i.natAbs < 2 ^ 1000) (h2 : j.natAbs < 2 ^ 1000) : binD .Mult (.int i) (.int j) = some (.int (i * j)) := by
  rw [binD]
  refine if_pos (L2.CMulW.ok ?_)
  have lg : ∀ x : Nat, x < 2 ^ 1000 → x.log2 < 1000 := fun x h => by
    by_cases z : x = 0
    · rw [z]; decide
    · exact (Nat.log2_lt z).mpr h
  show i.natAbs.log2 + j.natAbs.log2 < 1000000
  have := lg _ h1
  have := lg _ h2
  omega
/-- a value's number, its whole -/
structure Fr (a W : Int) : Prop where
  nn : 0 ≤ a
  le : a ≤ W
def big : Int := 2 ^ 240
theorem low_small {a W : Int} (hW : 0 < W) (hB : W < big) (ha : Fr a W) : (lowA a W).natAbs < 2 ^ 240 ∧ (lowB a W).natAbs < 2 ^ 240 := by
  have h1 := lowA_nn hW ha.nn
  have h2 := lowA_le hW ha.le
  have h3 := lowB_le (n := a) hW
  unfold big at hB
  omega
theorem lt_1000 {x : Nat} (h : x < 2 ^ 240) : x < 2 ^ 1000 := Nat.lt_of_lt_of_le h (Nat.pow_le_pow_right (by decide) (by decide))
section
variable {T : List FD} {con : List PyData} {S : Sto} {a b W : Int} {n : Nat}
theorem mul_low (hW : 0 < W) (hB : W < big) (ha : Fr a W) (hb : Fr b W) : binD .Mult (.int (lowA a W)) (.int (lowB b W)) = some (.int (lowA a W * lowB b W)) :=
  mul_b (lt_1000 (low_small hW hB ha).1) (lt_1000 (low_small hW hB hb).2)
theorem mul_lowB (hW : 0 < W) (hB : W < big) (ha : Fr a W) (hb : Fr b W) : binD .Mult (.int (lowB a W)) (.int (lowB b W)) = some (.int (lowB a W * lowB b W)) :=
  mul_b (lt_1000 (low_small hW hB ha).2) (lt_1000 (low_small hW hB hb).2)
theorem compared_ok {k : Nat} (hn : 0 < n) (hT : T[k]? = some comparedF) (hW : 0 < W) (hB : W < big) (ha : Fr a W) (hb : Fr b W) : callF T 1000 con n k [.d (lowI a W), .d (lowI b W)] S = .ok (.d (.int (if a = b then 0 else if a < b then -1 else 1))) S := by
  obtain ⟨m, rfl⟩ : ∃ m, n = m + 1 := ⟨n - 1, by omega⟩
  rw [call_eq hT rfl]
  show finR S.length (svs _ comparedF.body [some (.d (lowI a W)), some (.d (lowI b W)), none, none] S) = _
  have e1 := mul_low hW hB ha hb
  have e2 := mul_low hW hB hb ha
  have q1 := (low_lt (a := a) (b := b) hW).1
  have q2 := (low_lt (a := a) (b := b) hW).2
  by_cases h1 : a = b
  · subst h1
    simp [comparedF, compared_0, compared_1, compared_2, lowI_ab, e1]
  · have h1' := mt q2.mp h1
    by_cases h2 : a < b
    · have h2' := q1.mpr h2
      simp [comparedF, compared_0, compared_1, compared_2, lowI_ab, e1, e2, h1', h2', h1, h2, negD]
    · have h2' := mt q1.mp h2
      simp [comparedF, compared_0, compared_1, compared_2, lowI_ab, e1, e2, h1', h2', h1, h2]
theorem big_sq {x y : Int} (h1 : 0 < x) (h2 : 0 < y) (h3 : x < 2 ^ 240) (h4 : y < 2 ^ 240) : 0 < x * y ∧ x * y < 2 ^ 499 := by
  refine ⟨Int.mul_pos h1 h2, ?_⟩
  have : x * y ≤ 2 ^ 240 * 2 ^ 240 := Int.mul_le_mul (Int.le_of_lt h3) (Int.le_of_lt h4) (Int.le_of_lt h2) (by decide)
  exact Int.lt_of_le_of_lt this (by decide)
theorem plus_ok {k kl kc : Nat} (hn : 2 < n) (hC : T[kc]? = some comF) (hL : T[kl]? = some (lowestF kc)) (hT : T[k]? = some (plusF kl)) (hW : 0 < W) (hB : W < big) (ha : Fr a W) (hb : Fr b W) : callF T 1000 con n k [.d (lowI a W), .d (lowI b W)] S = .ok (.d (lowI (a + b) W)) S := by
  obtain ⟨m, rfl⟩ : ∃ m, n = m + 1 := ⟨n - 1, by omega⟩
  rw [call_eq hT rfl]
  show finR S.length (svs _ (plusF kl).body [some (.d (lowI a W)), some (.d (lowI b W))] S) = _
  have e1 := mul_low hW hB ha hb
  have e2 := mul_low hW hB hb ha
  have e3 := mul_lowB hW hB ha hb
  have p1 := lowB_pos (n := a) hW
  have p2 := lowB_pos (n := b) hW
  have s1 := (low_small hW hB ha).2
  have s2 := (low_small hW hB hb).2
  obtain ⟨g1, g2⟩ := big_sq p1 p2 (by omega) (by omega)
  have e4 := lowest_ok (con := con) (n := m) (a := lowA a W * lowB b W + lowA b W * lowB a W) (S := S) (by omega) hC hL g1 g2
  rw [low_plus hW] at e4
  rw [lowI_ab a, lowI_ab b]
  simp [plusF, plus_0, e1, e2, e3, e4]
theorem opposite_ok {k : Nat} (hn : 0 < n) (hT : T[k]? = some oppositeF) (hW : 0 < W) : callF T 1000 con n k [.d (lowI a W)] S = .ok (.d (lowI (W - a) W)) S := by
  obtain ⟨m, rfl⟩ : ∃ m, n = m + 1 := ⟨n - 1, by omega⟩
  rw [call_eq hT rfl]
  show finR S.length (svs _ oppositeF.body [some (.d (lowI a W))] S) = _
  rw [low_opp hW]
  simp [oppositeF, opposite_0, lowI_ab, sizeLine_eq]
theorem capped_ok {k : Nat} (hn : 0 < n) (hT : T[k]? = some cappedF) (hW : 0 < W) : callF T 1000 con n k [.d (lowI a W)] S = .ok (.d (lowI (min W a) W)) S := by
  obtain ⟨m, rfl⟩ : ∃ m, n = m + 1 := ⟨n - 1, by omega⟩
  rw [call_eq hT rfl]
  show finR S.length (svs _ cappedF.body [some (.d (lowI a W))] S) = _
  have q := low_gt (n := a) hW
  by_cases h : W < a
  · have h' := q.mpr h
    rw [show min W a = W by omega, low_top hW]
    simp [cappedF, capped_0, lowI_ab, h', sizeLine_eq]
  · have h' := mt q.mp h
    rw [show min W a = a by omega]
    simp [cappedF, capped_0, lowI_ab, h']
/-- what a mark gives, times the whole -/
def gm (m : Str) (x y W : Int) : Int :=
  if m = Str.ofString "plus" then min W (x + y) else if m = Str.ofString "times" then max 0 (x + y - W) else if m = Str.ofString "leads" then min W (W - x + y)
  else if m = Str.ofString "and" then min x y else if m = Str.ofString "or" then max x y else W - (max x y - min x y)
theorem gm_fr {m : Str} (ha : Fr a W) (hb : Fr b W) : Fr (gm m a b W) W := by
  have := ha.nn
  have := ha.le
  have := hb.nn
  have := hb.le
  unfold gm
  constructor <;> (repeat' split) <;> omega
theorem marks_cases {m : Str} (h : m ∈ marks) : m = Str.ofString "plus" ∨ m = Str.ofString "times" ∨ m = Str.ofString "leads" ∨ m = Str.ofString "and" ∨ m = Str.ofString "or" ∨ m = Str.ofString "same" := by
  simpa [marks] using h
theorem fr_opp (ha : Fr a W) : Fr (W - a) W := ⟨by have := ha.le; omega, by have := ha.nn; omega⟩
theorem given_by_ok {m : Str} {k k7 k5 k6 k3 kl kc : Nat} (hn : 4 < n) (hC : T[kc]? = some comF) (hL : T[kl]? = some (lowestF kc)) (h5 : T[k5]? = some (plusF kl)) (h6 : T[k6]? = some oppositeF) (h7 : T[k7]? = some cappedF) (h3 : T[k3]? = some comparedF) (hT : T[k]? = some (given_byF k7 k5 k6 k3))
    (hW : 0 < W) (hB : W < big) (hm : m ∈ marks) (ha : Fr a W) (hb : Fr b W) : callF T 1000 con n k [.d (.str m), .d (lowI a W), .d (lowI b W)] S = .ok (.d (lowI (gm m a b W) W)) S := by
  obtain ⟨q, rfl⟩ : ∃ m, n = m + 1 := ⟨n - 1, by omega⟩
  rw [call_eq hT rfl]
  show finR S.length (svs _ (given_byF k7 k5 k6 k3).body [some (.d (.str m)), some (.d (lowI a W)), some (.d (lowI b W)), none, none] S) = _
  have pl : ∀ {x y : Int}, Fr x W → Fr y W → callF T 1000 con q k5 [.d (lowI x W), .d (lowI y W)] S = .ok (.d (lowI (x + y) W)) S := fun hx hy => plus_ok (by omega) hC hL h5 hW hB hx hy
  have op : ∀ {x : Int}, callF T 1000 con q k6 [.d (lowI x W)] S = .ok (.d (lowI (W - x) W)) S := fun {x} => opposite_ok (by omega) h6 hW
  have cp : ∀ {x : Int}, callF T 1000 con q k7 [.d (lowI x W)] S = .ok (.d (lowI (min W x) W)) S := fun {x} => capped_ok (by omega) h7 hW
  have cm := compared_ok (con := con) (n := q) (S := S) (by omega) h3 hW hB ha hb
  have a1 := ha.nn
  have a2 := ha.le
  have b1 := hb.nn
  have b2 := hb.le
  rcases marks_cases hm with rfl | rfl | rfl | rfl | rfl | rfl
  · simp [given_byF, given_by_0, pl ha hb, cp, gm]
  · have e : W - min W (W - a + (W - b)) = max 0 (a + b - W) := by omega
    simp [given_byF, given_by_0, given_by_1, op, pl (fr_opp ha) (fr_opp hb), cp, gm, e]
  · simp [given_byF, given_by_0, given_by_1, given_by_2, op, pl (fr_opp ha) hb, cp, gm]
  · by_cases h1 : a = b
    · subst h1
      simp [given_byF, given_by_0, given_by_1, given_by_2, given_by_3, given_by_4, cm, gm, sizeLine_eq]
    · by_cases h2 : a < b
      · have e : min a b = a := by omega
        simp [given_byF, given_by_0, given_by_1, given_by_2, given_by_3, given_by_4, cm, gm, h1, h2, e, sizeLine_eq]
      · have e : min a b = b := by omega
        simp [given_byF, given_by_0, given_by_1, given_by_2, given_by_3, given_by_4, cm, gm, h1, h2, e, sizeLine_eq]
  · by_cases h1 : a = b
    · subst h1
      simp [given_byF, given_by_0, given_by_1, given_by_2, given_by_3, given_by_4, given_by_5, cm, gm, sizeLine_eq]
    · by_cases h2 : a < b
      · have e : max a b = b := by omega
        simp [given_byF, given_by_0, given_by_1, given_by_2, given_by_3, given_by_4, given_by_5, cm, gm, h1, h2, e, sizeLine_eq]
      · have e : max a b = a := by omega
        simp [given_byF, given_by_0, given_by_1, given_by_2, given_by_3, given_by_4, given_by_5, cm, gm, h1, h2, e, sizeLine_eq]
  · by_cases h1 : a = b
    · subst h1
      have e : min W (W - a + a) = W := by omega
      simp [given_byF, given_by_0, given_by_1, given_by_2, given_by_3, given_by_4, given_by_5, given_by_6, cm, gm, sizeLine_eq, op, pl (fr_opp ha) ha, cp, e]
    · by_cases h2 : a < b
      · have e : min W (W - b + a) = W - (max a b - min a b) := by omega
        simp [given_byF, given_by_0, given_by_1, given_by_2, given_by_3, given_by_4, given_by_5, given_by_6, cm, gm, h1, h2, sizeLine_eq, op, pl (fr_opp hb) ha, cp, e]
      · have e : min W (W - a + b) = W - (max a b - min a b) := by omega
        simp [given_byF, given_by_0, given_by_1, given_by_2, given_by_3, given_by_4, given_by_5, given_by_6, cm, gm, h1, h2, sizeLine_eq, op, pl (fr_opp ha) hb, cp, e]
end
end Ht

set_option maxRecDepth 100000
set_option maxHeartbeats 16000000
/-! HtUa: the values of sayings at a table. -/
namespace Ht
open PySem L2 PyProof.Rows
/-- the value of a saying times the whole, or the first unknown that the table lacks -/
def Say.gv (t : Str → Option Int) (W : Int) : Say → Except Str Int
  | .unk x => match t x with
    | some a => .ok a
    | none => .error x
  | .yes => .ok W
  | .no => .ok 0
  | .not a => match a.gv t W with
    | .ok x => .ok (W - x)
    | .error e => .error e
  | .two m a b => match a.gv t W with
    | .ok x => match b.gv t W with
      | .ok y => .ok (gm m x y W)
      | .error e => .error e
    | .error e => .error e
theorem gv_fr {t : Str → Option Int} {W : Int} (hW : 0 < W) (ht : ∀ x a, t x = some a → Fr a W) : ∀ {s : Say} {a : Int}, s.gv t W = .ok a → Fr a W := by
  intro s
  induction s with
  | yes => intro a h; cases h; exact ⟨by omega, by omega⟩
  | no => intro a h; cases h; exact ⟨by omega, by omega⟩
  | unk x =>
    intro a h
    simp only [Say.gv] at h
    split at h
    · rename_i b hb
      cases h
      exact ht x _ hb
    · cases h
  | not a ih =>
    intro z h
    simp only [Say.gv] at h
    split at h
    · rename_i x hx
      cases h
      exact fr_opp (ih hx)
    · cases h
  | two m a b iha ihb =>
    intro z h
    simp only [Say.gv] at h
    split at h
    · rename_i x hx
      split at h
      · rename_i y hy
        cases h
        exact gm_fr (iha hx) (ihb hy)
      · cases h
    · cases h
section
variable {T : List FD} {con : List PyData} {W : Int} {n : Nat}
def valR (x1 : Nat) (S : Sto) (r : Except Str PyData) : R E := match r with
  | .ok v => .ok (.d v) S
  | .error x => .err ⟨x1, some (.str x)⟩ [] S
theorem idx_k {S : Sto} {c : Nat} {kvs : List (Str × PyData)} {k : Str} {v : PyData} (h : S[c]? = some (.dct kvs)) (hv : kvs.lookup k = some v) : idxE (.c c) (.d (.str k)) S = some v := by
  simp [idxE, h, hv]
theorem mark_eqs {m : Str} (h : m ∈ marks) : cmpD .Eq (.str m) (.str (Str.ofString "unknown")) = some false ∧ cmpD .Eq (.str m) (.str (Str.ofString "yes")) = some false ∧ cmpD .Eq (.str m) (.str (Str.ofString "no")) = some false ∧ cmpD .Eq (.str m) (.str (Str.ofString "not")) = some false := by
  rcases marks_cases h with rfl | rfl | rfl | rfl | rfl | rfl <;> simp
structure ValT (T : List FD) (x1 k9 k8 k7 k6 k5 k3 kl kc : Nat) : Prop where
  hC : T[kc]? = some comF
  hL : T[kl]? = some (lowestF kc)
  h5 : T[k5]? = some (plusF kl)
  h6 : T[k6]? = some oppositeF
  h7 : T[k7]? = some cappedF
  h3 : T[k3]? = some comparedF
  h8 : T[k8]? = some (given_byF k7 k5 k6 k3)
  h9 : T[k9]? = some (value_inF x1 k6 k9 k8)
theorem value_in_ok {x1 k9 k8 k7 k6 k5 k3 kl kc c : Nat} {t : Str → Option Int} {kvs : List (Str × PyData)} (V : ValT T x1 k9 k8 k7 k6 k5 k3 kl kc) (hW : 0 < W) (hB : W < big) (ht : ∀ x a, t x = some a → Fr a W) (hk : ∀ x, kvs.lookup x = (t x).map fun a => lowI a W) : ∀ {s : Say} {n : Nat} {S : Sto}, S[c]? = some (.dct kvs) → s.ok → s.deep + 5 < n →
    callF T 1000 con n k9 [.d s.d, .c c] S = valR x1 S (match s.gv t W with
      | .ok a => .ok (lowI a W)
      | .error e => .error e) := by
  intro s
  induction s with
  | yes =>
    intro n S hS ho hn
    obtain ⟨m, rfl⟩ : ∃ m, n = m + 1 := ⟨n - 1, by omega⟩
    rw [call_eq V.h9 rfl]
    show finR S.length (svs _ (value_inF x1 k6 k9 k8).body [some (.d (.tuple [.str "yes"])), some (.c c), none] S) = _
    simp [value_inF, value_in_0, value_in_1, Say.gv, valR, low_top hW, sizeLine_eq]
  | no =>
    intro n S hS ho hn
    obtain ⟨m, rfl⟩ : ∃ m, n = m + 1 := ⟨n - 1, by omega⟩
    rw [call_eq V.h9 rfl]
    show finR S.length (svs _ (value_inF x1 k6 k9 k8).body [some (.d (.tuple [.str "no"])), some (.c c), none] S) = _
    simp [value_inF, value_in_0, value_in_1, value_in_2, Say.gv, valR, low_zero hW, sizeLine_eq]
  | unk x =>
    intro n S hS ho hn
    obtain ⟨m, rfl⟩ : ∃ m, n = m + 1 := ⟨n - 1, by omega⟩
    rw [call_eq V.h9 rfl]
    show finR S.length (svs _ (value_inF x1 k6 k9 k8).body [some (.d (.tuple [.str "unknown", .str x])), some (.c c), none] S) = _
    have hx := hk x
    cases ht1 : t x with
    | none =>
      rw [ht1] at hx
      simp [value_inF, value_in_0, Say.gv, valR, ht1, cmpR_nk hS, hx]
    | some a =>
      rw [ht1] at hx
      simp [value_inF, value_in_0, Say.gv, valR, ht1, cmpR_nk hS, hx, idx_k hS hx]
  | not a ih =>
    intro n S hS ho hn
    simp only [Say.deep] at hn
    obtain ⟨m, rfl⟩ : ∃ m, n = m + 1 := ⟨n - 1, by omega⟩
    rw [call_eq V.h9 rfl]
    show finR S.length (svs _ (value_inF x1 k6 k9 k8).body [some (.d (.tuple [.str "not", a.d])), some (.c c), none] S) = _
    have e1 := ih (n := m) hS ho (by omega)
    cases hg : a.gv t W with
    | error e =>
      rw [hg] at e1
      simp only [valR] at e1
      simp [value_inF, value_in_0, value_in_1, value_in_2, value_in_3, Say.gv, valR, hg, e1]
    | ok x =>
      rw [hg] at e1
      simp only [valR] at e1
      have e2 := opposite_ok (con := con) (a := x) (n := m) (S := S) (by omega) V.h6 hW
      simp [value_inF, value_in_0, value_in_1, value_in_2, value_in_3, Say.gv, valR, hg, e1, e2]
  | two w a b iha ihb =>
    intro n S hS ho hn
    simp only [Say.deep] at hn
    obtain ⟨m, rfl⟩ : ∃ m, n = m + 1 := ⟨n - 1, by omega⟩
    rw [call_eq V.h9 rfl]
    show finR S.length (svs _ (value_inF x1 k6 k9 k8).body [some (.d (.tuple [.str w, a.d, b.d])), some (.c c), none] S) = _
    obtain ⟨q1, q2, q3, q4⟩ := mark_eqs ho.1
    have e1 := iha (n := m) hS ho.2.1 (by omega)
    cases hg : a.gv t W with
    | error e =>
      rw [hg] at e1
      simp only [valR] at e1
      simp [value_inF, value_in_0, value_in_1, value_in_2, value_in_3, value_in_4, Say.gv, valR, hg, e1, q1, q2, q3, q4]
    | ok x =>
      rw [hg] at e1
      simp only [valR] at e1
      have e2 := ihb (n := m) hS ho.2.2 (by omega)
      cases hg2 : b.gv t W with
      | error e =>
        rw [hg2] at e2
        simp only [valR] at e2
        simp [value_inF, value_in_0, value_in_1, value_in_2, value_in_3, value_in_4, value_in_5, Say.gv, valR, hg, hg2, e1, e2, q1, q2, q3, q4]
      | ok y =>
        rw [hg2] at e2
        simp only [valR] at e2
        have e3 := given_by_ok (con := con) (n := m) (S := S) (by omega) V.hC V.hL V.h5 V.h6 V.h7 V.h3 V.h8 hW hB ho.1 (gv_fr hW ht hg) (gv_fr hW ht hg2)
        simp [value_inF, value_in_0, value_in_1, value_in_2, value_in_3, value_in_4, value_in_5, Say.gv, valR, hg, hg2, e1, e2, e3, q1, q2, q3, q4]
/-! ### dict(zip(names, values)) -/
theorem putS_lookup {kvs : List (Str × PyData)} {k x : Str} {v : PyData} (h : (kvs.lookup k).isSome = true) : (putS kvs k v).lookup x = if x = k then some v else kvs.lookup x := by
  induction kvs with
  | nil => simp at h
  | cons p kvs ih =>
    obtain ⟨k', v'⟩ := p
    unfold putS at ih ⊢
    rw [List.map_cons]
    by_cases hk : k' = k
    · subst hk
      simp only [if_true, List.lookup_cons]
      by_cases hx : x = k'
      · subst hx; simp
      · have : (x == k') = false := by simpa using hx
        simp only [this, if_neg hx]
        clear ih h
        induction kvs with
        | nil => rfl
        | cons q kvs ih2 =>
          obtain ⟨k2, v2⟩ := q
          rw [List.map_cons]
          by_cases h2 : k2 = k'
          · subst h2
            simp only [if_true, List.lookup_cons, this]
            exact ih2
          · simp only [if_neg h2, List.lookup_cons]
            split
            · rfl
            · exact ih2
    · have h' : (kvs.lookup k).isSome = true := by
        rw [List.lookup_cons] at h
        have : (k == k') = false := by simpa using fun z : k = k' => hk z.symm
        rw [this] at h
        exact h
      simp only [if_neg hk, List.lookup_cons]
      by_cases hx : x = k'
      · subst hx
        simp [hk]
      · have : (x == k') = false := by simpa using hx
        simp only [this]
        exact ih h'
theorem insS_lookup {kvs : List (Str × PyData)} {k x : Str} {v : PyData} : (insS kvs k v).lookup x = if x = k then some v else kvs.lookup x := by
  unfold insS
  split
  · rename_i h
    exact putS_lookup h
  · rename_i h9
    have h : kvs.lookup k = none := by
      cases e : kvs.lookup k with
      | none => rfl
      | some y => exact absurd (by rw [e]; rfl) h9
    clear h9
    induction kvs with
    | nil =>
      simp only [List.nil_append, List.lookup_cons, List.lookup_nil]
      by_cases hx : x = k
      · subst hx; simp
      · have : (x == k) = false := by simpa using hx
        simp [this, hx]
    | cons p kvs ih =>
      obtain ⟨k', v'⟩ := p
      rw [List.lookup_cons] at h
      rw [List.cons_append, List.lookup_cons, List.lookup_cons]
      split at h
      · cases h
      · rename_i hk
        by_cases hx : x = k'
        · subst hx
          have : ¬ x = k := fun z => by subst z; simp at hk
          simp [this]
        · have : (x == k') = false := by simpa using hx
          simp only [this]
          exact ih h
/-- what stands at a name -/
def zt {α : Type} (ks : List Str) (l : List α) : Str → Option α := fun x => (ks.zip l).lookup x
theorem zt_none {α : Type} {x : Str} : ∀ {ks : List Str} {l : List α}, x ∉ ks → (ks.zip l).lookup x = none
  | [], _, _ => rfl
  | _ :: _, [], _ => rfl
  | k :: ks, a :: l, h => by
    simp only [List.mem_cons, not_or] at h
    rw [List.zip_cons_cons, List.lookup_cons]
    have : (x == k) = false := by simpa using h.1
    simp only [this]
    exact zt_none h.2
theorem mergeS_nodup {ks : List Str} {x : Str} : ∀ {vs : List PyData} {kvs : List (Str × PyData)}, ks.Nodup → (mergeS kvs (ks.zip vs)).lookup x = match (ks.zip vs).lookup x with
    | some v => some v
    | none => kvs.lookup x := by
  induction ks with
  | nil => intro vs kvs _; rfl
  | cons k ks ih =>
    intro vs kvs hn
    cases vs with
    | nil => rfl
    | cons v vs =>
      have hn' := List.nodup_cons.mp hn
      show (mergeS (insS kvs k v) (ks.zip vs)).lookup x = _
      rw [ih hn'.2]
      rw [List.zip_cons_cons, List.lookup_cons]
      by_cases hx : x = k
      · subst hx
        have : (ks.zip vs).lookup x = none := by
          exact zt_none hn'.1
        simp [this, insS_lookup]
      · have : (x == k) = false := by simpa using hx
        simp only [this, insS_lookup, if_neg hx]
theorem strsOf_map : ∀ ks : List Str, strsOf (ks.map .str) = some ks
  | [] => rfl
  | k :: ks => by simp [strsOf, strsOf_map ks]
theorem dz_tt {ks : List Str} {vs : List PyData} {S : Sto} : dzE (.d (.tuple (ks.map .str))) (.d (.tuple vs)) S = .ok (.c S.length) (S ++ [.dct (mergeS [] (ks.zip vs))]) := by
  simp [dzE, seqOf, strsOf_map]
theorem zip_lookup {α : Type} {f : α → PyData} : ∀ {ks : List Str} {l : List α} {x : Str}, (ks.zip (l.map f)).lookup x = ((ks.zip l).lookup x).map f
  | [], _, _ => rfl
  | _ :: _, [], _ => rfl
  | k :: ks, a :: l, x => by
    rw [List.map_cons, List.zip_cons_cons, List.zip_cons_cons, List.lookup_cons, List.lookup_cons]
    split
    · rfl
    · exact zip_lookup
theorem value_at_ok {x1 ka k9 k8 k7 k6 k5 k3 kl kc : Nat} {names : List Str} {as : List Int} {S : Sto} {s : Say} (V : ValT T x1 k9 k8 k7 k6 k5 k3 kl kc) (hA : T[ka]? = some (value_atF k9)) (hW : 0 < W) (hB : W < big) (hnd : names.Nodup) (ha : ∀ a ∈ as, Fr a W) (ho : s.ok) (hn : s.deep + 6 < n) :
    callF T 1000 con n ka [.d s.d, .d (.tuple (names.map .str)), .d (.tuple (as.map fun a => lowI a W))] S = valR x1 S (match s.gv (zt names as) W with
      | .ok a => .ok (lowI a W)
      | .error e => .error e) := by
  obtain ⟨m, rfl⟩ : ∃ m, n = m + 1 := ⟨n - 1, by omega⟩
  rw [call_eq hA rfl]
  show finR S.length (svs _ (value_atF k9).body [some (.d s.d), some (.d (.tuple (names.map .str))), some (.d (.tuple (as.map fun a => lowI a W)))] S) = _
  have hk : ∀ x, (mergeS [] (names.zip (as.map fun a => lowI a W))).lookup x = ((names.zip as).lookup x).map fun a => lowI a W := fun x => by
    rw [mergeS_nodup hnd, zip_lookup]
    cases (names.zip as).lookup x <;> rfl
  have ht : ∀ x a, (names.zip as).lookup x = some a → Fr a W := fun x a h => by
    refine ha a ?_
    have : ∀ {ks : List Str} {l : List Int}, (ks.zip l).lookup x = some a → a ∈ l := by
      intro ks
      induction ks with
      | nil => intro l h; simp at h
      | cons k ks ih =>
        intro l h
        cases l with
        | nil => simp at h
        | cons b l =>
          rw [List.zip_cons_cons, List.lookup_cons] at h
          split at h
          · cases h; exact List.mem_cons_self
          · exact List.mem_cons_of_mem _ (ih h)
    exact this h
  have e := value_in_ok (con := con) (t := zt names as) V hW hB ht hk (c := S.length) (S := S ++ [.dct (mergeS [] (names.zip (as.map fun a => lowI a W)))]) (s := s) (n := m) (by simp) ho (by omega)
  cases hg : s.gv (zt names as) W with
  | ok a =>
    rw [hg] at e
    simp only [valR] at e
    simp [value_atF, value_at_0, dz_tt, e, valR]
  | error x =>
    rw [hg] at e
    simp only [valR] at e
    simp [value_atF, value_at_0, dz_tt, e, valR, finR]
/-! ### the law's own value -/
theorem abs_gm (a b : Int) : ((a - b).natAbs : Int) = max a b - min a b := by omega
theorem in_yn (u : Str) : cmpD .In (.str u) (.tuple [.str "yes", .str "no"]) = some (decide (u ∈ ([Str.ofString "yes", Str.ofString "no"] : List Str))) := in_s (us := [Str.ofString "yes", Str.ofString "no"]) (.inr rfl)
theorem in_ao (u : Str) : cmpD .In (.str u) (.tuple [.str "and", .str "or"]) = some (decide (u ∈ ([Str.ofString "and", Str.ofString "or"] : List Str))) := in_s (us := [Str.ofString "and", Str.ofString "or"]) (.inr rfl)
theorem min_i {i j : Int} : (if j < i then j else i) = min i j := by omega
theorem max_i {i j : Int} : (if j > i then j else i) = max i j := by omega
theorem lgraded_ok {k c : Nat} {t : Str → Option Int} {kvs : List (Str × PyData)} (hT : T[k]? = some (lgradedF k)) (hk : ∀ x, kvs.lookup x = (t x).map .int) : ∀ {s : Say} {n : Nat} {S : Sto} {a : Int}, S[c]? = some (.dct kvs) → s.ok → s.deep < n → s.gv t W = .ok a →
    callF T 1000 con n k [.d s.d, .c c, .d (.int W)] S = .ok (.d (.int a)) S := by
  intro s
  induction s with
  | yes =>
    intro n S z hS ho hn hg
    cases hg
    obtain ⟨m, rfl⟩ : ∃ m, n = m + 1 := ⟨n - 1, by omega⟩
    rw [call_eq hT rfl]
    show finR S.length (svs _ (lgradedF k).body [some (.d (.tuple [.str "yes"])), some (.c c), some (.d (.int W)), none, none] S) = _
    simp [lgradedF, lgraded_0, lgraded_1, sizeLine_eq, in_yn]
  | no =>
    intro n S z hS ho hn hg
    cases hg
    obtain ⟨m, rfl⟩ : ∃ m, n = m + 1 := ⟨n - 1, by omega⟩
    rw [call_eq hT rfl]
    show finR S.length (svs _ (lgradedF k).body [some (.d (.tuple [.str "no"])), some (.c c), some (.d (.int W)), none, none] S) = _
    simp [lgradedF, lgraded_0, lgraded_1, sizeLine_eq, in_yn]
  | unk x =>
    intro n S z hS ho hn hg
    obtain ⟨m, rfl⟩ : ∃ m, n = m + 1 := ⟨n - 1, by omega⟩
    rw [call_eq hT rfl]
    show finR S.length (svs _ (lgradedF k).body [some (.d (.tuple [.str "unknown", .str x])), some (.c c), some (.d (.int W)), none, none] S) = _
    have hx := hk x
    simp only [Say.gv] at hg
    cases ht1 : t x with
    | none => rw [ht1] at hg; cases hg
    | some b =>
      rw [ht1] at hg hx
      cases hg
      simp [lgradedF, lgraded_0, idx_k hS hx]
  | not a ih =>
    intro n S z hS ho hn hg
    simp only [Say.deep] at hn
    obtain ⟨m, rfl⟩ : ∃ m, n = m + 1 := ⟨n - 1, by omega⟩
    rw [call_eq hT rfl]
    show finR S.length (svs _ (lgradedF k).body [some (.d (.tuple [.str "not", a.d])), some (.c c), some (.d (.int W)), none, none] S) = _
    simp only [Say.gv] at hg
    cases hg1 : a.gv t W with
    | error e => rw [hg1] at hg; cases hg
    | ok x =>
      rw [hg1] at hg
      cases hg
      have e1 := ih (n := m) hS ho (by omega) hg1
      simp [lgradedF, lgraded_0, lgraded_1, lgraded_2, lgraded_3, in_yn, sizeLine_eq, e1]
  | two w a b iha ihb =>
    intro n S z hS ho hn hg
    simp only [Say.deep] at hn
    obtain ⟨m, rfl⟩ : ∃ m, n = m + 1 := ⟨n - 1, by omega⟩
    rw [call_eq hT rfl]
    show finR S.length (svs _ (lgradedF k).body [some (.d (.tuple [.str w, a.d, b.d])), some (.c c), some (.d (.int W)), none, none] S) = _
    simp only [Say.gv] at hg
    cases hg1 : a.gv t W with
    | error e => rw [hg1] at hg; cases hg
    | ok x =>
      rw [hg1] at hg
      simp only at hg
      cases hg2 : b.gv t W with
      | error e => rw [hg2] at hg; cases hg
      | ok y =>
        rw [hg2] at hg
        cases hg
        have e1 := iha (n := m) hS ho.2.1 (by omega) hg1
        have e2 := ihb (n := m) hS ho.2.2 (by omega) hg2
        rcases marks_cases ho.1 with rfl | rfl | rfl | rfl | rfl | rfl
        · simp [lgradedF, lgraded_0, lgraded_1, lgraded_2, lgraded_3, lgraded_4, lgraded_5, in_yn, sizeLine_eq, e1, e2, gm, min_i]
        · simp [lgradedF, lgraded_0, lgraded_1, lgraded_2, lgraded_3, lgraded_4, lgraded_5, lgraded_6, in_yn, sizeLine_eq, e1, e2, gm, max_i] <;> omega
        · simp [lgradedF, lgraded_0, lgraded_1, lgraded_2, lgraded_3, lgraded_4, lgraded_5, lgraded_6, lgraded_7, in_yn, sizeLine_eq, e1, e2, gm, min_i]
        · simp [lgradedF, lgraded_0, lgraded_1, lgraded_2, lgraded_3, lgraded_4, lgraded_5, lgraded_6, lgraded_7, lgraded_8, in_yn, in_ao, sizeLine_eq, e1, e2, gm, min_i]
        · simp [lgradedF, lgraded_0, lgraded_1, lgraded_2, lgraded_3, lgraded_4, lgraded_5, lgraded_6, lgraded_7, lgraded_8, in_yn, in_ao, sizeLine_eq, e1, e2, gm, max_i] <;> omega
        · simp [lgradedF, lgraded_0, lgraded_1, lgraded_2, lgraded_3, lgraded_4, lgraded_5, lgraded_6, lgraded_7, lgraded_8, lgraded_9, in_yn, in_ao, sizeLine_eq, e1, e2, gm, abs_gm]
end
end Ht

set_option maxRecDepth 100000
set_option maxHeartbeats 16000000
/-! HtUb: names of a saying, the law's own value at a point. -/
namespace Ht
open PySem L2 PyProof.Rows
def lnames_0 : CS := .ite (.cmp .Eq (.idx (.var 0) (.con (.int 0))) (.con (.str "unknown"))) (.cons (.ret (.ife (.cmp .In (.idx (.var 0) (.con (.int 1))) (.var 1)) (.var 1) (.bin .Add (.var 1) (.lst (.cons (.idx (.var 0) (.con (.int 1))) .nil))))) .nil) .nil
def lnames_1 (k15 : Nat) : CS := .loop (.nam 2) (.seq (.slc (.var 0) (.some (.con (.int 1))) .none)) (.cons (.asg (.nam 1) (.call k15 (.cons (.var 2) (.cons (.var 1) .nil)))) .nil)
def lnames_2 : CS := .ret (.var 1)
def lnamesF (k15 : Nat) : FD := ⟨2, 3, .cons lnames_0 (.cons (lnames_1 k15) (.cons lnames_2 (.nil)))⟩
def lat_0 : CS := .asg (.nam 3) (.con (.int 1))
def lat_1 : CS := .loop (.nam 4) (.seq (.var 2)) (.cons (.asg (.nam 3) (.bin .Mult (.var 3) (.idx (.var 4) (.con (.int 1))))) .nil)
def lat_2 : CS := .asg (.nam 5) (.dct [] .nil)
def lat_3 : CS := .loop (.tup (.cons (.nam 6) (.cons (.nam 4) .nil))) (.zip (.var 1) (.var 2)) (.cons (.sub (.var 5) (.var 6) (.bin .Mult (.idx (.var 4) (.con (.int 0))) (.bin .FloorDiv (.var 3) (.idx (.var 4) (.con (.int 1)))))) .nil)
def lat_4 (k17 k16 : Nat) : CS := .ret (.call k17 (.cons (.call k16 (.cons (.var 0) (.cons (.var 5) (.cons (.var 3) .nil)))) (.cons (.var 3) .nil)))
def latF (k17 k16 : Nat) : FD := ⟨3, 7, .cons lat_0 (.cons lat_1 (.cons lat_2 (.cons lat_3 (.cons (lat_4 k17 k16) (.nil)))))⟩
def lsomev_0 (k13 k12 : Nat) : CS := .asg (.nam 1) (.call k13 (.cons (.var 0) (.cons (.lst (.cons (.con (.int 1)) (.cons (.con (.int 2)) (.cons (.con (.int 3)) (.cons (.con (.int 4)) (.cons (.con (.int 6)) (.cons (.con (.int 7)) (.cons (.con (.int 12)) (.cons (.bin .Add (.con (.int 1)) (.call k12 (.cons (.var 0) (.cons (.con (.int 40)) .nil)))) (.cons (.bin .Add (.bin .Pow (.con (.int 10)) (.con (.int 6))) (.con (.int 3))) .nil)))))))))) .nil)))
def lsomev_1 (k12 k17 : Nat) : CS := .ret (.call k17 (.cons (.call k12 (.cons (.var 0) (.cons (.bin .Add (.var 1) (.con (.int 1))) .nil))) (.cons (.var 1) .nil)))
def lsomevF (k13 k12 k17 : Nat) : FD := ⟨1, 2, .cons (lsomev_0 k13 k12) (.cons (lsomev_1 k12 k17) (.nil))⟩
def lshuf_0 : CS := .par 2 3 (.mk (.lis (.var 1))) (.mk (.lst .nil))
def lshuf_1 (k12 : Nat) : CS := .loop (.nam 4) (.rng1 (.blt .len (.cons (.var 2) .nil))) (.cons (.exp (.app (.var 3) (.popi (.var 2) (.call k12 (.cons (.var 0) (.cons (.blt .len (.cons (.var 2) .nil)) .nil)))))) .nil)
def lshuf_2 : CS := .ret (.blt .tuple (.cons (.var 3) .nil))
def lshufF (k12 : Nat) : FD := ⟨2, 5, .cons lshuf_0 (.cons (lshuf_1 k12) (.cons lshuf_2 (.nil)))⟩
/-! ### names -/
def Say.names : Say → List Str → List Str
  | .unk x, l => if x ∈ l then l else l ++ [x]
  | .not a, l => a.names l
  | .two _ a b, l => b.names (a.names l)
  | _, l => l
theorem names_len : ∀ (s : Say) (l : List Str), (s.names l).length ≤ l.length + s.words
  | .yes, l => by simp [Say.names]
  | .no, l => by simp [Say.names]
  | .unk x, l => by
    simp only [Say.names, Say.words]
    split <;> simp
  | .not a, l => by
    have := names_len a l
    simp only [Say.names, Say.words]
    omega
  | .two _ a b, l => by
    have := names_len a l
    have := names_len b (a.names l)
    simp only [Say.names, Say.words]
    omega
theorem names_pre : ∀ (s : Say) (l : List Str), ∃ r, s.names l = l ++ r
  | .yes, l => ⟨[], by simp [Say.names]⟩
  | .no, l => ⟨[], by simp [Say.names]⟩
  | .unk x, l => by
    simp only [Say.names]
    split
    · exact ⟨[], by simp⟩
    · exact ⟨[x], rfl⟩
  | .not a, l => names_pre a l
  | .two _ a b, l => by
    obtain ⟨r1, h1⟩ := names_pre a l
    obtain ⟨r2, h2⟩ := names_pre b (a.names l)
    exact ⟨r1 ++ r2, by simp only [Say.names]; rw [h2, h1, List.append_assoc]⟩
theorem names_nodup : ∀ (s : Say) {l : List Str}, l.Nodup → (s.names l).Nodup
  | .yes, l, h => h
  | .no, l, h => h
  | .unk x, l, h => by
    simp only [Say.names]
    split
    · exact h
    · rename_i hx
      refine List.nodup_append.mpr ⟨h, by simp, fun a ha b hb z => ?_⟩
      rw [List.mem_singleton] at hb
      subst hb
      subst z
      exact hx ha
  | .not a, l, h => names_nodup a (l := l) h
  | .two _ a b, l, h => names_nodup b (names_nodup a h)
theorem names_sub {V : List Str} : ∀ (s : Say) {l : List Str}, s.over V → (∀ x ∈ l, x ∈ V) → ∀ x ∈ s.names l, x ∈ V
  | .yes, l, _, h => h
  | .no, l, _, h => h
  | .unk x, l, ho, h => by
    simp only [Say.names]
    split
    · exact h
    · intro y hy
      rcases List.mem_append.mp hy with q | q
      · exact h y q
      · rw [List.mem_singleton.mp q]
        exact ho
  | .not a, l, ho, h => names_sub a (l := l) ho h
  | .two _ a b, l, ho, h => names_sub b ho.2 (names_sub a ho.1 h)
/-- the first name that lacks -/
theorem names_miss {t : Str → Option Int} {W : Int} : ∀ (s : Say) {l : List Str}, l.filter (fun x => (t x).isNone) = [] →
    (match s.gv t W with
      | .ok _ => (s.names l).filter (fun x => (t x).isNone) = []
      | .error e => ∃ r, (s.names l).filter (fun x => (t x).isNone) = e :: r)
  | .yes, l, h => h
  | .no, l, h => h
  | .unk x, l, h => by
    simp only [Say.gv, Say.names]
    cases hx : t x with
    | some a =>
      simp only
      split
      · exact h
      · rw [List.filter_append, h]
        simp [hx]
    | none =>
      simp only
      split
      · rename_i hm
        have : x ∈ l.filter (fun x => (t x).isNone) := List.mem_filter.mpr ⟨hm, by simp [hx]⟩
        rw [h] at this
        cases this
      · refine ⟨[], ?_⟩
        rw [List.filter_append, h]
        simp [hx]
  | .not a, l, h => by
    have := names_miss a h (W := W)
    simp only [Say.gv, Say.names]
    cases hg : a.gv t W with
    | ok x => rw [hg] at this; exact this
    | error e => rw [hg] at this; exact this
  | .two _ a b, l, h => by
    have ha := names_miss a h (W := W)
    simp only [Say.gv, Say.names]
    cases hg : a.gv t W with
    | error e =>
      rw [hg] at ha
      obtain ⟨r, hr⟩ := ha
      obtain ⟨r2, h2⟩ := names_pre b (a.names l)
      refine ⟨r ++ r2.filter (fun x => (t x).isNone), ?_⟩
      rw [h2, List.filter_append, hr]
      rfl
    | ok x =>
      rw [hg] at ha
      have hb := names_miss b ha (W := W)
      simp only
      cases hg2 : b.gv t W with
      | ok y => rw [hg2] at hb; exact hb
      | error e => rw [hg2] at hb; exact hb
section
variable {T : List FD} {con : List PyData} {fuel : Nat}
theorem lnames_ok {k : Nat} (hT : T[k]? = some (lnamesF k)) : ∀ {s : Say} {n : Nat} {l : List Str}, s.ok → s.deep < n → l.length + s.words ≤ 16777216 → ∀ S : Sto, callF T fuel con n k [.d s.d, .d (.list (txs l))] S = .ok (.d (.list (txs (s.names l)))) S := by
  intro s
  induction s with
  | yes =>
    intro n l ho hn hl S
    obtain ⟨m, rfl⟩ : ∃ m, n = m + 1 := ⟨n - 1, by omega⟩
    rw [call_eq hT rfl]
    show finR S.length (svs _ (lnamesF k).body [some (.d (.tuple [.str "yes"])), some (.d (.list (txs l))), none] S) = _
    simp [lnamesF, lnames_0, lnames_1, lnames_2, forR, Say.names]
  | no =>
    intro n l ho hn hl S
    obtain ⟨m, rfl⟩ : ∃ m, n = m + 1 := ⟨n - 1, by omega⟩
    rw [call_eq hT rfl]
    show finR S.length (svs _ (lnamesF k).body [some (.d (.tuple [.str "no"])), some (.d (.list (txs l))), none] S) = _
    simp [lnamesF, lnames_0, lnames_1, lnames_2, forR, Say.names]
  | unk x =>
    intro n l ho hn hl S
    obtain ⟨m, rfl⟩ : ∃ m, n = m + 1 := ⟨n - 1, by omega⟩
    rw [call_eq hT rfl]
    show finR S.length (svs _ (lnamesF k).body [some (.d (.tuple [.str "unknown", .str x])), some (.d (.list (txs l))), none] S) = _
    have hin := in_s (u := x) (us := l) (c := .list) (.inl rfl)
    simp only [Say.words] at hl
    by_cases hx : x ∈ l
    · simp [lnamesF, lnames_0, hin, hx, Say.names]
    · have h1 : l.length + 1 ≤ 16777216 := hl
      simp [lnamesF, lnames_0, hin, hx, Say.names, sizeLine_eq, h1]
  | not a ih =>
    intro n l ho hn hl S
    simp only [Say.deep] at hn
    simp only [Say.words] at hl
    obtain ⟨m, rfl⟩ : ∃ m, n = m + 1 := ⟨n - 1, by omega⟩
    rw [call_eq hT rfl]
    show finR S.length (svs _ (lnamesF k).body [some (.d (.tuple [.str "not", a.d])), some (.d (.list (txs l))), none] S) = _
    have e1 := ih (n := m) (l := l) ho (by omega) (by omega) S
    simp [lnamesF, lnames_0, lnames_1, lnames_2, forR, lp1, Say.names, e1]
  | two w a b iha ihb =>
    intro n l ho hn hl S
    simp only [Say.deep] at hn
    simp only [Say.words] at hl
    obtain ⟨m, rfl⟩ : ∃ m, n = m + 1 := ⟨n - 1, by omega⟩
    rw [call_eq hT rfl]
    show finR S.length (svs _ (lnamesF k).body [some (.d (.tuple [.str w, a.d, b.d])), some (.d (.list (txs l))), none] S) = _
    obtain ⟨q1, _⟩ := mark_eqs ho.1
    have e1 := iha (n := m) (l := l) ho.2.1 (by omega) (by omega) S
    have := names_len a l
    have e2 := ihb (n := m) (l := a.names l) ho.2.2 (by omega) (by omega) S
    simp [lnamesF, lnames_0, lnames_1, lnames_2, forR, lp1, Say.names, e1, e2, q1]
/-! ### the law's own value at a point -/
/-- a drawn fraction -/
structure Pt (p : Int × Int) : Prop where
  fr : Fr p.1 p.2
  pos : 0 < p.2
  le : p.2 ≤ 1000003
def ptD (p : Int × Int) : PyData := lowI p.1 p.2
def whole (l : List (Int × Int)) : Int := (l.map fun p => lowB p.1 p.2).foldl (· * ·) 1
def num (W : Int) (p : Int × Int) : Int := lowA p.1 p.2 * (W / lowB p.1 p.2)
theorem foldl_mul : ∀ (l : List Int) (a : Int), l.foldl (· * ·) a = a * l.foldl (· * ·) 1
  | [], a => by simp
  | x :: l, a => by
    rw [List.foldl_cons, List.foldl_cons, foldl_mul l (a * x), foldl_mul l (1 * x), Int.one_mul, Int.mul_assoc]
theorem whole_nil : whole [] = 1 := rfl
theorem whole_cons (p : Int × Int) (l : List (Int × Int)) : whole (p :: l) = lowB p.1 p.2 * whole l := by
  unfold whole
  rw [List.map_cons, List.foldl_cons, foldl_mul, Int.one_mul]
theorem whole_pos : ∀ {l : List (Int × Int)}, (∀ p ∈ l, Pt p) → 0 < whole l
  | [], _ => by rw [whole_nil]; decide
  | p :: l, h => by
    rw [whole_cons]
    exact Int.mul_pos (lowB_pos (h p List.mem_cons_self).pos) (whole_pos fun q hq => h q (List.mem_cons_of_mem _ hq))
theorem whole_lt : ∀ {l : List (Int × Int)}, (∀ p ∈ l, Pt p) → whole l ≤ 2 ^ (20 * l.length)
  | [], _ => by rw [whole_nil]; decide
  | p :: l, h => by
    rw [whole_cons]
    have hp := h p List.mem_cons_self
    have h1 := lowB_le (n := p.1) hp.pos
    have h2 := hp.le
    have h3 := whole_lt fun q hq => h q (List.mem_cons_of_mem _ hq)
    have h4 := whole_pos fun q hq => h q (List.mem_cons_of_mem _ hq)
    calc lowB p.1 p.2 * whole l ≤ 2 ^ 20 * 2 ^ (20 * l.length) := Int.mul_le_mul (by omega) h3 (by omega) (by decide)
      _ = 2 ^ (20 * (p :: l).length) := by rw [← Int.pow_add]; congr 1; simp; omega
theorem whole_dvd : ∀ {l : List (Int × Int)} {p : Int × Int}, p ∈ l → lowB p.1 p.2 ∣ whole l
  | q :: l, p, h => by
    rw [whole_cons]
    rcases List.mem_cons.mp h with z | z
    · rw [z]
      exact Int.dvd_mul_right _ _
    · exact Int.dvd_trans (whole_dvd z) (Int.dvd_mul_left _ _)
theorem num_low {W : Int} {p : Int × Int} (hp : Pt p) (hW : 0 < W) (hd : lowB p.1 p.2 ∣ W) : lowI (num W p) W = lowI p.1 p.2 := by
  refine lowI_congr hW hp.pos ?_
  have h := low_is (n := p.1) hp.pos
  obtain ⟨q, rfl⟩ := hd
  have e : lowB p.1 p.2 * q / lowB p.1 p.2 = q := by
    rw [Int.mul_comm]
    exact Int.mul_ediv_cancel _ (by have := h.pos; omega)
  unfold num
  rw [e]
  calc lowA p.1 p.2 * q * p.2 = (lowA p.1 p.2 * p.2) * q := by rw [Int.mul_assoc, Int.mul_comm q, ← Int.mul_assoc]
    _ = p.1 * lowB p.1 p.2 * q := by rw [h.eq]
    _ = p.1 * (lowB p.1 p.2 * q) := by rw [Int.mul_assoc]
theorem num_fr {W : Int} {p : Int × Int} (hp : Pt p) (hW : 0 < W) (hd : lowB p.1 p.2 ∣ W) : Fr (num W p) W := by
  have h := low_is (n := p.1) hp.pos
  obtain ⟨q, rfl⟩ := hd
  have e : lowB p.1 p.2 * q / lowB p.1 p.2 = q := by
    rw [Int.mul_comm]
    exact Int.mul_ediv_cancel _ (by have := h.pos; omega)
  have hq : 0 < q := by
    have hb := h.pos
    by_cases z : 0 < q
    · exact z
    · exfalso
      have : lowB p.1 p.2 * q ≤ lowB p.1 p.2 * 0 := Int.mul_le_mul_of_nonneg_left (by omega) (by omega)
      omega
  unfold num
  rw [e]
  exact ⟨Int.mul_nonneg (lowA_nn hp.pos hp.fr.nn) (Int.le_of_lt hq), Int.mul_le_mul_of_nonneg_right (lowA_le hp.pos hp.fr.le) (Int.le_of_lt hq)⟩
theorem sub_dct {S : Sto} {c : Nat} {kvs : List (Str × PyData)} {k : Str} {x : PyData} (h : S[c]? = some (.dct kvs)) (hl : kvs.length < 16777216) : subE (.c c) (.d (.str k)) (.d x) S = some (S.set c (.dct (insS kvs k x))) := by
  have hl' : kvs.length < sizeLine := by rw [sizeLine_eq]; exact hl
  simp only [subE, h]
  unfold insS
  cases e : kvs.lookup k with
  | some v => simp [hl']
  | none => simp [hl']
theorem insS_len (kvs : List (Str × PyData)) (k : Str) (v : PyData) : (insS kvs k v).length ≤ kvs.length + 1 := by
  unfold insS
  split
  · unfold putS
    simp
  · simp
abbrev lat_b1 : CSs := .cons (.asg (.nam 3) (.bin .Mult (.var 3) (.idx (.var 4) (.con (.int 1))))) .nil
abbrev lat_b3 : CSs := .cons (.sub (.var 5) (.var 6) (.bin .Mult (.idx (.var 4) (.con (.int 0))) (.bin .FloorDiv (.var 3) (.idx (.var 4) (.con (.int 1)))))) .nil
theorem pt_b {p : Int × Int} (h : Pt p) : 0 < lowB p.1 p.2 ∧ lowB p.1 p.2 ≤ 1000003 ∧ 0 ≤ lowA p.1 p.2 ∧ lowA p.1 p.2 ≤ 1000003 := by
  have h1 := lowB_le (n := p.1) h.pos
  have h2 := h.le
  have h3 := lowB_pos (n := p.1) h.pos
  have h4 := lowA_nn h.pos h.fr.nn
  have h5 := lowA_le h.pos h.fr.le
  omega
theorem lat_loop1 {P : Ph} {all : List PyData} {a0 a1 a2 a5 a6 : Option E} {S : Sto} : ∀ (l : List (Int × Int)) (v : Int) (o : Option E), (∀ p ∈ l, Pt p) →
    ∃ o', forR none all (lp1 P (.nam 4) lat_b1) (l.map ptD) [a0, a1, a2, some (.d (.int v)), o, a5, a6] S = .ok (.nxt [a0, a1, a2, some (.d (.int (v * whole l))), o', a5, a6]) S
  | [], v, o, _ => ⟨o, by rw [List.map_nil, forR, whole_nil, Int.mul_one]⟩
  | p :: l, v, o, h => by
    obtain ⟨o', e⟩ := lat_loop1 (P := P) (all := all) (a0 := a0) (a1 := a1) (a2 := a2) (a5 := a5) (a6 := a6) (S := S) l (v * lowB p.1 p.2) (some (.d (ptD p))) fun q hq => h q (List.mem_cons_of_mem _ hq)
    refine ⟨o', ?_⟩
    have hb := pt_b (h p List.mem_cons_self)
    have hm := mul_s' (i := v) (j := lowB p.1 p.2) (by omega) (by omega)
    rw [List.map_cons, forR_cons (Γ1 := [a0, a1, a2, some (.d (.int (v * lowB p.1 p.2))), some (.d (ptD p)), a5, a6]) (S1 := S) (by simp [lp1, ptD, lowI_ab, hm]) (by trivial), e, whole_cons, Int.mul_assoc]
theorem lat_loop3 {P : Ph} {all : List PyData} {a0 a1 a2 : Option E} {W : Int} {c : Nat} : ∀ (ks : List Str) (l : List (Int × Int)) (kvs : List (Str × PyData)) (o o2 : Option E) (S : Sto), (∀ p ∈ l, Pt p) → S[c]? = some (.dct kvs) → kvs.length + l.length < 16777216 →
    ∃ o' o2', forR none all (lp1 P (.tup (.cons (.nam 6) (.cons (.nam 4) .nil))) lat_b3) (((txs ks).zip (l.map ptD)).map fun p => .tuple [p.1, p.2]) [a0, a1, a2, some (.d (.int W)), o, some (.c c), o2] S =
      .ok (.nxt [a0, a1, a2, some (.d (.int W)), o', some (.c c), o2']) (S.set c (.dct (mergeS kvs (ks.zip (l.map fun p => .int (num W p))))))
  | [], l, kvs, o, o2, S, _, hS, _ => ⟨o, o2, by simp [forR, mergeS, set_same hS]⟩
  | k :: ks, [], kvs, o, o2, S, _, hS, _ => ⟨o, o2, by simp [forR, mergeS, set_same hS]⟩
  | k :: ks, p :: l, kvs, o, o2, S, h, hS, hl => by
    simp only [List.length_cons] at hl
    have hins := insS_len kvs k (.int (num W p))
    have hS' : (S.set c (.dct (insS kvs k (.int (num W p)))))[c]? = some (.dct (insS kvs k (.int (num W p)))) := set_at hS
    obtain ⟨o', o2', e⟩ := lat_loop3 (P := P) (all := all) (a0 := a0) (a1 := a1) (a2 := a2) (W := W) (c := c) ks l (insS kvs k (.int (num W p))) (some (.d (ptD p))) (some (.d (.str k))) _ (fun q hq => h q (List.mem_cons_of_mem _ hq)) hS' (by omega)
    refine ⟨o', o2', ?_⟩
    have hb := pt_b (h p List.mem_cons_self)
    have hd := div_i (i := W) (j := lowB p.1 p.2) ⟨by omega, log_small (by omega) (by omega)⟩
    rw [Int.fdiv_eq_ediv_of_nonneg _ (by omega)] at hd
    have hm := mul_s (i := lowA p.1 p.2) (j := W / lowB p.1 p.2) (by omega) (by omega)
    have hs := sub_dct (k := k) (x := .int (lowA p.1 p.2 * (W / lowB p.1 p.2))) hS (by omega)
    rw [show ((txs (k :: ks)).zip ((p :: l).map ptD)).map (fun p => PyData.tuple [p.1, p.2]) = .tuple [.str k, ptD p] :: ((txs ks).zip (l.map ptD)).map (fun p => PyData.tuple [p.1, p.2]) from rfl, forR_cons (Γ1 := [a0, a1, a2, some (.d (.int W)), some (.d (ptD p)), some (.c c), some (.d (.str k))]) (S1 := S.set c (.dct (insS kvs k (.int (num W p))))) (by simp [lp1, ptD, lowI_ab, hd, hm, hs, num]) (by trivial), e, List.set_set]
    rfl
theorem big_whole {l : List (Int × Int)} (h : ∀ p ∈ l, Pt p) (hl : l.length ≤ 11) : whole l < big := by
  have h1 := whole_lt h
  have h2 : (2 : Int) ^ (20 * l.length) ≤ 2 ^ 220 := by
    have : (2 : Nat) ^ (20 * l.length) ≤ 2 ^ 220 := Nat.pow_le_pow_right (by decide) (by omega)
    exact_mod_cast this
  have h3 : (2 : Int) ^ 220 < big := by decide
  omega
theorem lat_ok {k kg kl n : Nat} {s : Say} {names : List Str} {l : List (Int × Int)} {S : Sto} {a : Int} (hn : s.deep + 1 < n) (hL : T[kl]? = some lowF) (hG : T[kg]? = some (lgradedF kg)) (hT : T[k]? = some (latF kl kg)) (ho : s.ok) (hnd : names.Nodup) (hp : ∀ p ∈ l, Pt p) (hl : l.length ≤ 11)
    (hg : s.gv (zt names (l.map (num (whole l)))) (whole l) = .ok a) :
    callF T 1000 con n k [.d s.d, .d (.tuple (txs names)), .d (.tuple (l.map ptD))] S = .ok (.d (lowI a (whole l))) S := by
  obtain ⟨m, rfl⟩ : ∃ m, n = m + 1 := ⟨n - 1, by omega⟩
  rw [call_eq hT rfl]
  show finR S.length (svs _ (latF kl kg).body [some (.d s.d), some (.d (.tuple (txs names))), some (.d (.tuple (l.map ptD))), none, none, none, none] S) = _
  obtain ⟨o1, e1⟩ := lat_loop1 (P := ⟨callF T 1000 con m, 1000, con⟩) (all := l.map ptD) (a0 := some (.d s.d)) (a1 := some (.d (.tuple (txs names)))) (a2 := some (.d (.tuple (l.map ptD)))) (a5 := none) (a6 := none) (S := S) l 1 none hp
  rw [Int.one_mul] at e1
  obtain ⟨o2, o3, e2⟩ := lat_loop3 (P := ⟨callF T 1000 con m, 1000, con⟩) (all := ((txs names).zip (l.map ptD)).map fun p => .tuple [p.1, p.2]) (a0 := some (.d s.d)) (a1 := some (.d (.tuple (txs names)))) (a2 := some (.d (.tuple (l.map ptD)))) (W := whole l) (c := S.length) names l [] o1 none (S ++ [.dct []]) hp (by simp) (by simp; omega)
  have hW := whole_pos hp
  have hB := big_whole hp hl
  have e3 := lgraded_ok (con := con) (W := whole l) (c := S.length) (t := zt names (l.map (num (whole l)))) (kvs := mergeS [] (names.zip (l.map fun p => .int (num (whole l) p)))) hG (fun x => by
    rw [mergeS_nodup hnd]
    have : (l.map fun p => PyData.int (num (whole l) p)) = (l.map (num (whole l))).map .int := by simp
    rw [this, zip_lookup]
    unfold zt
    cases (names.zip (l.map (num (whole l)))).lookup x <;> rfl) (s := s) (n := m) (S := S ++ [.dct (mergeS [] (names.zip (l.map fun p => .int (num (whole l) p))))]) (by simp) ho (by omega) hg
  have e4 := low_ok (con := con) (n := m) (a := a) (S := S ++ [.dct (mergeS [] (names.zip (l.map fun p => .int (num (whole l) p))))]) (by omega) hL hW (by unfold big at hB; omega)
  have hdk : dctK [] [] = some [] := by simp [dctK]
  rw [set_app] at e2
  simp only [latF, svs_cons, svs_nil, lat_0, lat_1, lat_2, lat_3, lat_4, sv_asg, ev_con, R.bind_ok, putT_nam, putR_some, setG_0, setG_s, thenR_nxt, sv_loop, evI_seq, ev_var, varR_0, varR_s, seqI_tuple, e1, ev_dct, evD_nil, dctR, hdk, evI_zip, zipR_tt, e2, sv_ret, ev_call, evs_cons, evs_nil, e3, callR_ok, e4, thenR_ret, finR_app]
end
end Ht

set_option maxRecDepth 100000
set_option maxHeartbeats 16000000
/-! HtUp: a saying put for an unknown. -/
namespace Ht
open PySem L2 PyProof.Rows
def occur_0 : CS := .ite (.cmp .Eq (.idx (.var 0) (.con (.int 0))) (.con (.str "unknown"))) (.cons (.ret (.ife (.cmp .Eq (.idx (.var 0) (.con (.int 1))) (.var 1)) (.con (.int 1)) (.con (.int 0)))) .nil) .nil
def occur_1 (k3 k0 : Nat) : CS := .ret (.blt .sum (.cons (.lc (.call k3 (.cons (.var 2) (.cons (.var 1) .nil))) (.nam 2) (.seq (.call k0 (.cons (.var 0) .nil))) .none [2]) .nil))
def occurF (k3 k0 : Nat) : FD := ⟨2, 3, .cons occur_0 (.cons (occur_1 k3 k0) (.nil))⟩
def checked_0 (k1 x0 g0 : Nat) : CS := .ite (.cmp .Gt (.call k1 (.cons (.var 0) .nil)) (.glo g0)) (.cons (.rais x0 (.con (.str "words"))) .nil) .nil
def checked_1 (x0 k2 g1 : Nat) : CS := .ite (.cmp .Gt (.call k2 (.cons (.var 0) .nil)) (.glo g1)) (.cons (.rais x0 (.con (.str "depth"))) .nil) .nil
def checked_2 : CS := .ret (.var 0)
def checkedF (k1 x0 g0 k2 g1 : Nat) : FD := ⟨1, 1, .cons (checked_0 k1 x0 g0) (.cons (checked_1 x0 k2 g1) (.cons checked_2 (.nil)))⟩
def putf_0 : CS := .ite (.cmp .Eq (.idx (.var 0) (.con (.int 0))) (.con (.str "unknown"))) (.cons (.ret (.ife (.cmp .Eq (.idx (.var 0) (.con (.int 1))) (.var 1)) (.var 2) (.var 0))) .nil) .nil
def putf_1 (k5 k0 : Nat) : CS := .ret (.bin .Add (.tup (.cons (.idx (.var 0) (.con (.int 0))) .nil)) (.blt .tuple (.cons (.lc (.call k5 (.cons (.var 3) (.cons (.var 1) (.cons (.var 2) .nil)))) (.nam 3) (.seq (.call k0 (.cons (.var 0) .nil))) .none [3]) .nil)))
def putfF (k5 k0 : Nat) : FD := ⟨3, 4, .cons putf_0 (.cons (putf_1 k5 k0) (.nil))⟩
def putfor_0 (k1 k3 x0 g0 : Nat) : CS := .ite (.cmp .Gt (.bin .Add (.call k1 (.cons (.var 0) .nil)) (.bin .Mult (.call k3 (.cons (.var 0) (.cons (.var 1) .nil))) (.bin .Sub (.call k1 (.cons (.var 2) .nil)) (.con (.int 1))))) (.glo g0)) (.cons (.rais x0 (.con (.str "words"))) .nil) .nil
def putfor_1 (k4 k5 : Nat) : CS := .ret (.call k4 (.cons (.call k5 (.cons (.var 0) (.cons (.var 1) (.cons (.var 2) .nil)))) .nil))
def putforF (k1 k3 x0 g0 k4 k5 : Nat) : FD := ⟨3, 3, .cons (putfor_0 k1 k3 x0 g0) (.cons (putfor_1 k4 k5) (.nil))⟩
def used_0 : CS := .ite (.cmp .Eq (.var 1) (.con (.int 0))) (.cons (.ret (.tup (.cons (.con (.str "yes")) .nil))) .nil) .nil
def used_1 (k1 x0 g0 : Nat) : CS := .ite (.cmp .Gt (.bin .Sub (.bin .Mult (.var 1) (.bin .Add (.call k1 (.cons (.var 0) .nil)) (.con (.int 1)))) (.con (.int 1))) (.glo g0)) (.cons (.rais x0 (.con (.str "words"))) .nil) .nil
def used_2 (x0 k2 g1 : Nat) : CS := .ite (.cmp .Gt (.bin .Sub (.bin .Add (.call k2 (.cons (.var 0) .nil)) (.var 1)) (.con (.int 1))) (.glo g1)) (.cons (.rais x0 (.con (.str "depth"))) .nil) .nil
def used_3 : CS := .asg (.nam 2) (.var 0)
def used_4 : CS := .loop (.nam 3) (.rng1 (.bin .Sub (.var 1) (.con (.int 1)))) (.cons (.asg (.nam 2) (.tup (.cons (.con (.str "times")) (.cons (.var 0) (.cons (.var 2) .nil))))) .nil)
def used_5 : CS := .ret (.var 2)
def usedF (k1 x0 g0 k2 g1 : Nat) : FD := ⟨2, 4, .cons used_0 (.cons (used_1 k1 x0 g0) (.cons (used_2 x0 k2 g1) (.cons used_3 (.cons used_4 (.cons used_5 (.nil))))))⟩
def lsize_0 : CS := .ite (.and (.cmp .Eq (.idx (.var 0) (.con (.int 0))) (.con (.str "unknown"))) (.cmp .Eq (.idx (.var 0) (.con (.int 1))) (.var 1))) (.cons (.ret (.tup (.cons (.var 2) (.cons (.var 3) .nil)))) .nil) .nil
def lsize_1 : CS := .ite (.cmp .In (.idx (.var 0) (.con (.int 0))) (.tup (.cons (.con (.str "unknown")) (.cons (.con (.str "yes")) (.cons (.con (.str "no")) .nil))))) (.cons (.ret (.tup (.cons (.con (.int 1)) (.cons (.con (.int 0)) .nil)))) .nil) .nil
def lsize_2 : CS := .asg (.tup (.cons (.nam 4) (.cons (.nam 5) .nil))) (.tup (.cons (.con (.int 1)) (.cons (.con (.int 0)) .nil)))
def lsize_3 (k21 : Nat) : CS := .loop (.nam 6) (.seq (.slc (.var 0) (.some (.con (.int 1))) .none)) (.cons (.asg (.tup (.cons (.nam 7) (.cons (.nam 8) .nil))) (.call k21 (.cons (.var 6) (.cons (.var 1) (.cons (.var 2) (.cons (.var 3) .nil)))))) (.cons (.asg (.nam 4) (.bin .Add (.var 4) (.var 7))) (.cons (.asg (.nam 5) (.blt .max2 (.cons (.var 5) (.cons (.bin .Add (.var 8) (.con (.int 1))) .nil)))) .nil)))
def lsize_4 : CS := .ret (.tup (.cons (.var 4) (.cons (.var 5) .nil)))
def lsizeF (k21 : Nat) : FD := ⟨4, 9, .cons lsize_0 (.cons lsize_1 (.cons lsize_2 (.cons (lsize_3 k21) (.cons lsize_4 (.nil)))))⟩
def lput_0 : CS := .ite (.cmp .Eq (.idx (.var 0) (.con (.int 0))) (.con (.str "unknown"))) (.cons (.ret (.ife (.cmp .Eq (.idx (.var 0) (.con (.int 1))) (.var 1)) (.var 2) (.var 0))) .nil) .nil
def lput_1 (k22 : Nat) : CS := .ret (.bin .Add (.tup (.cons (.idx (.var 0) (.con (.int 0))) .nil)) (.blt .tuple (.cons (.lc (.call k22 (.cons (.var 3) (.cons (.var 1) (.cons (.var 2) .nil)))) (.nam 3) (.seq (.slc (.var 0) (.some (.con (.int 1))) .none)) .none [3]) .nil)))
def lputF (k22 : Nat) : FD := ⟨3, 4, .cons lput_0 (.cons (lput_1 k22) (.nil))⟩
def lfar_0 : CS := .ite (.cmp .Gt (.var 0) (.con (.int 1000))) (.cons (.ret (.con (.str "words"))) .nil) .nil
def lfar_1 : CS := .ret (.ife (.cmp .Gt (.var 1) (.con (.int 60))) (.con (.str "depth")) (.con .none))
def lfarF : FD := ⟨2, 2, .cons lfar_0 (.cons lfar_1 (.nil))⟩
def Say.occ (x : Str) : Say → Nat
  | .unk y => if y = x then 1 else 0
  | .not a => a.occ x
  | .two _ a b => a.occ x + b.occ x
  | _ => 0
def Say.put (x : Str) : Say → Say → Say
  | .unk y, o => if y = x then o else .unk y
  | .not a, o => .not (a.put x o)
  | .two m a b, o => .two m (a.put x o) (b.put x o)
  | .yes, _ => .yes
  | .no, _ => .no
theorem words_pos : ∀ s : Say, 0 < s.words
  | .yes => by simp [Say.words]
  | .no => by simp [Say.words]
  | .unk _ => by simp [Say.words]
  | .not _ => by simp [Say.words]
  | .two _ _ _ => by simp [Say.words]
theorem put_words {x : Str} {o : Say} : ∀ s : Say, (s.put x o).words + s.occ x = s.words + s.occ x * o.words
  | .yes => by simp [Say.put, Say.occ, Say.words]
  | .no => by simp [Say.put, Say.occ, Say.words]
  | .unk y => by
    simp only [Say.put, Say.occ, Say.words]
    split <;> simp [Say.words] <;> omega
  | .not a => by
    have := put_words (x := x) (o := o) a
    simp only [Say.put, Say.occ, Say.words]
    omega
  | .two m a b => by
    have := put_words (x := x) (o := o) a
    have := put_words (x := x) (o := o) b
    simp only [Say.put, Say.occ, Say.words, Nat.add_mul]
    omega
theorem put_deep {x : Str} {o : Say} : ∀ s : Say, (s.put x o).deep ≤ s.deep + o.deep
  | .yes => by simp [Say.put, Say.deep]
  | .no => by simp [Say.put, Say.deep]
  | .unk y => by
    simp only [Say.put, Say.deep]
    split <;> simp [Say.deep]
  | .not a => by
    have := put_deep (x := x) (o := o) a
    simp only [Say.put, Say.deep]
    omega
  | .two m a b => by
    have := put_deep (x := x) (o := o) a
    have := put_deep (x := x) (o := o) b
    simp only [Say.put, Say.deep]
    omega
theorem put_ok' {x : Str} {o : Say} (h : o.ok) : ∀ {s : Say}, s.ok → (s.put x o).ok
  | .yes, _ => trivial
  | .no, _ => trivial
  | .unk y, _ => by
    simp only [Say.put]
    split
    · exact h
    · trivial
  | .not a, ho => put_ok' (s := a) h ho
  | .two m a b, ho => ⟨ho.1, put_ok' h ho.2.1, put_ok' h ho.2.2⟩
theorem put_over {x : Str} {o : Say} {l : List Str} (h : o.over l) : ∀ {s : Say}, s.over l → (s.put x o).over l
  | .yes, _ => trivial
  | .no, _ => trivial
  | .unk y, ho => by
    simp only [Say.put]
    split
    · exact h
    · exact ho
  | .not a, ho => put_over (s := a) h ho
  | .two m a b, ho => ⟨put_over h ho.1, put_over h ho.2⟩
theorem put_yes {x : Str} : ∀ s : Say, (s.put x .yes).words = s.words ∧ (s.put x .yes).deep = s.deep
  | .yes => ⟨rfl, rfl⟩
  | .no => ⟨rfl, rfl⟩
  | .unk y => by
    simp only [Say.put]
    split <;> exact ⟨rfl, rfl⟩
  | .not a => by
    have := put_yes (x := x) a
    simp only [Say.put, Say.words, Say.deep, this, and_self]
  | .two m a b => by
    have := put_yes (x := x) a
    have := put_yes (x := x) b
    simp only [Say.put, Say.words, Say.deep, this, *, and_self]
theorem over_mono {l l' : List Str} (h : ∀ x ∈ l, x ∈ l') : ∀ {s : Say}, s.over l → s.over l'
  | .yes, _ => trivial
  | .no, _ => trivial
  | .unk y, ho => h y ho
  | .not a, ho => over_mono (s := a) h ho
  | .two m a b, ho => ⟨over_mono h ho.1, over_mono h ho.2⟩
/-- a put saying's value -/
theorem gv_put {x : Str} {o : Say} {t t' : Str → Option Int} {W v : Int} (ho : o.gv t W = .ok v) (hx : t' x = some v) (ht : ∀ y, y ≠ x → t' y = t y) : ∀ s : Say, (s.put x o).gv t W = s.gv t' W
  | .yes => rfl
  | .no => rfl
  | .unk y => by
    simp only [Say.put]
    split
    · rename_i q
      subst q
      simp only [Say.gv, hx, ho]
    · rename_i q
      simp only [Say.gv, ht y q]
  | .not a => by
    simp only [Say.put, Say.gv, gv_put ho hx ht a]
  | .two m a b => by
    simp only [Say.put, Say.gv, gv_put ho hx ht a, gv_put ho hx ht b]
theorem gv_some {t : Str → Option Int} {W : Int} {l : List Str} (ht : ∀ x ∈ l, ∃ a, t x = some a) : ∀ {s : Say}, s.over l → ∃ a, s.gv t W = .ok a
  | .yes, _ => ⟨_, rfl⟩
  | .no, _ => ⟨_, rfl⟩
  | .unk y, ho => by
    obtain ⟨a, h⟩ := ht y ho
    exact ⟨a, by simp [Say.gv, h]⟩
  | .not a, ho => by
    obtain ⟨x, h⟩ := gv_some (W := W) (s := a) ht ho
    exact ⟨W - x, by simp [Say.gv, h]⟩
  | .two m a b, ho => by
    obtain ⟨x, h⟩ := gv_some (W := W) (s := a) ht ho.1
    obtain ⟨y, h2⟩ := gv_some (W := W) (s := b) ht ho.2
    exact ⟨gm m x y W, by simp [Say.gv, h, h2]⟩
/-- sayings can be shown -/
theorem say_neat {l : List Str} (hl : ∀ x ∈ l, shortS 8 x = true) : ∀ {s : Say}, s.ok → s.over l → Neat s.d (s.deep + 1) (20 * s.words)
  | .yes, _, _ => (neat_tup (neatL_cons (b1 := 8) (b2 := 0) (neat_str (by decide +kernel)) neatL_nil) (n := 0)).mono (by simp [Say.deep]) (by simp [Say.words])
  | .no, _, _ => (neat_tup (neatL_cons (b1 := 8) (b2 := 0) (neat_str (by decide +kernel)) neatL_nil) (n := 0)).mono (by simp [Say.deep]) (by simp [Say.words])
  | .unk x, _, h => (neat_tup (neatL_cons (b1 := 8) (neat_str (by decide +kernel)) (neatL_cons (b1 := 8) (b2 := 0) (neat_str (hl x h)) neatL_nil)) (n := 0)).mono (by simp [Say.deep]) (by simp [Say.words])
  | .not a, ho, h => (neat_tup (neatL_cons (b1 := 8) (neat_str (by decide +kernel)) (neatL_cons (b2 := 0) (say_neat (s := a) hl ho h) neatL_nil))).mono (by simp [Say.deep]) (by simp only [Say.words]; omega)
  | .two m a b, ho, h => (neat_tup (neatL_cons (b1 := 8) (neat_str ((by decide +kernel : ∀ x ∈ marks, shortS 8 x = true) m ho.1)) (neatL_cons ((say_neat (s := a) hl ho.2.1 h.1).mono (n' := max a.deep b.deep + 1) (by omega) (Nat.le_refl _)) (neatL_cons (b2 := 0) ((say_neat (s := b) hl ho.2.2 h.2).mono (n' := max a.deep b.deep + 1) (by omega) (Nat.le_refl _)) neatL_nil)))).mono (by simp [Say.deep]) (by simp only [Say.words]; omega)
section
variable {T : List FD} {fuel : Nat} {con : List PyData}
theorem occur_ok {kp k : Nat} {x : Str} (h0 : T[kp]? = some partsF) (h1 : T[k]? = some (occurF k kp)) : ∀ {s : Say} {n : Nat}, s.deep + 1 < n → s.ok → ∀ S : Sto, callF T fuel con n k [.d s.d, .d (.str x)] S = .ok (.d (.int (s.occ x))) S := by
  intro s
  induction s with
  | unk y =>
    intro n hn h S
    obtain ⟨m, rfl⟩ : ∃ m, n = m + 1 := ⟨n - 1, by omega⟩
    rw [call_eq h1 rfl]
    show finR S.length (svs _ (occurF k kp).body [some (.d (.tuple [.str "unknown", .str y])), some (.d (.str x)), none] S) = _
    by_cases q : y = x
    · subst q
      simp [occurF, occur_0, occur_1, Say.occ]
    · have q' : (y == x) = false := beq_eq_false_iff_ne.mpr q
      simp [occurF, occur_0, occur_1, Say.occ, eq_s, q, q']
  | not a ih =>
    intro n hn h S
    obtain ⟨m, rfl⟩ : ∃ m, n = m + 1 := ⟨n - 1, by omega⟩
    simp only [Say.deep] at hn
    rw [call_eq h1 rfl]
    show finR S.length (svs _ (occurF k kp).body [some (.d (.tuple [.str "not", a.d])), some (.d (.str x)), none] S) = _
    have e0 := parts_ok (fuel := fuel) (con := con) (n := m) h0 (by omega) (s := .not a) h S
    have e1 := ih (n := m) (by omega) h S
    simp only [Say.d] at e0
    simp [occurF, occur_0, occur_1, e0, e1, Say.parts, lcR, lc1, sizeLine_eq, bltD, intsOf, Say.occ]
  | two w a b iha ihb =>
    intro n hn h S
    obtain ⟨m, rfl⟩ : ∃ m, n = m + 1 := ⟨n - 1, by omega⟩
    simp only [Say.deep] at hn
    rw [call_eq h1 rfl]
    show finR S.length (svs _ (occurF k kp).body [some (.d (.tuple [.str w, a.d, b.d])), some (.d (.str x)), none] S) = _
    have e0 := parts_ok (fuel := fuel) (con := con) (n := m) h0 (by omega) (s := .two w a b) h S
    have e1 := iha (n := m) (by omega) h.2.1 S
    have e2 := ihb (n := m) (by omega) h.2.2 S
    simp only [Say.d] at e0
    simp [occurF, occur_0, occur_1, e0, e1, e2, Say.parts, lcR, lc1, sizeLine_eq, bltD, intsOf, Say.occ, eq_mark h.1]
  | _ =>
    intro n hn h S
    obtain ⟨m, rfl⟩ : ∃ m, n = m + 1 := ⟨n - 1, by omega⟩
    rw [call_eq h1 rfl]
    show finR S.length (svs _ (occurF k kp).body [some (.d (Say.d _)), some (.d (.str x)), none] S) = _
    have e0 := parts_ok (fuel := fuel) (con := con) (n := m) h0 (by omega) h S
    simp only [Say.d] at e0 ⊢
    simp [occurF, occur_0, occur_1, e0, Say.parts, lcR, lc1, sizeLine_eq, bltD, intsOf, Say.occ]
theorem putf_ok {kp k : Nat} {x : Str} {o : Say} (h0 : T[kp]? = some partsF) (h1 : T[k]? = some (putfF k kp)) : ∀ {s : Say} {n : Nat}, s.deep + 1 < n → s.ok → ∀ S : Sto, callF T fuel con n k [.d s.d, .d (.str x), .d o.d] S = .ok (.d (s.put x o).d) S := by
  intro s
  induction s with
  | unk y =>
    intro n hn h S
    obtain ⟨m, rfl⟩ : ∃ m, n = m + 1 := ⟨n - 1, by omega⟩
    rw [call_eq h1 rfl]
    show finR S.length (svs _ (putfF k kp).body [some (.d (.tuple [.str "unknown", .str y])), some (.d (.str x)), some (.d o.d), none] S) = _
    by_cases q : y = x
    · subst q
      simp [putfF, putf_0, putf_1, Say.put]
    · have q' : (y == x) = false := beq_eq_false_iff_ne.mpr q
      simp [putfF, putf_0, putf_1, Say.put, eq_s, q, q', Say.d]
  | not a ih =>
    intro n hn h S
    obtain ⟨m, rfl⟩ : ∃ m, n = m + 1 := ⟨n - 1, by omega⟩
    simp only [Say.deep] at hn
    rw [call_eq h1 rfl]
    show finR S.length (svs _ (putfF k kp).body [some (.d (.tuple [.str "not", a.d])), some (.d (.str x)), some (.d o.d), none] S) = _
    have e0 := parts_ok (fuel := fuel) (con := con) (n := m) h0 (by omega) (s := .not a) h S
    have e1 := ih (n := m) (by omega) h S
    simp only [Say.d] at e0
    simp [putfF, putf_0, putf_1, e0, e1, Say.parts, lcR, lc1, sizeLine_eq, Say.put, Say.d]
  | two w a b iha ihb =>
    intro n hn h S
    obtain ⟨m, rfl⟩ : ∃ m, n = m + 1 := ⟨n - 1, by omega⟩
    simp only [Say.deep] at hn
    rw [call_eq h1 rfl]
    show finR S.length (svs _ (putfF k kp).body [some (.d (.tuple [.str w, a.d, b.d])), some (.d (.str x)), some (.d o.d), none] S) = _
    have e0 := parts_ok (fuel := fuel) (con := con) (n := m) h0 (by omega) (s := .two w a b) h S
    have e1 := iha (n := m) (by omega) h.2.1 S
    have e2 := ihb (n := m) (by omega) h.2.2 S
    simp only [Say.d] at e0
    simp [putfF, putf_0, putf_1, e0, e1, e2, Say.parts, lcR, lc1, sizeLine_eq, Say.put, Say.d, eq_mark h.1]
  | _ =>
    intro n hn h S
    obtain ⟨m, rfl⟩ : ∃ m, n = m + 1 := ⟨n - 1, by omega⟩
    rw [call_eq h1 rfl]
    show finR S.length (svs _ (putfF k kp).body [some (.d (Say.d _)), some (.d (.str x)), some (.d o.d), none] S) = _
    have e0 := parts_ok (fuel := fuel) (con := con) (n := m) h0 (by omega) h S
    simp only [Say.d] at e0 ⊢
    simp [putfF, putf_0, putf_1, e0, Say.parts, lcR, lc1, sizeLine_eq, Say.put, Say.d]
theorem lput_ok {k : Nat} {x : Str} {o : Say} (h1 : T[k]? = some (lputF k)) : ∀ {s : Say} {n : Nat}, s.deep < n → s.ok → ∀ S : Sto, callF T fuel con n k [.d s.d, .d (.str x), .d o.d] S = .ok (.d (s.put x o).d) S := by
  intro s
  induction s with
  | unk y =>
    intro n hn h S
    obtain ⟨m, rfl⟩ : ∃ m, n = m + 1 := ⟨n - 1, by omega⟩
    rw [call_eq h1 rfl]
    show finR S.length (svs _ (lputF k).body [some (.d (.tuple [.str "unknown", .str y])), some (.d (.str x)), some (.d o.d), none] S) = _
    by_cases q : y = x
    · subst q
      simp [lputF, lput_0, lput_1, Say.put]
    · have q' : (y == x) = false := beq_eq_false_iff_ne.mpr q
      simp [lputF, lput_0, lput_1, Say.put, eq_s, q, q', Say.d]
  | not a ih =>
    intro n hn h S
    obtain ⟨m, rfl⟩ : ∃ m, n = m + 1 := ⟨n - 1, by omega⟩
    simp only [Say.deep] at hn
    rw [call_eq h1 rfl]
    show finR S.length (svs _ (lputF k).body [some (.d (.tuple [.str "not", a.d])), some (.d (.str x)), some (.d o.d), none] S) = _
    have e1 := ih (n := m) (by omega) h S
    simp [lputF, lput_0, lput_1, e1, lcR, lc1, sizeLine_eq, Say.put, Say.d]
  | two w a b iha ihb =>
    intro n hn h S
    obtain ⟨m, rfl⟩ : ∃ m, n = m + 1 := ⟨n - 1, by omega⟩
    simp only [Say.deep] at hn
    rw [call_eq h1 rfl]
    show finR S.length (svs _ (lputF k).body [some (.d (.tuple [.str w, a.d, b.d])), some (.d (.str x)), some (.d o.d), none] S) = _
    have e1 := iha (n := m) (by omega) h.2.1 S
    have e2 := ihb (n := m) (by omega) h.2.2 S
    simp [lputF, lput_0, lput_1, e1, e2, lcR, lc1, sizeLine_eq, Say.put, Say.d, eq_mark h.1]
  | _ =>
    intro n hn h S
    obtain ⟨m, rfl⟩ : ∃ m, n = m + 1 := ⟨n - 1, by omega⟩
    rw [call_eq h1 rfl]
    show finR S.length (svs _ (lputF k).body [some (.d (Say.d _)), some (.d (.str x)), some (.d o.d), none] S) = _
    simp only [Say.d]
    simp [lputF, lput_0, lput_1, lcR, lc1, sizeLine_eq, Say.put, Say.d]
theorem in_uyn (u : Str) : cmpD .In (.str u) (.tuple [.str "unknown", .str "yes", .str "no"]) = some (decide (u ∈ ([Str.ofString "unknown", Str.ofString "yes", Str.ofString "no"] : List Str))) := in_s (us := [Str.ofString "unknown", Str.ofString "yes", Str.ofString "no"]) (.inr rfl)
theorem lsize_ok {k : Nat} {x : Str} {o : Say} (h1 : T[k]? = some (lsizeF k)) : ∀ {s : Say} {n : Nat}, s.deep < n → s.ok → ∀ S : Sto, callF T fuel con n k [.d s.d, .d (.str x), .d (.int o.words), .d (.int o.deep)] S = .ok (.d (.tuple [.int (s.put x o).words, .int (s.put x o).deep])) S := by
  intro s
  induction s with
  | unk y =>
    intro n hn h S
    obtain ⟨m, rfl⟩ : ∃ m, n = m + 1 := ⟨n - 1, by omega⟩
    rw [call_eq h1 rfl]
    show finR S.length (svs _ (lsizeF k).body [some (.d (.tuple [.str "unknown", .str y])), some (.d (.str x)), some (.d (.int o.words)), some (.d (.int o.deep)), none, none, none, none, none] S) = _
    by_cases q : y = x
    · subst q
      simp [lsizeF, lsize_0, Say.put, sizeLine_eq]
    · have q' : (y == x) = false := beq_eq_false_iff_ne.mpr q
      simp [lsizeF, lsize_0, lsize_1, in_uyn, Say.put, eq_s, q, q', Say.words, Say.deep, sizeLine_eq]
  | not a ih =>
    intro n hn h S
    obtain ⟨m, rfl⟩ : ∃ m, n = m + 1 := ⟨n - 1, by omega⟩
    simp only [Say.deep] at hn
    rw [call_eq h1 rfl]
    show finR S.length (svs _ (lsizeF k).body [some (.d (.tuple [.str "not", a.d])), some (.d (.str x)), some (.d (.int o.words)), some (.d (.int o.deep)), none, none, none, none, none] S) = _
    have e1 := ih (n := m) (by omega) h S
    have q1 : (0 : Int) < ((a.put x o).deep : Int) + 1 := by omega
    simp [lsizeF, lsize_0, lsize_1, lsize_2, lsize_3, lsize_4, in_uyn, e1, forR, lp1, sizeLine_eq, Say.put, Say.words, Say.deep, q1]
    omega
  | two w a b iha ihb =>
    intro n hn h S
    obtain ⟨m, rfl⟩ : ∃ m, n = m + 1 := ⟨n - 1, by omega⟩
    simp only [Say.deep] at hn
    rw [call_eq h1 rfl]
    show finR S.length (svs _ (lsizeF k).body [some (.d (.tuple [.str w, a.d, b.d])), some (.d (.str x)), some (.d (.int o.words)), some (.d (.int o.deep)), none, none, none, none, none] S) = _
    have e1 := iha (n := m) (by omega) h.2.1 S
    have e2 := ihb (n := m) (by omega) h.2.2 S
    have q1 : (0 : Int) < ((a.put x o).deep : Int) + 1 := by omega
    have q2 := (ok_marks h.1).2
    simp [lsizeF, lsize_0, lsize_1, lsize_2, lsize_3, lsize_4, in_uyn, e1, e2, forR, lp1, sizeLine_eq, Say.put, Say.words, Say.deep, q1, eq_mark h.1, q2]
    (repeat split) <;> omega
  | _ =>
    intro n hn h S
    obtain ⟨m, rfl⟩ : ∃ m, n = m + 1 := ⟨n - 1, by omega⟩
    rw [call_eq h1 rfl]
    show finR S.length (svs _ (lsizeF k).body [some (.d (Say.d _)), some (.d (.str x)), some (.d (.int o.words)), some (.d (.int o.deep)), none, none, none, none, none] S) = _
    simp only [Say.d]
    simp [lsizeF, lsize_0, lsize_1, in_uyn, Say.put, Say.words, Say.deep, sizeLine_eq]
/-- the words of _law_far -/
def farD (w h : Int) : PyData := if w > 1000 then .str "words" else if h > 60 then .str "depth" else .none
theorem lfar_ok {k n : Nat} {w h : Int} {S : Sto} (hn : 0 < n) (hT : T[k]? = some lfarF) : callF T fuel con n k [.d (.int w), .d (.int h)] S = .ok (.d (farD w h)) S := by
  obtain ⟨m, rfl⟩ : ∃ m, n = m + 1 := ⟨n - 1, by omega⟩
  rw [call_eq hT rfl]
  show finR S.length (svs _ lfarF.body [some (.d (.int w)), some (.d (.int h))] S) = _
  unfold farD
  by_cases q : 1000 < w
  · simp [lfarF, lfar_0, lfar_1, q]
  · by_cases q2 : 60 < h
    · simp [lfarF, lfar_0, lfar_1, q, q2]
    · simp [lfarF, lfar_0, lfar_1, q, q2]
def farR (x0 : Nat) (w h : Nat) (d : PyData) (S : Sto) : R E := if w > 1000 then .err ⟨x0, some (.str "words")⟩ [] S else if h > 60 then .err ⟨x0, some (.str "depth")⟩ [] S else .ok (.d d) S
structure SayT (T : List FD) (con : List PyData) (x0 g0 g1 k0 k1 k2 k3 k4 k5 k6 : Nat) : Prop where
  w : con[g0]? = some (.int 1000)
  h : con[g1]? = some (.int 60)
  h0 : T[k0]? = some partsF
  h1 : T[k1]? = some (wordsF k0 k1)
  h2 : T[k2]? = some (depthF k0 k2)
  h3 : T[k3]? = some (occurF k3 k0)
  h4 : T[k4]? = some (checkedF k1 x0 g0 k2 g1)
  h5 : T[k5]? = some (putfF k5 k0)
  h6 : T[k6]? = some (putforF k1 k3 x0 g0 k4 k5)
theorem checked_ok {x0 g0 g1 k0 k1 k2 k3 k4 k5 k6 n : Nat} {s : Say} {S : Sto} (V : SayT T con x0 g0 g1 k0 k1 k2 k3 k4 k5 k6) (hn : s.deep + 2 < n) (ho : s.ok) : callF T fuel con n k4 [.d s.d] S = farR x0 s.words s.deep s.d S := by
  obtain ⟨m, rfl⟩ : ∃ m, n = m + 1 := ⟨n - 1, by omega⟩
  rw [call_eq V.h4 rfl]
  show finR S.length (svs _ (checkedF k1 x0 g0 k2 g1).body [some (.d s.d)] S) = _
  have e1 := words_ok (fuel := fuel) (con := con) V.h0 V.h1 (s := s) (n := m) (by omega) ho S
  have e2 := depth_ok (fuel := fuel) (con := con) V.h0 V.h2 (s := s) (n := m) (by omega) ho S
  unfold farR
  by_cases q : 1000 < s.words
  · have q' : (1000 : Int) < s.words := by omega
    simp [checkedF, checked_0, checked_1, checked_2, e1, V.w, q, q', finR]
  · have q' : ¬ (1000 : Int) < s.words := by omega
    by_cases q2 : 60 < s.deep
    · have q2' : (60 : Int) < s.deep := by omega
      simp [checkedF, checked_0, checked_1, checked_2, e1, e2, V.w, V.h, q, q', q2, q2', finR]
    · have q2' : ¬ (60 : Int) < s.deep := by omega
      simp [checkedF, checked_0, checked_1, checked_2, e1, e2, V.w, V.h, q, q', q2, q2']
theorem putfor_ok {x0 g0 g1 k0 k1 k2 k3 k4 k5 k6 n : Nat} {s o : Say} {x : Str} {S : Sto} (V : SayT T con x0 g0 g1 k0 k1 k2 k3 k4 k5 k6) (hn : s.deep + o.deep + 3 < n) (hs : s.ok) (ho : o.ok) (hw : o.words < 2 ^ 60) :
    callF T fuel con n k6 [.d s.d, .d (.str x), .d o.d] S = farR x0 (s.put x o).words (s.put x o).deep (s.put x o).d S := by
  obtain ⟨m, rfl⟩ : ∃ m, n = m + 1 := ⟨n - 1, by omega⟩
  rw [call_eq V.h6 rfl]
  show finR S.length (svs _ (putforF k1 k3 x0 g0 k4 k5).body [some (.d s.d), some (.d (.str x)), some (.d o.d)] S) = _
  have e1 := words_ok (fuel := fuel) (con := con) V.h0 V.h1 (s := s) (n := m) (by omega) hs S
  have e2 := words_ok (fuel := fuel) (con := con) V.h0 V.h1 (s := o) (n := m) (by omega) ho S
  have e3 := occur_ok (fuel := fuel) (con := con) (x := x) V.h0 V.h3 (s := s) (n := m) (by omega) hs S
  have e4 := putf_ok (fuel := fuel) (con := con) (x := x) (o := o) V.h0 V.h5 (s := s) (n := m) (by omega) hs S
  have hd := put_deep (x := x) (o := o) s
  have e5 := checked_ok (fuel := fuel) (n := m) (s := s.put x o) (S := S) V (by omega) (put_ok' ho hs)
  have em := mul_s' (i := (s.occ x : Int)) (j := (o.words : Int) - 1) (by omega) (by omega)
  have hp := put_words (x := x) (o := o) s
  have hp' : (s.words : Int) + (s.occ x : Int) * ((o.words : Int) - 1) = ((s.put x o).words : Int) := by
    have h1 : (((s.put x o).words + s.occ x : Nat) : Int) = ((s.words + s.occ x * o.words : Nat) : Int) := by rw [hp]
    simp only [Int.natCast_add, Int.natCast_mul] at h1
    rw [Int.mul_sub, Int.mul_one]
    omega
  by_cases q : 1000 < (s.put x o).words
  · have q' : (1000 : Int) < (s.put x o).words := by omega
    simp [putforF, putfor_0, putfor_1, e1, e2, e3, em, hp', V.w, q', finR, farR, q]
  · have q' : ¬ (1000 : Int) < (s.put x o).words := by omega
    unfold farR at e5 ⊢
    rw [if_neg q] at e5 ⊢
    by_cases q2 : 60 < (s.put x o).deep
    · rw [if_pos q2] at e5 ⊢
      simp [putforF, putfor_0, putfor_1, e1, e2, e3, e4, em, hp', V.w, q', e5, finR]
    · rw [if_neg q2] at e5 ⊢
      simp [putforF, putfor_0, putfor_1, e1, e2, e3, e4, em, hp', V.w, q', e5]
end
end Ht

set_option maxRecDepth 100000
set_option maxHeartbeats 16000000
/-! HtUc: marks, unknowns, bounds, steps. -/
namespace Ht
open PySem L2 PyProof.Rows
def marks_0 (k1 k0 g0 : Nat) : CS := .ret (.bin .Add (.ife (.cmp .In (.idx (.var 0) (.con (.int 0))) (.glo g0)) (.con (.int 1)) (.con (.int 0))) (.blt .sum (.cons (.lc (.call k1 (.cons (.var 1) .nil)) (.nam 1) (.seq (.call k0 (.cons (.var 0) .nil))) .none [1]) .nil)))
def marksF (k1 k0 g0 : Nat) : FD := ⟨1, 2, .cons (marks_0 k1 k0 g0) (.nil)⟩
def note_0 : CS := .ite (.cmp .Eq (.idx (.var 0) (.con (.int 0))) (.con (.str "unknown"))) (.cons (.ite (.cmp .NotIn (.idx (.var 0) (.con (.int 1))) (.var 1)) (.cons (.exp (.app (.var 1) (.idx (.var 0) (.con (.int 1))))) .nil) .nil) (.cons (.ret0) .nil)) .nil
def note_1 (k0 k2 : Nat) : CS := .loop (.nam 2) (.seq (.call k0 (.cons (.var 0) .nil))) (.cons (.exp (.call k2 (.cons (.var 2) (.cons (.var 1) .nil)))) .nil)
def noteF (k0 k2 : Nat) : FD := ⟨2, 3, .cons note_0 (.cons (note_1 k0 k2) (.nil))⟩
def unks_0 : CS := .own 1 (.lst .nil)
def unks_1 (k2 : Nat) : CS := .loop (.nam 2) (.seq (.var 0)) (.cons (.exp (.call k2 (.cons (.var 2) (.cons (.var 1) .nil)))) .nil)
def unks_2 : CS := .ret (.blt .tuple (.cons (.var 1) .nil))
def unksF (k2 : Nat) : FD := ⟨1, 3, .cons unks_0 (.cons (unks_1 k2) (.cons unks_2 (.nil)))⟩
def counts_0 (x0 g1 : Nat) : CS := .ite (.cmp .GtE (.var 0) (.blt .len (.cons (.glo g1) .nil))) (.cons (.rais x0 (.con (.str "unknowns"))) .nil) .nil
def counts_1 (x0 g1 : Nat) : CS := .ite (.cmp .Gt (.var 1) (.idx (.glo g1) (.var 0))) (.cons (.rais x0 (.con (.str "marks"))) .nil) .nil
def countsF (x0 g1 : Nat) : FD := ⟨2, 2, .cons (counts_0 x0 g1) (.cons (counts_1 x0 g1) (.nil))⟩
def bounds_0 (k3 : Nat) : CS := .asg (.nam 1) (.call k3 (.cons (.var 0) .nil))
def bounds_1 (k4 k1 : Nat) : CS := .exp (.call k4 (.cons (.blt .len (.cons (.var 1) .nil)) (.cons (.blt .sum (.cons (.lc (.call k1 (.cons (.var 2) .nil)) (.nam 2) (.seq (.var 0)) .none [2]) .nil)) .nil)))
def bounds_2 : CS := .ret (.var 1)
def boundsF (k3 k4 k1 : Nat) : FD := ⟨1, 3, .cons (bounds_0 k3) (.cons (bounds_1 k4 k1) (.cons bounds_2 (.nil)))⟩
def steps_0 : CS := .own 1 (.lst .nil)
def steps_1 (k0 k15 : Nat) : CS := .loop (.nam 2) (.seq (.call k0 (.cons (.var 0) .nil))) (.cons (.exp (.ext (.var 1) (.call k15 (.cons (.var 2) .nil)))) .nil)
def steps_2 : CS := .exp (.app (.var 1) (.var 0))
def steps_3 : CS := .ret (.var 1)
def stepsF (k0 k15 : Nat) : FD := ⟨1, 3, .cons steps_0 (.cons (steps_1 k0 k15) (.cons steps_2 (.cons steps_3 (.nil))))⟩
def along_0 (k15 : Nat) : CS := .ret (.lc2 (.var 2) (.nam 1) (.seq (.var 0)) .none [1, 2] (.nam 2) (.seq (.call k15 (.cons (.var 1) .nil))) .none [2])
def alongF (k15 : Nat) : FD := ⟨1, 3, .cons (along_0 k15) (.nil)⟩
theorem mk1 : ¬ (Str.ofString "not" ∈ Ht.marks) := by decide +kernel
theorem mk2 : ¬ (Str.ofString "yes" ∈ Ht.marks) := by decide +kernel
theorem mk3 : ¬ (Str.ofString "no" ∈ Ht.marks) := by decide +kernel
theorem mk4 : ¬ (Str.ofString "unknown" ∈ Ht.marks) := by decide +kernel
abbrev marksD : PyData := .tuple [.str "plus", .str "times", .str "leads", .str "and", .str "or", .str "same"]
theorem in_cell {S : Sto} {c : Nat} {fs : List Str} {y : Str} (h : S[c]? = some (.lst (txs fs))) : cmpR .NotIn (.d (.str y)) (.c c) S = .ok (!decide (y ∈ fs)) S := by
  have := nin_s (u := y) (us := fs) (c := .list) (.inl rfl)
  rw [cmpR_c h]
  simp [this]
theorem ext_at {S : Sto} {c : Nat} {xs ys : List PyData} (h : S[c]? = some (.lst xs)) (hl : xs.length + ys.length ≤ sizeLine) : extE (.c c) (.d (.list ys)) S = .ok (.d .none) (S.set c (.lst (xs ++ ys))) := by
  simp only [extE, h, peek, seqOf]
  rw [if_pos hl]
section
variable {T : List FD} {fuel : Nat} {con : List PyData}
theorem marks_cnt {k kp g : Nat} (h0 : T[kp]? = some partsF) (h1 : T[k]? = some (marksF k kp g)) (hg : con[g]? = some marksD) : ∀ {s : Say} {n : Nat}, s.deep + 1 < n → s.ok → ∀ S : Sto, callF T fuel con n k [.d s.d] S = .ok (.d (.int s.cnt)) S := by
  intro s
  induction s with
  | not a ih =>
    intro n hn h S
    obtain ⟨m, rfl⟩ : ∃ m, n = m + 1 := ⟨n - 1, by omega⟩
    simp only [Say.deep] at hn
    rw [call_eq h1 rfl]
    show finR S.length (svs _ (marksF k kp g).body [some (.d (Say.not a).d), none] S) = _
    have e0 := parts_ok (fuel := fuel) (con := con) (n := m) h0 (by omega) (s := .not a) h S
    simp only [Say.d, Say.parts, List.map_cons, List.map_nil] at e0
    have e1 := ih (n := m) (by omega) h S
    simp [e0, e1, Say.d, Say.parts, marksF, marks_0, lcR, lc1, sizeLine_eq, bltD, intsOf, hg, in_marks, cmpR, mk1, Say.cnt]
  | two w a b iha ihb =>
    intro n hn h S
    obtain ⟨m, rfl⟩ : ∃ m, n = m + 1 := ⟨n - 1, by omega⟩
    simp only [Say.deep] at hn
    rw [call_eq h1 rfl]
    show finR S.length (svs _ (marksF k kp g).body [some (.d (Say.two w a b).d), none] S) = _
    have e0 := parts_ok (fuel := fuel) (con := con) (n := m) h0 (by omega) (s := .two w a b) h S
    simp only [Say.d, Say.parts, List.map_cons, List.map_nil] at e0
    have e1 := iha (n := m) (by omega) h.2.1 S
    have e2 := ihb (n := m) (by omega) h.2.2 S
    simp [e0, e1, e2, Say.d, Say.parts, marksF, marks_0, lcR, lc1, sizeLine_eq, bltD, intsOf, hg, in_marks, cmpR, h.1, Say.cnt]
    omega
  | _ =>
    intro n hn h S
    obtain ⟨m, rfl⟩ : ∃ m, n = m + 1 := ⟨n - 1, by omega⟩
    rw [call_eq h1 rfl]
    show finR S.length (svs _ (marksF k kp g).body [some (.d (Say.d _)), none] S) = _
    have e0 := parts_ok (fuel := fuel) (con := con) (n := m) h0 (by omega) h S
    simp only [Say.d, Say.parts, List.map_cons, List.map_nil] at e0
    simp [e0, Say.d, Say.parts, marksF, marks_0, lcR, lc1, sizeLine_eq, bltD, intsOf, hg, in_marks, cmpR, mk2, mk3, mk4, Say.cnt]
theorem note_ok {k kp : Nat} (h0 : T[kp]? = some partsF) (h2 : T[k]? = some (noteF kp k)) : ∀ {s : Say} {n : Nat}, s.deep + 1 < n → s.ok → ∀ {c : Nat} {S : Sto} {l : List Str}, S[c]? = some (.lst (txs l)) → l.length + s.words ≤ 16777216 → callF T fuel con n k [.d s.d, .c c] S = .ok (.d .none) (S.set c (.lst (txs (s.names l)))) := by
  intro s
  induction s with
  | not a ih =>
    intro n hn h c S l hS hz
    obtain ⟨m, rfl⟩ : ∃ m, n = m + 1 := ⟨n - 1, by omega⟩
    simp only [Say.deep] at hn
    rw [call_eq h2 rfl]
    show finR S.length (svs _ (noteF kp k).body [some (.d (Say.not a).d), some (.c c), none] S) = _
    have e0 := parts_ok (fuel := fuel) (con := con) (n := m) h0 (by omega) (s := .not a) h S
    simp only [Say.d, Say.parts, List.map_cons, List.map_nil] at e0
    simp only [Say.words] at hz
    have e1 := ih (n := m) (by omega) h hS (by omega)
    simp [e0, e1, Say.d, noteF, note_0, note_1, forR, lp1, cmpR, Say.names]
  | two w a b iha ihb =>
    intro n hn h c S l hS hz
    obtain ⟨m, rfl⟩ : ∃ m, n = m + 1 := ⟨n - 1, by omega⟩
    simp only [Say.deep] at hn
    rw [call_eq h2 rfl]
    show finR S.length (svs _ (noteF kp k).body [some (.d (Say.two w a b).d), some (.c c), none] S) = _
    have e0 := parts_ok (fuel := fuel) (con := con) (n := m) h0 (by omega) (s := .two w a b) h S
    simp only [Say.d, Say.parts, List.map_cons, List.map_nil] at e0
    simp only [Say.words] at hz
    have e1 := iha (n := m) (by omega) h.2.1 hS (by omega)
    have zl := names_len a l
    have e2 := ihb (n := m) (by omega) h.2.2 (set_at (z' := .lst (txs (a.names l))) hS) (by omega)
    simp [e0, e1, e2, Say.d, noteF, note_0, note_1, forR, lp1, cmpR, Say.names, eq_mark h.1]
  | unk y =>
    intro n hn h c S l hS hz
    obtain ⟨m, rfl⟩ : ∃ m, n = m + 1 := ⟨n - 1, by omega⟩
    rw [call_eq h2 rfl]
    show finR S.length (svs _ (noteF kp k).body [some (.d (Say.unk y).d), some (.c c), none] S) = _
    simp only [Say.words] at hz
    have ha := app_at (y := .str y) hS (by simp [sizeLine_eq]; omega)
    by_cases q : y ∈ l
    · simp [Say.d, noteF, note_0, note_1, cmpR_d, in_cell hS, q, Say.names, set_same hS]
    · simp [Say.d, noteF, note_0, note_1, cmpR_d, in_cell hS, q, Say.names, isLst_at hS, ha]
  | _ =>
    intro n hn h c S l hS hz
    obtain ⟨m, rfl⟩ : ∃ m, n = m + 1 := ⟨n - 1, by omega⟩
    rw [call_eq h2 rfl]
    show finR S.length (svs _ (noteF kp k).body [some (.d (Say.d _)), some (.c c), none] S) = _
    have e0 := parts_ok (fuel := fuel) (con := con) (n := m) h0 (by omega) h S
    simp only [Say.d, Say.parts, List.map_cons, List.map_nil] at e0
    simp [e0, Say.d, noteF, note_0, note_1, forR, lp1, cmpR, Say.names, set_same hS]
/-- unknowns of sayings, in their order -/
def namesL (l : List Str) (ss : List Say) : List Str := ss.foldl (fun l s => s.names l) l
def wordsL (ss : List Say) : Nat := (ss.map Say.words).sum
theorem namesL_len : ∀ (ss : List Say) (l : List Str), (namesL l ss).length ≤ l.length + wordsL ss
  | [], l => by simp [namesL, wordsL]
  | s :: ss, l => by
    have h1 := namesL_len ss (s.names l)
    have h2 := names_len s l
    simp only [namesL, wordsL, List.foldl_cons, List.map_cons, List.sum_cons] at h1 ⊢
    omega
theorem unks_loop {k kp m : Nat} (h0 : T[kp]? = some partsF) (h2 : T[k]? = some (noteF kp k)) {S : Sto} {t : Option E} {all : List PyData} : ∀ (ss : List Say) (l : List Str) (o : Option E), (∀ s ∈ ss, s.ok ∧ s.deep + 1 < m) → l.length + wordsL ss ≤ 16777216 →
    ∃ o', forR none all (lp1 ⟨callF T fuel con m, fuel, con⟩ (.nam 2) (.cons (.exp (.call k (.cons (.var 2) (.cons (.var 1) .nil)))) .nil)) (ss.map Say.d) [t, some (.c S.length), o] (S ++ [.lst (txs l)]) = .ok (.nxt [t, some (.c S.length), o']) (S ++ [.lst (txs (namesL l ss))])
  | [], l, o, _, _ => ⟨o, forR_nil⟩
  | s :: ss, l, o, h, hl => by
    simp only [wordsL, List.map_cons, List.sum_cons] at hl
    have h1 := h s List.mem_cons_self
    have hn := names_len s l
    obtain ⟨o', e⟩ := unks_loop h0 h2 (m := m) (S := S) (t := t) (all := all) ss (s.names l) (some (.d s.d)) (fun z hz => h z (List.mem_cons_of_mem _ hz)) (by unfold wordsL; omega)
    refine ⟨o', ?_⟩
    have e4 := note_ok (fuel := fuel) (con := con) h0 h2 (n := m) h1.2 h1.1 (c := S.length) (S := S ++ [.lst (txs l)]) (l := l) get_app (by omega)
    rw [set_app] at e4
    rw [List.map_cons, forR_cons (w := none) (Γ1 := [t, some (.c S.length), some (.d s.d)]) (S1 := S ++ [.lst (txs (s.names l))]) (by simp [lp1, e4]) trivial]
    exact e
theorem unks_ok {k kn kp n : Nat} {ss : List Say} (h0 : T[kp]? = some partsF) (h2 : T[kn]? = some (noteF kp kn)) (h3 : T[k]? = some (unksF kn)) (h : ∀ s ∈ ss, s.ok ∧ s.deep + 2 < n) (hn : 0 < n) (hl : wordsL ss ≤ 16777216) (S : Sto) : callF T fuel con n k [.d (.tuple (ss.map Say.d))] S = .ok (.d (.tuple (txs (namesL [] ss)))) S := by
  obtain ⟨m, rfl⟩ : ∃ m, n = m + 1 := ⟨n - 1, by omega⟩
  rw [call_eq h3 rfl]
  show finR S.length (svs _ (unksF kn).body [some (.d (.tuple (ss.map Say.d))), none, none] S) = _
  obtain ⟨o', e⟩ := unks_loop h0 h2 (fuel := fuel) (con := con) (m := m) (S := S) (t := some (.d (.tuple (ss.map Say.d)))) (all := ss.map Say.d) ss [] none (fun s hs => ⟨(h s hs).1, by have := (h s hs).2; omega⟩) (by simpa using hl)
  have e' : forR none (ss.map Say.d) (lp1 ⟨callF T fuel con m, fuel, con⟩ (.nam 2) (.cons (.exp (.call kn (.cons (.var 2) (.cons (.var 1) .nil)))) .nil)) (ss.map Say.d) [some (.d (.tuple (ss.map Say.d))), some (.c S.length), none] (S ++ [.lst []]) = _ := e
  have eb := blt_c (b := .tuple) (get_app (S := S) (z := .lst (txs (namesL [] ss))))
  simp [unksF, unks_0, unks_1, unks_2, e', eb]
def mostD : PyData := .tuple [.int 12, .int 12, .int 9, .int 7]
def mostOf : Nat → Nat
  | 0 => 12
  | 1 => 12
  | 2 => 9
  | _ => 7
def cntsL (ss : List Say) : Nat := (ss.map Say.cnt).sum
/-- what the bounds say -/
def boundR (x : Nat) (u m : Nat) (r : R E) (S : Sto) : R E := if u ≥ 4 then .err ⟨x, some (.str "unknowns")⟩ [] S else if m > mostOf u then .err ⟨x, some (.str "marks")⟩ [] S else r
theorem most_at {u : Nat} (h : u < 4) : idxD mostD (.int u) = some (.int (mostOf u)) := by
  rcases (by omega : u = 0 ∨ u = 1 ∨ u = 2 ∨ u = 3) with rfl | rfl | rfl | rfl <;> rfl
theorem counts_ok {k x g n u m : Nat} {S : Sto} (hT : T[k]? = some (countsF x g)) (hg : con[g]? = some mostD) (hn : 0 < n) : callF T fuel con n k [.d (.int u), .d (.int m)] S = boundR x u m (.ok (.d .none) S) S := by
  obtain ⟨q, rfl⟩ : ∃ q, n = q + 1 := ⟨n - 1, by omega⟩
  rw [call_eq hT rfl]
  show finR S.length (svs _ (countsF x g).body [some (.d (.int u)), some (.d (.int m))] S) = _
  have hl : bltD .len [mostD] = some (.int 4) := rfl
  unfold boundR
  by_cases h1 : u ≥ 4
  · have h1' : (4 : Int) ≤ u := by omega
    have h2 : 4 ≤ u := h1
    simp [countsF, counts_0, hg, hl, h1, h1', h2, finR]
  · have h1' : ¬ (4 : Int) ≤ u := by omega
    have h2 : ¬ 4 ≤ u := h1
    have hm := most_at (u := u) (by omega)
    by_cases h3 : m > mostOf u
    · have h3' : (mostOf u : Int) < m := by omega
      have h4 : mostOf u < m := h3
      simp [countsF, counts_0, counts_1, hg, hl, h1, h1', h2, hm, h3, h3', h4, finR]
    · have h3' : ¬ (mostOf u : Int) < m := by omega
      have h4 : ¬ mostOf u < m := h3
      simp [countsF, counts_0, counts_1, hg, hl, h1, h1', h2, hm, h3, h3', h4]
structure BndT (T : List FD) (con : List PyData) (x g0 g1 k0 k1 k2 k3 k4 k5 : Nat) : Prop where
  w0 : con[g0]? = some marksD
  w1 : con[g1]? = some mostD
  h0 : T[k0]? = some partsF
  h1 : T[k1]? = some (marksF k1 k0 g0)
  h2 : T[k2]? = some (noteF k0 k2)
  h3 : T[k3]? = some (unksF k2)
  h4 : T[k4]? = some (countsF x g1)
  h5 : T[k5]? = some (boundsF k3 k4 k1)
theorem bounds_ok {x g0 g1 k0 k1 k2 k3 k4 k5 n : Nat} {ss : List Say} {S : Sto} (V : BndT T con x g0 g1 k0 k1 k2 k3 k4 k5) (h : ∀ s ∈ ss, s.ok ∧ s.deep + 3 < n) (hn : 1 < n) (hl : wordsL ss ≤ 16777216) (hss : ss.length ≤ 16777216) :
    callF T fuel con n k5 [.d (.tuple (ss.map Say.d))] S = boundR x (namesL [] ss).length (cntsL ss) (.ok (.d (.tuple (txs (namesL [] ss)))) S) S := by
  obtain ⟨m, rfl⟩ : ∃ m, n = m + 1 := ⟨n - 1, by omega⟩
  rw [call_eq V.h5 rfl]
  show finR S.length (svs ⟨callF T fuel con m, fuel, con⟩ (boundsF k3 k4 k1).body [some (.d (.tuple (ss.map Say.d))), none, none] S) = _
  have e1 := unks_ok (fuel := fuel) (con := con) (n := m) (ss := ss) V.h0 V.h2 V.h3 (fun s hs => ⟨(h s hs).1, by have := (h s hs).2; omega⟩) (by omega) hl S
  have hI : evI ⟨callF T fuel con m, fuel, con⟩ (.seq (.var 0)) [some (.d (.tuple (ss.map Say.d))), some (.d (.tuple (txs (namesL [] ss)))), none] S = .ok ⟨ss.map Say.d, none⟩ S := by simp
  have e2 := lcR_mapS (f := lc1 ⟨callF T fuel con m, fuel, con⟩ (.call k1 (.cons (.var 2) .nil)) (.nam 2) .none (wipeG [some (.d (.tuple (ss.map Say.d))), some (.d (.tuple (txs (namesL [] ss)))), none] [2])) (c := Say.d) (g := fun s => .int s.cnt) (S := S) ss [] (fun s hs => by
    have := marks_cnt (fuel := fuel) V.h0 V.h1 V.w0 (s := s) (n := m) (by have := (h s hs).2; omega) (h s hs).1 S
    simp [lc1, this]) (by rw [sizeLine_eq]; simpa using hss)
  rw [List.nil_append] at e2
  have hs : bltD .sum [.list (ss.map fun s => PyData.int s.cnt)] = some (.int (cntsL ss)) := by
    simp only [bltD, intsOf_map (fun s : Say => (s.cnt : Int)), Option.map_some]
    congr 2
    unfold cntsL
    clear h hl hss e1 e2 hI
    induction ss with
    | nil => rfl
    | cons s ss ih =>
      simp only [List.map_cons, List.sum_cons, ih]
      omega
  have e3 := counts_ok (fuel := fuel) (n := m) (u := (namesL [] ss).length) (m := cntsL ss) (S := S) V.h4 V.w1 (by omega)
  have s0 : sv ⟨callF T fuel con m, fuel, con⟩ (bounds_0 k3) [some (.d (.tuple (ss.map Say.d))), none, none] S = .ok (.nxt [some (.d (.tuple (ss.map Say.d))), some (.d (.tuple (txs (namesL [] ss)))), none]) S := by
    simp only [bounds_0, sv_asg, ev_call, evs_cons, evs_nil, ev_var, varR_0, R.bind_ok, e1, callR_ok, putT_nam, putR_some, setG_0, setG_s]
  have hlen : bltD .len [.tuple (txs (namesL [] ss))] = some (.int (namesL [] ss).length) := by simp
  show finR S.length (svs _ (.cons (bounds_0 k3) (.cons (bounds_1 k4 k1) (.cons bounds_2 .nil))) _ S) = _
  rw [svs_cons, s0, thenR_nxt, svs_cons, bounds_1, sv_exp, ev_call]
  simp only [evs_cons, evs_nil, ev_blt, ev_var, varR_0, varR_s, R.bind_ok, bltR_1, hlen, opt_some, lc_ev hI e2, hs, e3]
  unfold boundR
  by_cases q1 : (namesL [] ss).length ≥ 4
  · simp [q1, finR]
  · by_cases q2 : cntsL ss > mostOf (namesL [] ss).length
    · simp [q1, q2, finR]
    · simp [q1, q2, bounds_2]
/-! ### steps -/
end
def Say.steps : Say → List Say
  | .not a => a.steps ++ [.not a]
  | .two m a b => a.steps ++ b.steps ++ [.two m a b]
  | s => [s]
theorem steps_len : ∀ s : Say, s.steps.length = s.words
  | .yes => rfl
  | .no => rfl
  | .unk _ => rfl
  | .not a => by simp [Say.steps, Say.words, steps_len a]
  | .two m a b => by
    simp [Say.steps, Say.words, steps_len a, steps_len b]
    omega
section
variable {T : List FD} {fuel : Nat} {con : List PyData}
theorem steps_ok {k kp : Nat} (h0 : T[kp]? = some partsF) (h2 : T[k]? = some (stepsF kp k)) : ∀ {s : Say} {n : Nat}, s.deep + 1 < n → s.ok → s.words ≤ 16777216 → ∀ S : Sto, callF T fuel con n k [.d s.d] S = .ok (.d (.list (s.steps.map Say.d))) S := by
  intro s
  induction s with
  | not a ih =>
    intro n hn h hz S
    obtain ⟨m, rfl⟩ : ∃ m, n = m + 1 := ⟨n - 1, by omega⟩
    simp only [Say.deep] at hn
    simp only [Say.words] at hz
    rw [call_eq h2 rfl]
    show finR S.length (svs _ (stepsF kp k).body [some (.d (Say.not a).d), none, none] S) = _
    have e0 := parts_ok (fuel := fuel) (con := con) (n := m) h0 (by omega) (s := .not a) h (S ++ [.lst []])
    simp only [Say.parts, List.map_cons, List.map_nil] at e0
    have e1 := ih (n := m) (by omega) h (by omega) (S ++ [.lst []])
    have l1 := steps_len a
    have g0 : (S ++ [Cell.lst []])[S.length]? = some (.lst []) := get_last rfl
    have x1 := ext_at (ys := a.steps.map Say.d) g0 (by rw [sizeLine_eq]; simp; omega)
    rw [set_last rfl, List.nil_append] at x1
    have g1 : (S ++ [Cell.lst (a.steps.map Say.d)])[S.length]? = some (.lst (a.steps.map Say.d)) := get_last rfl
    have x2 := app_at (y := (Say.not a).d) g1 (by rw [sizeLine_eq]; simp; omega)
    rw [set_last rfl] at x2
    have i0 := isLst_at g0
    have i1 := isLst_at g1
    simp [stepsF, steps_0, steps_1, steps_2, steps_3, e0, e1, forR, lp1, x1, x2, i0, i1, finR, fin, Say.steps]
  | two w a b iha ihb =>
    intro n hn h hz S
    obtain ⟨m, rfl⟩ : ∃ m, n = m + 1 := ⟨n - 1, by omega⟩
    simp only [Say.deep] at hn
    simp only [Say.words] at hz
    rw [call_eq h2 rfl]
    show finR S.length (svs _ (stepsF kp k).body [some (.d (Say.two w a b).d), none, none] S) = _
    have e0 := parts_ok (fuel := fuel) (con := con) (n := m) h0 (by omega) (s := .two w a b) h (S ++ [.lst []])
    simp only [Say.parts, List.map_cons, List.map_nil] at e0
    have l1 := steps_len a
    have l2 := steps_len b
    have e1 := iha (n := m) (by omega) h.2.1 (by omega) (S ++ [.lst []])
    have e2 := ihb (n := m) (by omega) h.2.2 (by omega) (S ++ [.lst (a.steps.map Say.d)])
    have g0 : (S ++ [Cell.lst []])[S.length]? = some (.lst []) := get_last rfl
    have x1 := ext_at (ys := a.steps.map Say.d) g0 (by rw [sizeLine_eq]; simp; omega)
    rw [set_last rfl, List.nil_append] at x1
    have g1 : (S ++ [Cell.lst (a.steps.map Say.d)])[S.length]? = some (.lst (a.steps.map Say.d)) := get_last rfl
    have x2 := ext_at (ys := b.steps.map Say.d) g1 (by rw [sizeLine_eq]; simp; omega)
    rw [set_last rfl] at x2
    have g2 : (S ++ [Cell.lst (a.steps.map Say.d ++ b.steps.map Say.d)])[S.length]? = some (.lst (a.steps.map Say.d ++ b.steps.map Say.d)) := get_last rfl
    have x3 := app_at (y := (Say.two w a b).d) g2 (by rw [sizeLine_eq]; simp; omega)
    rw [set_last rfl] at x3
    have i0 := isLst_at g0
    have i1 := isLst_at g1
    have i2 := isLst_at g2
    simp [stepsF, steps_0, steps_1, steps_2, steps_3, e0, e1, e2, forR, lp1, x1, x2, x3, i0, i1, i2, finR, fin, Say.steps]
  | _ =>
    intro n hn h hz S
    obtain ⟨m, rfl⟩ : ∃ m, n = m + 1 := ⟨n - 1, by omega⟩
    rw [call_eq h2 rfl]
    show finR S.length (svs _ (stepsF kp k).body [some (.d (Say.d _)), none, none] S) = _
    have e0 := parts_ok (fuel := fuel) (con := con) (n := m) h0 (by omega) h (S ++ [.lst []])
    simp only [Say.parts, List.map_nil] at e0
    have g0 : (S ++ [Cell.lst []])[S.length]? = some (.lst []) := get_last rfl
    have x1 := fun y : PyData => app_at (y := y) g0 (by rw [sizeLine_eq]; simp)
    simp only [set_last rfl, List.nil_append] at x1
    have i0 := isLst_at g0
    simp [stepsF, steps_0, steps_1, steps_2, steps_3, e0, forR, x1, i0, finR, fin, Say.steps]
theorem along_ok {k ks kp n : Nat} {ss : List Say} (h0 : T[kp]? = some partsF) (h2 : T[ks]? = some (stepsF kp ks)) (h3 : T[k]? = some (alongF ks)) (h : ∀ s ∈ ss, s.ok ∧ s.deep + 2 < n) (hn : 0 < n) (hl : wordsL ss ≤ 16777216) (S : Sto) : callF T fuel con n k [.d (.tuple (ss.map Say.d))] S = .ok (.d (.list ((ss.flatMap Say.steps).map Say.d))) S := by
  obtain ⟨m, rfl⟩ : ∃ m, n = m + 1 := ⟨n - 1, by omega⟩
  rw [call_eq h3 rfl]
  show finR S.length (svs _ (alongF ks).body [some (.d (.tuple (ss.map Say.d))), none, none] S) = _
  have hI : evI ⟨callF T fuel con m, fuel, con⟩ (.seq (.var 0)) [some (.d (.tuple (ss.map Say.d))), none, none] S = .ok ⟨ss.map Say.d, none⟩ S := by simp
  have key : ∀ (ss : List Say) (acc : List PyData) (t : Option E), (∀ s ∈ ss, s.ok ∧ s.deep + 1 < m) → acc.length + wordsL ss ≤ 16777216 →
      lcO (lc1o ⟨callF T fuel con m, fuel, con⟩ (.var 2) (.nam 1) .none (.nam 2) (.seq (.call ks (.cons (.var 1) .nil))) .none [2] [t, none, none]) (ss.map Say.d) acc S = .ok (acc ++ (ss.flatMap Say.steps).map Say.d) S := by
    intro ss
    induction ss with
    | nil => intro acc t _ _; simp [lcO]
    | cons s ss ih =>
      intro acc t hh hl
      simp only [wordsL, List.map_cons, List.sum_cons] at hl
      have hs := hh s List.mem_cons_self
      have e1 := steps_ok (fuel := fuel) (con := con) h0 h2 (s := s) (n := m) hs.2 hs.1 (by omega) S
      have l1 := steps_len s
      have e2 := lcR_mapS (f := lc1 ⟨callF T fuel con m, fuel, con⟩ (.var 2) (.nam 2) .none [t, some (.d s.d), none]) (c := Say.d) (g := Say.d) (S := S) s.steps acc (fun z hz => by simp [lc1]) (by rw [sizeLine_eq]; omega)
      have st : lc1o ⟨callF T fuel con m, fuel, con⟩ (.var 2) (.nam 1) .none (.nam 2) (.seq (.call ks (.cons (.var 1) .nil))) .none [2] [t, none, none] s.d acc S = .ok (acc ++ s.steps.map Say.d) S := by
        simp [lc1o, e1, e2]
      rw [List.map_cons, lcO, st, R.bind_ok, ih (acc ++ s.steps.map Say.d) t (fun z hz => hh z (List.mem_cons_of_mem _ hz)) (by simp [l1, wordsL]; omega)]
      simp
  have e := key ss [] (some (.d (.tuple (ss.map Say.d)))) (fun s hs => ⟨(h s hs).1, by have := (h s hs).2; omega⟩) (by simpa using hl)
  rw [List.nil_append] at e
  show finR S.length (svs _ (.cons (along_0 ks) .nil) _ S) = _
  rw [svs_cons, along_0, sv_ret, lc2_ev (own := [1, 2]) hI e]
  simp
end
end Ht

set_option maxRecDepth 100000
set_option maxHeartbeats 16000000
/-! HtGr: grades in rows of pieces. -/
namespace Ht
open PySem L2 PyProof.Rows
def cmpg_0 : CS := .ite (.cmp .Eq (.var 0) (.var 1)) (.cons (.ret (.con (.int 0))) .nil) .nil
def cmpg_1 (g0 : Nat) : CS := .ite (.or (.cmp .Eq (.var 0) (.glo g0)) (.cmp .Eq (.var 1) (.glo g0))) (.cons (.ret (.ife (.cmp .Eq (.var 0) (.glo g0)) (.con (.int 1)) (.neg (.con (.int 1))))) .nil) .nil
def cmpg_2 : CS := .ite (.cmp .NotEq (.idx (.var 0) (.con (.int 1))) (.idx (.var 1) (.con (.int 1)))) (.cons (.ret (.ife (.cmp .Lt (.idx (.var 0) (.con (.int 1))) (.idx (.var 1) (.con (.int 1)))) (.neg (.con (.int 1))) (.con (.int 1)))) .nil) .nil
def cmpg_3 (k6 : Nat) : CS := .ret (.call k6 (.cons (.idx (.var 0) (.con (.int 2))) (.cons (.idx (.var 1) (.con (.int 2))) .nil)))
def cmpgF (g0 k6 : Nat) : FD := ⟨2, 2, .cons cmpg_0 (.cons (cmpg_1 g0) (.cons cmpg_2 (.cons (cmpg_3 k6) (.nil))))⟩
def inside_0 (k10 : Nat) : CS := .ite (.cmp .Eq (.var 1) (.con (.str "sum"))) (.cons (.ret (.call k10 (.cons (.var 0) (.cons (.var 2) (.cons (.var 3) .nil))))) .nil) .nil
def inside_1 (k6 : Nat) : CS := .ite (.cmp .Eq (.var 1) (.con (.str "step"))) (.cons (.ret (.ife (.and (.cmp .Eq (.var 0) (.con (.str "times"))) (.cmp .Lt (.call k6 (.cons (.var 2) (.cons (.var 3) .nil))) (.con (.int 0)))) (.var 2) (.var 3))) .nil) .nil
def inside_2 (k5 : Nat) : CS := .ite (.cmp .Eq (.var 0) (.con (.str "times"))) (.cons (.ret (.call k5 (.cons (.bin .Mult (.idx (.var 2) (.con (.int 0))) (.idx (.var 3) (.con (.int 0)))) (.cons (.bin .Mult (.idx (.var 2) (.con (.int 1))) (.idx (.var 3) (.con (.int 1)))) .nil)))) .nil) .nil
def inside_3 (k5 : Nat) : CS := .ret (.call k5 (.cons (.bin .Mult (.idx (.var 3) (.con (.int 0))) (.idx (.var 2) (.con (.int 1)))) (.cons (.bin .Mult (.idx (.var 3) (.con (.int 1))) (.idx (.var 2) (.con (.int 0)))) .nil)))
def insideF (k10 k6 k5 : Nat) : FD := ⟨4, 4, .cons (inside_0 k10) (.cons (inside_1 k6) (.cons (inside_2 k5) (.cons (inside_3 k5) (.nil))))⟩
def cgiven_0 (x1 : Nat) : CS := .ite (.cmp .Eq (.var 0) (.con (.str "plus"))) (.cons (.rais x1 (.con (.str "plus"))) .nil) .nil
def cgiven_1 (k12 : Nat) : CS := .asg (.nam 4) (.call k12 (.cons (.var 2) (.cons (.var 3) .nil)))
def cgiven_2 : CS := .asg (.tup (.cons (.nam 5) (.cons (.nam 6) .nil))) (.ife (.cmp .LtE (.var 4) (.con (.int 0))) (.tup (.cons (.var 2) (.cons (.var 3) .nil))) (.tup (.cons (.var 3) (.cons (.var 2) .nil))))
def cgiven_3 : CS := .ite (.cmp .Eq (.var 0) (.con (.str "and"))) (.cons (.ret (.var 5)) .nil) .nil
def cgiven_4 : CS := .ite (.cmp .Eq (.var 0) (.con (.str "or"))) (.cons (.ret (.var 6)) .nil) .nil
def cgiven_5 (k14 g0 : Nat) : CS := .ite (.cmp .Eq (.var 0) (.con (.str "same"))) (.cons (.ret (.ife (.cmp .Eq (.var 4) (.con (.int 0))) (.glo g0) (.call k14 (.cons (.con (.str "leads")) (.cons (.var 1) (.cons (.var 6) (.cons (.var 5) .nil))))))) .nil) .nil
def cgiven_6 (g0 : Nat) : CS := .ite (.and (.cmp .Eq (.var 0) (.con (.str "leads"))) (.cmp .LtE (.var 4) (.con (.int 0)))) (.cons (.ret (.glo g0)) .nil) .nil
def cgiven_7 (g0 : Nat) : CS := .ite (.or (.cmp .Eq (.var 2) (.glo g0)) (.or (.cmp .Eq (.var 3) (.glo g0)) (.cmp .NotEq (.idx (.var 2) (.con (.int 1))) (.idx (.var 3) (.con (.int 1)))))) (.cons (.ret (.var 5)) .nil) .nil
def cgiven_8 (k13 : Nat) : CS := .ite (.cmp .Eq (.var 0) (.con (.str "times"))) (.cons (.ret (.tup (.cons (.con (.str "in")) (.cons (.idx (.var 2) (.con (.int 1))) (.cons (.call k13 (.cons (.con (.str "times")) (.cons (.idx (.var 1) (.idx (.var 2) (.con (.int 1)))) (.cons (.idx (.var 5) (.con (.int 2))) (.cons (.idx (.var 6) (.con (.int 2))) .nil))))) .nil))))) .nil) .nil
def cgiven_9 (k13 : Nat) : CS := .ret (.tup (.cons (.con (.str "in")) (.cons (.idx (.var 2) (.con (.int 1))) (.cons (.call k13 (.cons (.con (.str "leads")) (.cons (.idx (.var 1) (.idx (.var 2) (.con (.int 1)))) (.cons (.idx (.var 2) (.con (.int 2))) (.cons (.idx (.var 3) (.con (.int 2))) .nil))))) .nil))))
def cgivenF (x1 k12 k14 g0 k13 : Nat) : FD := ⟨4, 7, .cons (cgiven_0 x1) (.cons (cgiven_1 k12) (.cons cgiven_2 (.cons cgiven_3 (.cons cgiven_4 (.cons (cgiven_5 k14 g0) (.cons (cgiven_6 g0) (.cons (cgiven_7 g0) (.cons (cgiven_8 k13) (.cons (cgiven_9 k13) (.nil))))))))))⟩
def lbef_0 : CS := .ite (.or (.cmp .Eq (.blt .len (.cons (.var 0) .nil)) (.con (.int 1))) (.cmp .Eq (.blt .len (.cons (.var 1) .nil)) (.con (.int 1)))) (.cons (.ret (.ife (.cmp .Eq (.blt .len (.cons (.var 0) .nil)) (.blt .len (.cons (.var 1) .nil))) (.con (.int 0)) (.ife (.cmp .Eq (.blt .len (.cons (.var 0) .nil)) (.con (.int 1))) (.con (.int 1)) (.neg (.con (.int 1)))))) .nil) .nil
def lbef_1 : CS := .ite (.cmp .NotEq (.idx (.var 0) (.con (.int 1))) (.idx (.var 1) (.con (.int 1)))) (.cons (.ret (.ife (.cmp .Lt (.idx (.var 0) (.con (.int 1))) (.idx (.var 1) (.con (.int 1)))) (.neg (.con (.int 1))) (.con (.int 1)))) .nil) .nil
def lbef_2 : CS := .par 2 3 (.bin .Mult (.idx (.idx (.var 0) (.con (.int 2))) (.con (.int 0))) (.idx (.idx (.var 1) (.con (.int 2))) (.con (.int 1)))) (.bin .Mult (.idx (.idx (.var 1) (.con (.int 2))) (.con (.int 0))) (.idx (.idx (.var 0) (.con (.int 2))) (.con (.int 1))))
def lbef_3 : CS := .ret (.ife (.cmp .Eq (.var 2) (.var 3)) (.con (.int 0)) (.ife (.cmp .Lt (.var 2) (.var 3)) (.neg (.con (.int 1))) (.con (.int 1))))
def lbefF : FD := ⟨2, 4, .cons lbef_0 (.cons lbef_1 (.cons lbef_2 (.cons lbef_3 (.nil))))⟩
def lgiv_0 (k24 : Nat) : CS := .asg (.nam 4) (.call k24 (.cons (.var 2) (.cons (.var 3) .nil)))
def lgiv_1 : CS := .asg (.tup (.cons (.nam 5) (.cons (.nam 6) .nil))) (.ife (.cmp .LtE (.var 4) (.con (.int 0))) (.tup (.cons (.var 2) (.cons (.var 3) .nil))) (.tup (.cons (.var 3) (.cons (.var 2) .nil))))
def lgiv_2 : CS := .ite (.cmp .In (.var 0) (.tup (.cons (.con (.str "and")) (.cons (.con (.str "or")) .nil)))) (.cons (.ret (.ife (.cmp .Eq (.var 0) (.con (.str "and"))) (.var 5) (.var 6))) .nil) .nil
def lgiv_3 (k25 : Nat) : CS := .ite (.cmp .Eq (.var 0) (.con (.str "same"))) (.cons (.ret (.ife (.cmp .Eq (.var 4) (.con (.int 0))) (.tup (.cons (.con (.str "one")) .nil)) (.call k25 (.cons (.con (.str "leads")) (.cons (.var 1) (.cons (.var 6) (.cons (.var 5) .nil))))))) .nil) .nil
def lgiv_4 : CS := .ite (.and (.cmp .Eq (.var 0) (.con (.str "leads"))) (.cmp .LtE (.var 4) (.con (.int 0)))) (.cons (.ret (.tup (.cons (.con (.str "one")) .nil))) .nil) .nil
def lgiv_5 : CS := .ite (.or (.cmp .Eq (.blt .len (.cons (.var 2) .nil)) (.con (.int 1))) (.or (.cmp .Eq (.blt .len (.cons (.var 3) .nil)) (.con (.int 1))) (.cmp .NotEq (.idx (.var 2) (.con (.int 1))) (.idx (.var 3) (.con (.int 1)))))) (.cons (.ret (.ife (.cmp .Eq (.var 0) (.con (.str "times"))) (.var 5) (.var 3))) .nil) .nil
def lgiv_6 : CS := .asg (.tup (.cons (.nam 7) (.cons (.tup (.cons (.nam 8) (.cons (.nam 9) .nil))) (.cons (.tup (.cons (.nam 10) (.cons (.nam 11) .nil))) .nil)))) (.tup (.cons (.idx (.var 1) (.idx (.var 2) (.con (.int 1)))) (.cons (.idx (.var 2) (.con (.int 2))) (.cons (.idx (.var 3) (.con (.int 2))) .nil))))
def lgiv_7 : CS := .ite (.cmp .Eq (.var 0) (.con (.str "times"))) (.cons (.asg (.nam 12) (.ife (.cmp .Eq (.var 7) (.con (.str "sum"))) (.tup (.cons (.blt .max2 (.cons (.con (.int 0)) (.cons (.bin .Sub (.bin .Add (.bin .Mult (.var 8) (.var 11)) (.bin .Mult (.var 10) (.var 9))) (.bin .Mult (.var 9) (.var 11))) .nil))) (.cons (.bin .Mult (.var 9) (.var 11)) .nil))) (.ife (.cmp .Eq (.var 7) (.con (.str "product"))) (.tup (.cons (.bin .Mult (.var 8) (.var 10)) (.cons (.bin .Mult (.var 9) (.var 11)) .nil))) (.idx (.var 5) (.con (.int 2)))))) .nil) (.cons (.asg (.nam 12) (.ife (.cmp .Eq (.var 7) (.con (.str "sum"))) (.tup (.cons (.bin .Add (.bin .Sub (.bin .Mult (.var 9) (.var 11)) (.bin .Mult (.var 8) (.var 11))) (.bin .Mult (.var 10) (.var 9))) (.cons (.bin .Mult (.var 9) (.var 11)) .nil))) (.ife (.cmp .Eq (.var 7) (.con (.str "product"))) (.tup (.cons (.bin .Mult (.var 10) (.var 9)) (.cons (.bin .Mult (.var 11) (.var 8)) .nil))) (.idx (.var 3) (.con (.int 2)))))) .nil)
def lgiv_8 (k22 : Nat) : CS := .ret (.tup (.cons (.con (.str "in")) (.cons (.idx (.var 2) (.con (.int 1))) (.cons (.call k22 (.cons (.idx (.var 12) (.con (.int 0))) (.cons (.idx (.var 12) (.con (.int 1))) .nil))) .nil))))
def lgivF (k24 k25 k22 : Nat) : FD := ⟨4, 13, .cons (lgiv_0 k24) (.cons lgiv_1 (.cons lgiv_2 (.cons (lgiv_3 k25) (.cons lgiv_4 (.cons lgiv_5 (.cons lgiv_6 (.cons lgiv_7 (.cons (lgiv_8 k22) (.nil)))))))))⟩
def lgrd_0 (k20 : Nat) : CS := .ite (.cmp .Eq (.call k20 (.cons (.var 0) (.cons (.con (.int 5)) .nil))) (.con (.int 0))) (.cons (.ret (.tup (.cons (.con (.str "one")) .nil))) .nil) .nil
def lgrd_1 (k21 : Nat) : CS := .asg (.nam 2) (.call k21 (.cons (.var 0) (.cons (.lst (.cons (.con (.int 1)) (.cons (.con (.int 2)) (.cons (.con (.int 3)) (.cons (.con (.int 4)) (.cons (.con (.int 6)) (.cons (.con (.int 12)) (.cons (.bin .Pow (.con (.int 10)) (.con (.int 9))) .nil)))))))) .nil)))
def lgrd_2 (k20 k22 : Nat) : CS := .ret (.tup (.cons (.con (.str "in")) (.cons (.call k20 (.cons (.var 0) (.cons (.var 1) .nil))) (.cons (.call k22 (.cons (.call k20 (.cons (.var 0) (.cons (.var 2) .nil))) (.cons (.var 2) .nil))) .nil))))
def lgrdF (k20 k21 k22 : Nat) : FD := ⟨2, 3, .cons (lgrd_0 k20) (.cons (lgrd_1 k21) (.cons (lgrd_2 k20 k22) (.nil)))⟩
def lknd_0 (k21 k20 : Nat) : CS := .ret (.blt .tuple (.cons (.lc (.call k21 (.cons (.var 0) (.cons (.lst (.cons (.con (.str "sum")) (.cons (.con (.str "product")) (.cons (.con (.str "step")) .nil)))) .nil))) (.nam 2) (.rng1 (.bin .Add (.con (.int 1)) (.call k20 (.cons (.var 0) (.cons (.var 1) .nil))))) .none [2]) .nil))
def lkndF (k21 k20 : Nat) : FD := ⟨2, 3, .cons (lknd_0 k21 k20) (.nil)⟩
def look_0 (x0 g0 : Nat) : CS := .loop (.nam 2) (.seq (.var 1)) (.cons (.ite (.and (.cmp .NotEq (.var 2) (.glo g0)) (.cmp .GtE (.idx (.var 2) (.con (.int 1))) (.blt .len (.cons (.var 0) .nil)))) (.cons (.rais x0 (.var 2)) .nil) .nil) .nil)
def lookF (x0 g0 : Nat) : FD := ⟨2, 3, .cons (look_0 x0 g0) (.nil)⟩
inductive Gd where
  | one
  | at' (k : Nat) (a b : Int)
  deriving DecidableEq
namespace Gd
def d : Gd → PyData
  | .one => .tuple [.str "one"]
  | .at' k a b => .tuple [.str "in", .int k, .tuple [.int a, .int b]]
/-- a value below 1 in lowest terms, its size bounded -/
def ok : Gd → Prop
  | .one => True
  | .at' _ a b => 0 ≤ a ∧ a < b ∧ Int.gcd a b = 1 ∧ b < 2 ^ 400
end Gd
/-- the order of two values by cross products -/
def cmp2 (a b c d : Int) : Int := if a * d = c * b then 0 else if a * d < c * b then -1 else 1
def cmpG : Gd → Gd → Int
  | .one, .one => 0
  | .one, .at' _ _ _ => 1
  | .at' _ _ _, .one => -1
  | .at' k a b, .at' l c d => if k = l then cmp2 a b c d else if k < l then -1 else 1
theorem b400 {x : Int} (h0 : 0 ≤ x) (h : x < 2 ^ 400) : x.natAbs < 2 ^ 1000 := by
  have : (2 : Nat) ^ 400 < 2 ^ 1000 := Nat.pow_lt_pow_right (by decide) (by decide)
  have h2 : x.natAbs < 2 ^ 400 := by omega
  omega
theorem eqD {x y : PyData} (h1 : x.plain = true) (h2 : y.plain = true) (h3 : x.depth ≤ 180) : cmpD .Eq x y = some (PyData.eqv x y) := eq_neat h1 h2 h3
theorem gd_plain : ∀ x : Gd, x.d.plain = true
  | .one => rfl
  | .at' _ _ _ => rfl
theorem gd_depth : ∀ x : Gd, x.d.depth ≤ 5
  | .one => by simp [Gd.d, PyData.depth, PyData.depthAll]
  | .at' _ _ _ => by simp [Gd.d, PyData.depth, PyData.depthAll]
theorem gd_eq (x y : Gd) : cmpD .Eq x.d y.d = some (decide (x = y)) := by
  rw [eqD (gd_plain x) (gd_plain y) (by have := gd_depth x; omega)]
  cases x <;> cases y <;> simp [Gd.d, PyData.eqv, PyData.eqvAll]
  rename_i k a b l c e
  by_cases h1 : k = l <;> by_cases h2 : a = c <;> by_cases h3 : b = e <;> simp [h1, h2, h3] <;> omega
section
variable {T : List FD} {con : List PyData} {S : Sto}
theorem comp2_ok {k n : Nat} {a b c d : Int} (hn : 0 < n) (hT : T[k]? = some comparedF) (h1 : a.natAbs < 2 ^ 1000) (h2 : b.natAbs < 2 ^ 1000) (h3 : c.natAbs < 2 ^ 1000) (h4 : d.natAbs < 2 ^ 1000) :
    callF T 1000 con n k [.d (.tuple [.int a, .int b]), .d (.tuple [.int c, .int d])] S = .ok (.d (.int (cmp2 a b c d))) S := by
  obtain ⟨m, rfl⟩ : ∃ m, n = m + 1 := ⟨n - 1, by omega⟩
  rw [call_eq hT rfl]
  show finR S.length (svs _ comparedF.body [some (.d (.tuple [.int a, .int b])), some (.d (.tuple [.int c, .int d])), none, none] S) = _
  have e1 := mul_b h1 h4
  have e2 := mul_b h3 h2
  unfold cmp2
  by_cases q1 : a * d = c * b
  · simp [comparedF, compared_0, compared_1, compared_2, e1, e2, q1]
  · by_cases q2 : a * d < c * b
    · simp [comparedF, compared_0, compared_1, compared_2, e1, e2, q1, q2, negD]
    · simp [comparedF, compared_0, compared_1, compared_2, e1, e2, q1, q2]
/-- lowest terms: equal cross products, equal values -/
theorem low_cross {a b c d : Int} (hb : 0 < b) (hd : 0 < d) (h1 : Int.gcd a b = 1) (h2 : Int.gcd c d = 1) (e : a * d = c * b) : a = c ∧ b = d := by
  have k1 : Low a b (a * d) (b * d) := ⟨hb, h1, by rw [Int.mul_comm b d, Int.mul_assoc]⟩
  have k2 : Low c d (a * d) (b * d) := ⟨hd, h2, by rw [e, Int.mul_assoc]⟩
  exact low_unique k1 k2 (Int.mul_pos hb hd)
theorem cmpG_zero {x y : Gd} (hx : x.ok) (hy : y.ok) : cmpG x y = 0 ↔ x = y := by
  cases x with
  | one =>
    cases y with
    | one => simp [cmpG]
    | at' l c d => simp [cmpG]
  | at' k a b =>
    cases y with
    | one => simp [cmpG]
    | at' l c d =>
      obtain ⟨a0, ab, ga, ba⟩ := hx
      obtain ⟨c0, cd, gc, bc⟩ := hy
      simp only [cmpG]
      by_cases q : k = l
      · subst q
        rw [if_pos rfl]
        unfold cmp2
        constructor
        · intro h
          by_cases e : a * d = c * b
          · obtain ⟨rfl, rfl⟩ := low_cross (by omega) (by omega) ga gc e
            rfl
          · rw [if_neg e] at h
            split at h <;> cases h
        · intro h
          cases h
          rw [if_pos rfl]
      · rw [if_neg q]
        constructor
        · intro h
          split at h <;> cases h
        · intro h
          cases h
          exact absurd rfl q
theorem one_d : PyData.tuple [.str "one"] = Gd.one.d := rfl
theorem cmpg_ok {k k6 g n : Nat} {x y : Gd} (hn : 1 < n) (h6 : T[k6]? = some comparedF) (hT : T[k]? = some (cmpgF g k6)) (hg : con[g]? = some Gd.one.d) (hx : x.ok) (hy : y.ok) : callF T 1000 con n k [.d x.d, .d y.d] S = .ok (.d (.int (cmpG x y))) S := by
  obtain ⟨m, rfl⟩ : ∃ m, n = m + 1 := ⟨n - 1, by omega⟩
  rw [call_eq hT rfl]
  show finR S.length (svs _ (cmpgF g k6).body [some (.d x.d), some (.d y.d)] S) = _
  have e0 := gd_eq x y
  have e1 := gd_eq x .one
  have e2 := gd_eq y .one
  have hz := cmpG_zero hx hy
  by_cases q : x = y
  · have := hz.mpr q
    rw [this]
    subst q
    simp [cmpgF, cmpg_0, e0]
  · cases x with
    | one =>
      cases y with
      | one => exact absurd rfl q
      | at' l c d => simp [cmpgF, cmpg_0, cmpg_1, e0, e1, e2, q, hg, cmpG]
    | at' i a b =>
      cases y with
      | one => simp [cmpgF, cmpg_0, cmpg_1, e0, e1, e2, q, hg, cmpG, negD]
      | at' l c d =>
        obtain ⟨a0, ab, ga, ba⟩ := hx
        obtain ⟨c0, cd, gc, bc⟩ := hy
        have e3 := comp2_ok (T := T) (con := con) (S := S) (k := k6) (n := m) (a := a) (b := b) (c := c) (d := d) (by omega) h6 (b400 a0 (by omega)) (b400 (by omega) ba) (b400 c0 (by omega)) (b400 (by omega) bc)
        have f0 : cmpD .Eq (Gd.at' i a b).d (Gd.at' l c d).d = some false := by rw [e0, decide_eq_false q]
        have f1 : cmpD .Eq (Gd.at' i a b).d Gd.one.d = some false := by rw [e1]; rfl
        have f2 : cmpD .Eq (Gd.at' l c d).d Gd.one.d = some false := by rw [e2]; rfl
        simp only [Gd.d] at f0 f1 f2 hg
        by_cases h1 : i = l
        · subst h1
          simp [cmpgF, cmpg_0, cmpg_1, cmpg_2, cmpg_3, Gd.d, f0, f1, f2, hg, e3, cmpG]
        · have h1' : ¬ (i : Int) = l := by omega
          by_cases h2 : i < l
          · have h2' : (i : Int) < l := by omega
            simp [cmpgF, cmpg_0, cmpg_1, cmpg_2, Gd.d, f0, f1, f2, hg, h1, h1', h2, h2', cmpG, negD]
          · have h2' : ¬ (i : Int) < l := by omega
            simp [cmpgF, cmpg_0, cmpg_1, cmpg_2, Gd.d, f0, f1, f2, hg, h1, h1', h2, h2', cmpG]
theorem lbef_ok {k n : Nat} {x y : Gd} (hn : 0 < n) (hT : T[k]? = some lbefF) (hx : x.ok) (hy : y.ok) : callF T 1000 con n k [.d x.d, .d y.d] S = .ok (.d (.int (cmpG x y))) S := by
  obtain ⟨m, rfl⟩ : ∃ m, n = m + 1 := ⟨n - 1, by omega⟩
  rw [call_eq hT rfl]
  show finR S.length (svs _ lbefF.body [some (.d x.d), some (.d y.d), none, none] S) = _
  cases x with
  | one =>
    cases y with
    | one => simp [lbefF, lbef_0, Gd.d, cmpG]
    | at' l c d => simp [lbefF, lbef_0, Gd.d, cmpG]
  | at' i a b =>
    cases y with
    | one => simp [lbefF, lbef_0, Gd.d, cmpG, negD]
    | at' l c d =>
      obtain ⟨a0, ab, ga, ba⟩ := hx
      obtain ⟨c0, cd, gc, bc⟩ := hy
      have e1 := mul_b (i := a) (j := d) (b400 a0 (by omega)) (b400 (by omega) bc)
      have e2 := mul_b (i := c) (j := b) (b400 c0 (by omega)) (b400 (by omega) ba)
      by_cases h1 : i = l
      · subst h1
        by_cases h2 : a * d = c * b
        · simp [lbefF, lbef_0, lbef_1, lbef_2, lbef_3, Gd.d, cmpG, cmp2, e1, e2, h2]
        · by_cases h3 : a * d < c * b
          · simp [lbefF, lbef_0, lbef_1, lbef_2, lbef_3, Gd.d, cmpG, cmp2, e1, e2, h2, h3, negD]
          · simp [lbefF, lbef_0, lbef_1, lbef_2, lbef_3, Gd.d, cmpG, cmp2, e1, e2, h2, h3]
      · have h1' : ¬ (i : Int) = l := by omega
        by_cases h2 : i < l
        · have h2' : (i : Int) < l := by omega
          simp [lbefF, lbef_0, lbef_1, Gd.d, cmpG, h1, h1', h2, h2', negD]
        · have h2' : ¬ (i : Int) < l := by omega
          simp [lbefF, lbef_0, lbef_1, Gd.d, cmpG, h1, h1', h2, h2']
/-- the value of two in one piece, as a pair that is brought to lowest terms -/
def insT (kind : Str) (a b c d : Int) : Int × Int :=
  if kind = Str.ofString "sum" then (max 0 (a * d + c * b - b * d), b * d) else if kind = Str.ofString "product" then (a * c, b * d) else if a * d ≤ c * b then (a, b) else (c, d)
def insL (kind : Str) (a b c d : Int) : Int × Int :=
  if kind = Str.ofString "sum" then (b * d - a * d + c * b, b * d) else if kind = Str.ofString "product" then (c * b, d * a) else (c, d)
def lowG (k : Nat) (p : Int × Int) : Gd := .at' k (lowA p.1 p.2) (lowB p.1 p.2)
def kindAt (kinds : List Str) (k : Nat) : Str := kinds.getD k "step"
def leadG (kinds : List Str) (x y : Gd) : Gd := if cmpG x y ≤ 0 then .one else match x, y with
  | .at' k a b, .at' l c d => if k = l then lowG k (insL (kindAt kinds k) a b c d) else .at' l c d
  | _, y => y
def timesG (kinds : List Str) : Gd → Gd → Gd
  | .at' k a b, .at' l c d => if k = l then lowG k (insT (kindAt kinds k) a b c d) else if k < l then .at' k a b else .at' l c d
  | .one, y => y
  | x, .one => x
def gop (kinds : List Str) (m : Str) (x y : Gd) : Gd :=
  if m = Str.ofString "and" then (if cmpG x y ≤ 0 then x else y) else if m = Str.ofString "or" then (if cmpG x y ≤ 0 then y else x)
  else if m = Str.ofString "same" then (if cmpG x y = 0 then .one else if cmpG x y ≤ 0 then leadG kinds y x else leadG kinds x y)
  else if m = Str.ofString "leads" then leadG kinds x y else timesG kinds x y
theorem low_id {a b : Int} (hb : 0 < b) (hg : Int.gcd a b = 1) : lowI a b = .tuple [.int a, .int b] := lowI_of ⟨hb, hg, rfl⟩ hb
theorem low_up {a b d : Int} (hb : 0 < b) (hd : 0 < d) (hg : Int.gcd a b = 1) : lowI (a * d) (b * d) = .tuple [.int a, .int b] :=
  lowI_of ⟨hb, hg, by rw [Int.mul_comm b d, Int.mul_assoc]⟩ (Int.mul_pos hb hd)
theorem low_up' {c b d : Int} (hb : 0 < b) (hd : 0 < d) (hg : Int.gcd c d = 1) : lowI (c * b) (b * d) = .tuple [.int c, .int d] :=
  lowI_of ⟨hd, hg, by rw [Int.mul_assoc]⟩ (Int.mul_pos hb hd)
/-- fraction(n, D), from 0 to 1 -/
theorem frac_ok {k kl kc x0 n : Nat} {a D : Int} (hn : 2 < n) (hC : T[kc]? = some comF) (hL : T[kl]? = some (lowestF kc)) (hT : T[k]? = some (fractionF kl x0)) (h0 : 0 < D) (hD : D < 2 ^ 499) (ha : 0 ≤ a) (hb : a ≤ D) : callF T 1000 con n k [.d (.int a), .d (.int D)] S = .ok (.d (lowI a D)) S := by
  obtain ⟨m, rfl⟩ : ∃ m, n = m + 1 := ⟨n - 1, by omega⟩
  rw [call_eq hT rfl]
  show finR S.length (svs _ (fractionF kl x0).body [some (.d (.int a)), some (.d (.int D)), none] S) = _
  have e := lowest_ok (con := con) (n := m) (a := a) (b := D) (S := S) (by omega) hC hL h0 hD
  have h1 := lowA_nn h0 ha
  have h2 := lowA_le h0 hb
  simp [fractionF, fraction_0, fraction_1, fraction_2, e, lowI_ab, h1, h2]
structure GrT (T : List FD) (con : List PyData) (x0 x1 g0 kc kl kf kv kp ko kq kg ki kh kn : Nat) : Prop where
  w0 : con[g0]? = some Gd.one.d
  hC : T[kc]? = some comF
  hL : T[kl]? = some (lowestF kc)
  hF : T[kf]? = some (fractionF kl x0)
  hV : T[kv]? = some comparedF
  hP : T[kp]? = some (plusF kl)
  hO : T[ko]? = some oppositeF
  hQ : T[kq]? = some cappedF
  hG : T[kg]? = some (given_byF kq kp ko kv)
  hI : T[ki]? = some (insideF kg kv kf)
  hH : T[kh]? = some (cmpgF g0 kv)
  hN : T[kn]? = some (cgivenF x1 kh kn g0 ki)
/-- bounds of two values in a piece -/
structure Two (kind : Str) (a b c d : Int) : Prop where
  a0 : 0 ≤ a
  ab : a < b
  ga : Int.gcd a b = 1
  c0 : 0 ≤ c
  cd : c < d
  gc : Int.gcd c d = 1
  b4 : b < 2 ^ 400
  d4 : d < 2 ^ 400
  sm : kind = Str.ofString "sum" → b * d < big
  pr : kind = Str.ofString "product" → b * d < 2 ^ 499
theorem insT_ok {x0 x1 g0 kc kl kf kv kp ko kq kg ki kh kn n : Nat} {kind : Str} {a b c d : Int} (V : GrT T con x0 x1 g0 kc kl kf kv kp ko kq kg ki kh kn) (hn : 6 < n) (hk : kind = Str.ofString "sum" ∨ kind = Str.ofString "product" ∨ kind = Str.ofString "step") (B : Two kind a b c d) (hle : a * d ≤ c * b) :
    callF T 1000 con n ki [.d (.str "times"), .d (.str kind), .d (.tuple [.int a, .int b]), .d (.tuple [.int c, .int d])] S = .ok (.d (lowI (insT kind a b c d).1 (insT kind a b c d).2)) S := by
  obtain ⟨m, rfl⟩ : ∃ m, n = m + 1 := ⟨n - 1, by omega⟩
  rw [call_eq V.hI rfl]
  show finR S.length (svs _ (insideF kg kv kf).body [some (.d (.str "times")), some (.d (.str kind)), some (.d (.tuple [.int a, .int b])), some (.d (.tuple [.int c, .int d]))] S) = _
  have hb : 0 < b := by have := B.a0; have := B.ab; omega
  have hd : 0 < d := by have := B.c0; have := B.cd; omega
  have hbd := Int.mul_pos hb hd
  rcases hk with rfl | rfl | rfl
  · have f1 : Fr (a * d) (b * d) := ⟨Int.mul_nonneg B.a0 (by omega), Int.mul_le_mul_of_nonneg_right (by have := B.ab; omega) (by omega)⟩
    have f2 : Fr (c * b) (b * d) := ⟨Int.mul_nonneg B.c0 (by omega), by rw [Int.mul_comm b d]; exact Int.mul_le_mul_of_nonneg_right (by have := B.cd; omega) (by omega)⟩
    have e := given_by_ok (m := Str.ofString "times") (con := con) (n := m) (S := S) (by omega) V.hC V.hL V.hP V.hO V.hQ V.hV V.hG hbd (B.sm rfl) (by decide +kernel) f1 f2
    rw [low_up hb hd B.ga, low_up' hb hd B.gc] at e
    have hg : gm (Str.ofString "times") (a * d) (c * b) (b * d) = max 0 (a * d + c * b - b * d) := by simp [gm]
    rw [hg] at e
    simp [insideF, inside_0, insT, e]
  · have e1 := mul_b (i := a) (j := c) (b400 B.a0 (by have := B.ab; have := B.b4; omega)) (b400 B.c0 (by have := B.cd; have := B.d4; omega))
    have e2 := mul_b (i := b) (j := d) (b400 (by omega) B.b4) (b400 (by omega) B.d4)
    have h1 : a * c ≤ b * d := Int.mul_le_mul (by have := B.ab; omega) (by have := B.cd; omega) B.c0 (by omega)
    have e := frac_ok (T := T) (con := con) (S := S) (n := m) (a := a * c) (D := b * d) (by omega) V.hC V.hL V.hF hbd (B.pr rfl) (Int.mul_nonneg B.a0 B.c0) h1
    simp [insideF, inside_0, inside_1, inside_2, insT, e, e1, e2]
  · have e := comp2_ok (T := T) (con := con) (S := S) (k := kv) (n := m) (a := a) (b := b) (c := c) (d := d) (by omega) V.hV (b400 B.a0 (by have := B.ab; have := B.b4; omega)) (b400 (by omega) B.b4) (b400 B.c0 (by have := B.cd; have := B.d4; omega)) (b400 (by omega) B.d4)
    have hi : insT (Str.ofString "step") a b c d = (a, b) := by simp [insT, hle]
    rw [hi]
    show _ = R.ok (E.d (lowI a b)) S
    rw [low_id hb B.ga]
    unfold cmp2 at e
    by_cases q : a * d = c * b
    · obtain ⟨rfl, rfl⟩ := low_cross hb hd B.ga B.gc q
      simp [insideF, inside_0, inside_1, e]
    · have q2 : a * d < c * b := by omega
      simp [insideF, inside_0, inside_1, e, q, q2]
theorem insL_ok {x0 x1 g0 kc kl kf kv kp ko kq kg ki kh kn n : Nat} {kind : Str} {a b c d : Int} (V : GrT T con x0 x1 g0 kc kl kf kv kp ko kq kg ki kh kn) (hn : 6 < n) (hk : kind = Str.ofString "sum" ∨ kind = Str.ofString "product" ∨ kind = Str.ofString "step") (B : Two kind a b c d) (hlt : c * b < a * d) :
    callF T 1000 con n ki [.d (.str "leads"), .d (.str kind), .d (.tuple [.int a, .int b]), .d (.tuple [.int c, .int d])] S = .ok (.d (lowI (insL kind a b c d).1 (insL kind a b c d).2)) S := by
  obtain ⟨m, rfl⟩ : ∃ m, n = m + 1 := ⟨n - 1, by omega⟩
  rw [call_eq V.hI rfl]
  show finR S.length (svs _ (insideF kg kv kf).body [some (.d (.str "leads")), some (.d (.str kind)), some (.d (.tuple [.int a, .int b])), some (.d (.tuple [.int c, .int d]))] S) = _
  have hb : 0 < b := by have := B.a0; have := B.ab; omega
  have hd : 0 < d := by have := B.c0; have := B.cd; omega
  have hbd := Int.mul_pos hb hd
  have hcb : 0 ≤ c * b := Int.mul_nonneg B.c0 (by omega)
  rcases hk with rfl | rfl | rfl
  · have f1 : Fr (a * d) (b * d) := ⟨Int.mul_nonneg B.a0 (by omega), Int.mul_le_mul_of_nonneg_right (by have := B.ab; omega) (by omega)⟩
    have f2 : Fr (c * b) (b * d) := ⟨hcb, by rw [Int.mul_comm b d]; exact Int.mul_le_mul_of_nonneg_right (by have := B.cd; omega) (by omega)⟩
    have e := given_by_ok (m := Str.ofString "leads") (con := con) (n := m) (S := S) (by omega) V.hC V.hL V.hP V.hO V.hQ V.hV V.hG hbd (B.sm rfl) (by decide +kernel) f1 f2
    rw [low_up hb hd B.ga, low_up' hb hd B.gc] at e
    have hg : gm (Str.ofString "leads") (a * d) (c * b) (b * d) = b * d - a * d + c * b := by
      simp [gm]
      omega
    rw [hg] at e
    simp [insideF, inside_0, insL, e]
  · have e1 := mul_b (i := c) (j := b) (b400 B.c0 (by have := B.cd; have := B.d4; omega)) (b400 (by omega) B.b4)
    have e2 := mul_b (i := d) (j := a) (b400 (by omega) B.d4) (b400 B.a0 (by have := B.ab; have := B.b4; omega))
    have hda : d * a = a * d := Int.mul_comm d a
    have h1 : a * d ≤ b * d := Int.mul_le_mul_of_nonneg_right (by have := B.ab; omega) (by omega)
    have e := frac_ok (T := T) (con := con) (S := S) (n := m) (a := c * b) (D := d * a) (by omega) V.hC V.hL V.hF (by omega) (by have := B.pr rfl; omega) hcb (by omega)
    simp [insideF, inside_0, inside_1, inside_2, inside_3, insL, e, e1, e2]
  · have hi : insL (Str.ofString "step") a b c d = (c, d) := by simp [insL]
    rw [hi]
    show _ = R.ok (E.d (lowI c d)) S
    rw [low_id hd B.gc]
    simp [insideF, inside_0, inside_1]
structure Pr (kinds : List Str) (x y : Gd) : Prop where
  ox : x.ok
  oy : y.ok
  two : ∀ k a b c d, x = .at' k a b → y = .at' k c d → k < kinds.length ∧ (kindAt kinds k = Str.ofString "sum" ∨ kindAt kinds k = Str.ofString "product" ∨ kindAt kinds k = Str.ofString "step") ∧ Two (kindAt kinds k) a b c d
theorem kind_idx {kinds : List Str} {k : Nat} (h : k < kinds.length) : idxD (.tuple (txs kinds)) (.int k) = some (.str (kindAt kinds k)) := by
  rw [idxD_t, atI_nat (by simpa using h)]
  simp [kindAt, h]
theorem lowG_d {k : Nat} {p : Int × Int} : (lowG k p).d = .tuple [.str "in", .int k, lowI p.1 p.2] := rfl
theorem lead_ok {x0 x1 g0 kc kl kf kv kp ko kq kg ki kh kn n : Nat} {kinds : List Str} {x y : Gd} (V : GrT T con x0 x1 g0 kc kl kf kv kp ko kq kg ki kh kn) (hn : 8 < n) (B : Pr kinds x y) :
    callF T 1000 con n kn [.d (.str "leads"), .d (.tuple (txs kinds)), .d x.d, .d y.d] S = .ok (.d (leadG kinds x y).d) S := by
  obtain ⟨m, rfl⟩ : ∃ m, n = m + 1 := ⟨n - 1, by omega⟩
  rw [call_eq V.hN rfl]
  show finR S.length (svs _ (cgivenF x1 kh kn g0 ki).body [some (.d (.str "leads")), some (.d (.tuple (txs kinds))), some (.d x.d), some (.d y.d), none, none, none] S) = _
  have e := cmpg_ok (con := con) (n := m) (S := S) (by omega) V.hV V.hH V.w0 B.ox B.oy
  have ex := gd_eq x .one
  have ey := gd_eq y .one
  by_cases q : cmpG x y ≤ 0
  · have hl : leadG kinds x y = .one := by unfold leadG; rw [if_pos q]
    rw [hl]
    simp [cgivenF, cgiven_0, cgiven_1, cgiven_2, cgiven_3, cgiven_4, cgiven_5, cgiven_6, e, q, sizeLine_eq, V.w0]
  · cases x with
    | one =>
      have hl : leadG kinds .one y = y := by unfold leadG; rw [if_neg q]
      rw [hl]
      simp [cgivenF, cgiven_0, cgiven_1, cgiven_2, cgiven_3, cgiven_4, cgiven_5, cgiven_6, cgiven_7, e, ex, q, sizeLine_eq, V.w0]
    | at' k a b =>
      cases y with
      | one => exact absurd (by simp [cmpG]) q
      | at' l c d =>
        have f1 : cmpD .Eq (Gd.at' k a b).d Gd.one.d = some false := by rw [ex]; rfl
        have f2 : cmpD .Eq (Gd.at' l c d).d Gd.one.d = some false := by rw [ey]; rfl
        have i1 : idxD (Gd.at' k a b).d (.int 1) = some (.int k) := by simp [Gd.d]
        have i2 : idxD (Gd.at' l c d).d (.int 1) = some (.int l) := by simp [Gd.d]
        have j1 : idxD (Gd.at' k a b).d (.int 2) = some (.tuple [.int a, .int b]) := by simp [Gd.d]
        have j2 : idxD (Gd.at' l c d).d (.int 2) = some (.tuple [.int c, .int d]) := by simp [Gd.d]
        by_cases h1 : k = l
        · subst h1
          obtain ⟨h2, h3, h4⟩ := B.two k a b c d rfl rfl
          have hlt : c * b < a * d := by
            simp only [cmpG, if_true, cmp2] at q
            by_cases z1 : a * d = c * b
            · rw [if_pos z1] at q; exact absurd (Int.le_refl 0) q
            · by_cases z2 : a * d < c * b
              · rw [if_neg z1, if_pos z2] at q
                exact absurd (by decide) q
              · omega
          have e2 := insL_ok (n := m) (S := S) V (by omega) h3 h4 hlt
          have hl : leadG kinds (.at' k a b) (.at' k c d) = lowG k (insL (kindAt kinds k) a b c d) := by
            unfold leadG
            rw [if_neg q]
            simp
          rw [hl, lowG_d]
          have hk := kind_idx h2
          generalize (Gd.at' k a b).d = X at *
          generalize (Gd.at' k c d).d = Y at *
          simp [cgivenF, cgiven_0, cgiven_1, cgiven_2, cgiven_3, cgiven_4, cgiven_5, cgiven_6, cgiven_7, cgiven_8, cgiven_9, e, q, sizeLine_eq, V.w0, f1, f2, i1, i2, j1, j2, hk, e2]
        · have hl : leadG kinds (.at' k a b) (.at' l c d) = .at' l c d := by
            unfold leadG
            rw [if_neg q]
            simp [h1]
          rw [hl]
          have h1' : ¬ (k : Int) = l := by omega
          generalize (Gd.at' k a b).d = X at *
          generalize (Gd.at' l c d).d = Y at *
          simp [cgivenF, cgiven_0, cgiven_1, cgiven_2, cgiven_3, cgiven_4, cgiven_5, cgiven_6, cgiven_7, e, q, sizeLine_eq, V.w0, f1, f2, i1, i2, h1, h1']
theorem insT_comm {kind : Str} {a b c d : Int} (h : c * b < a * d) : insT kind c d a b = insT kind a b c d := by
  unfold insT
  by_cases h1 : kind = Str.ofString "sum"
  · rw [if_pos h1, if_pos h1, Int.mul_comm d b, Int.add_comm (c * b)]
  · rw [if_neg h1, if_neg h1]
    by_cases h2 : kind = Str.ofString "product"
    · rw [if_pos h2, if_pos h2, Int.mul_comm c a, Int.mul_comm d b]
    · rw [if_neg h2, if_neg h2, if_pos (by omega), if_neg (by omega)]
theorem times_ok {x0 x1 g0 kc kl kf kv kp ko kq kg ki kh kn n : Nat} {kinds : List Str} {x y : Gd} (V : GrT T con x0 x1 g0 kc kl kf kv kp ko kq kg ki kh kn) (hn : 8 < n) (B : Pr kinds x y) (B2 : Pr kinds y x) :
    callF T 1000 con n kn [.d (.str "times"), .d (.tuple (txs kinds)), .d x.d, .d y.d] S = .ok (.d (timesG kinds x y).d) S := by
  obtain ⟨m, rfl⟩ : ∃ m, n = m + 1 := ⟨n - 1, by omega⟩
  rw [call_eq V.hN rfl]
  show finR S.length (svs _ (cgivenF x1 kh kn g0 ki).body [some (.d (.str "times")), some (.d (.tuple (txs kinds))), some (.d x.d), some (.d y.d), none, none, none] S) = _
  have e := cmpg_ok (con := con) (n := m) (S := S) (by omega) V.hV V.hH V.w0 B.ox B.oy
  have ex := gd_eq x .one
  have ey := gd_eq y .one
  cases x with
  | one =>
    cases y with
    | one => simp [cgivenF, cgiven_0, cgiven_1, cgiven_2, cgiven_3, cgiven_4, cgiven_5, cgiven_6, cgiven_7, e, ex, sizeLine_eq, V.w0, cmpG, timesG]
    | at' l c d => simp [cgivenF, cgiven_0, cgiven_1, cgiven_2, cgiven_3, cgiven_4, cgiven_5, cgiven_6, cgiven_7, e, ex, sizeLine_eq, V.w0, cmpG, timesG]
  | at' k a b =>
    have f1 : cmpD .Eq (Gd.at' k a b).d Gd.one.d = some false := by rw [ex]; rfl
    cases y with
    | one => simp [cgivenF, cgiven_0, cgiven_1, cgiven_2, cgiven_3, cgiven_4, cgiven_5, cgiven_6, cgiven_7, e, f1, ey, sizeLine_eq, V.w0, cmpG, timesG]
    | at' l c d =>
      have f2 : cmpD .Eq (Gd.at' l c d).d Gd.one.d = some false := by rw [ey]; rfl
      have i1 : idxD (Gd.at' k a b).d (.int 1) = some (.int k) := by simp [Gd.d]
      have i2 : idxD (Gd.at' l c d).d (.int 1) = some (.int l) := by simp [Gd.d]
      have j1 : idxD (Gd.at' k a b).d (.int 2) = some (.tuple [.int a, .int b]) := by simp [Gd.d]
      have j2 : idxD (Gd.at' l c d).d (.int 2) = some (.tuple [.int c, .int d]) := by simp [Gd.d]
      by_cases h1 : k = l
      · subst h1
        obtain ⟨h2, h3, h4⟩ := B.two k a b c d rfl rfl
        obtain ⟨_, _, h5⟩ := B2.two k c d a b rfl rfl
        have hk := kind_idx h2
        have hl : timesG kinds (.at' k a b) (.at' k c d) = lowG k (insT (kindAt kinds k) a b c d) := by simp [timesG]
        rw [hl, lowG_d]
        have hq : (cmpG (.at' k a b) (.at' k c d) ≤ 0) ↔ a * d ≤ c * b := by
          simp only [cmpG, if_true, cmp2]
          by_cases z1 : a * d = c * b
          · rw [if_pos z1]; omega
          · by_cases z2 : a * d < c * b
            · rw [if_neg z1, if_pos z2]; omega
            · rw [if_neg z1, if_neg z2]; omega
        by_cases q : cmpG (.at' k a b) (.at' k c d) ≤ 0
        · have e2 := insT_ok (n := m) (S := S) V (by omega) h3 h4 (hq.mp q)
          generalize (Gd.at' k a b).d = X at *
          generalize (Gd.at' k c d).d = Y at *
          simp [cgivenF, cgiven_0, cgiven_1, cgiven_2, cgiven_3, cgiven_4, cgiven_5, cgiven_6, cgiven_7, cgiven_8, e, q, sizeLine_eq, V.w0, f1, f2, i1, i2, j1, j2, hk, e2]
        · have hlt : c * b < a * d := by
            have := mt hq.mpr q
            omega
          have e2 := insT_ok (n := m) (S := S) V (by omega) h3 h5 (by omega)
          rw [insT_comm hlt] at e2
          generalize (Gd.at' k a b).d = X at *
          generalize (Gd.at' k c d).d = Y at *
          simp [cgivenF, cgiven_0, cgiven_1, cgiven_2, cgiven_3, cgiven_4, cgiven_5, cgiven_6, cgiven_7, cgiven_8, e, q, sizeLine_eq, V.w0, f1, f2, i1, i2, j1, j2, hk, e2]
      · have h1' : ¬ (k : Int) = l := by omega
        by_cases h2 : k < l
        · have hl : timesG kinds (.at' k a b) (.at' l c d) = .at' k a b := by simp [timesG, h1, h2]
          have hc : cmpG (.at' k a b) (.at' l c d) = -1 := by simp [cmpG, h1, h2]
          rw [hl]
          rw [hc] at e
          generalize (Gd.at' k a b).d = X at *
          generalize (Gd.at' l c d).d = Y at *
          simp [cgivenF, cgiven_0, cgiven_1, cgiven_2, cgiven_3, cgiven_4, cgiven_5, cgiven_6, cgiven_7, e, sizeLine_eq, V.w0, f1, f2, i1, i2, h1, h1']
        · have hl : timesG kinds (.at' k a b) (.at' l c d) = .at' l c d := by simp [timesG, h1, h2]
          have hc : cmpG (.at' k a b) (.at' l c d) = 1 := by simp [cmpG, h1, h2]
          rw [hl]
          rw [hc] at e
          generalize (Gd.at' k a b).d = X at *
          generalize (Gd.at' l c d).d = Y at *
          simp [cgivenF, cgiven_0, cgiven_1, cgiven_2, cgiven_3, cgiven_4, cgiven_5, cgiven_6, cgiven_7, e, sizeLine_eq, V.w0, f1, f2, i1, i2, h1, h1']
theorem given_ok {x0 x1 g0 kc kl kf kv kp ko kq kg ki kh kn n : Nat} {kinds : List Str} {w : Str} {x y : Gd} (V : GrT T con x0 x1 g0 kc kl kf kv kp ko kq kg ki kh kn) (hn : 9 < n) (hw : w = Str.ofString "times" ∨ w = Str.ofString "leads" ∨ w = Str.ofString "and" ∨ w = Str.ofString "or" ∨ w = Str.ofString "same") (B : Pr kinds x y) (B2 : Pr kinds y x) :
    callF T 1000 con n kn [.d (.str w), .d (.tuple (txs kinds)), .d x.d, .d y.d] S = .ok (.d (gop kinds w x y).d) S := by
  rcases hw with rfl | rfl | rfl | rfl | rfl
  · have hg : gop kinds (Str.ofString "times") x y = timesG kinds x y := by simp [gop]
    rw [hg]
    exact times_ok V (by omega) B B2
  · have hg : gop kinds (Str.ofString "leads") x y = leadG kinds x y := by simp [gop]
    rw [hg]
    exact lead_ok V (by omega) B
  all_goals
    obtain ⟨m, rfl⟩ : ∃ m, n = m + 1 := ⟨n - 1, by omega⟩
    rw [call_eq V.hN rfl]
    have e := cmpg_ok (con := con) (n := m) (S := S) (by omega) V.hV V.hH V.w0 B.ox B.oy
    have e1 := lead_ok (S := S) (n := m) V (by omega) B
    have e2 := lead_ok (S := S) (n := m) V (by omega) B2
  · show finR S.length (svs _ (cgivenF x1 kh kn g0 ki).body [some (.d (.str "and")), some (.d (.tuple (txs kinds))), some (.d x.d), some (.d y.d), none, none, none] S) = _
    by_cases q : cmpG x y ≤ 0 <;> simp [cgivenF, cgiven_0, cgiven_1, cgiven_2, cgiven_3, e, q, sizeLine_eq, gop]
  · show finR S.length (svs _ (cgivenF x1 kh kn g0 ki).body [some (.d (.str "or")), some (.d (.tuple (txs kinds))), some (.d x.d), some (.d y.d), none, none, none] S) = _
    by_cases q : cmpG x y ≤ 0 <;> simp [cgivenF, cgiven_0, cgiven_1, cgiven_2, cgiven_3, cgiven_4, e, q, sizeLine_eq, gop]
  · show finR S.length (svs _ (cgivenF x1 kh kn g0 ki).body [some (.d (.str "same")), some (.d (.tuple (txs kinds))), some (.d x.d), some (.d y.d), none, none, none] S) = _
    by_cases z : cmpG x y = 0
    · simp [cgivenF, cgiven_0, cgiven_1, cgiven_2, cgiven_3, cgiven_4, cgiven_5, e, z, sizeLine_eq, gop, V.w0]
    · by_cases q : cmpG x y ≤ 0 <;> simp [cgivenF, cgiven_0, cgiven_1, cgiven_2, cgiven_3, cgiven_4, cgiven_5, e, z, q, e1, e2, sizeLine_eq, gop]
end
end Ht

set_option maxRecDepth 100000
set_option maxHeartbeats 16000000
/-! HtGs: the law's own marks between grades; grades of sayings. -/
namespace Ht
open PySem L2 PyProof.Rows
section
variable {T : List FD} {con : List PyData} {S : Sto}
theorem lglead_ok {kb kg kw n : Nat} {kinds : List Str} {x y : Gd} (hB : T[kb]? = some lbefF) (hG : T[kg]? = some (lgivF kb kg kw)) (hW : T[kw]? = some lowF) (hn : 2 < n) (B : Pr kinds x y) :
    callF T 1000 con n kg [.d (.str "leads"), .d (.tuple (txs kinds)), .d x.d, .d y.d] S = .ok (.d (leadG kinds x y).d) S := by
  obtain ⟨m, rfl⟩ : ∃ m, n = m + 1 := ⟨n - 1, by omega⟩
  rw [call_eq hG rfl]
  show finR S.length (svs _ (lgivF kb kg kw).body [some (.d (.str "leads")), some (.d (.tuple (txs kinds))), some (.d x.d), some (.d y.d), none, none, none, none, none, none, none, none, none] S) = _
  have e := lbef_ok (con := con) (n := m) (S := S) (by omega) hB B.ox B.oy
  by_cases q : cmpG x y ≤ 0
  · have hl : leadG kinds x y = .one := by unfold leadG; rw [if_pos q]
    rw [hl]
    simp [lgivF, lgiv_0, lgiv_1, lgiv_2, lgiv_3, lgiv_4, e, q, sizeLine_eq, in_ao, ← one_d]
  · cases x with
    | one =>
      have hl : leadG kinds .one y = y := by unfold leadG; rw [if_neg q]
      have l1 : bltD .len [Gd.one.d] = some (.int 1) := rfl
      rw [hl]
      generalize Gd.one.d = X at *
      simp [lgivF, lgiv_0, lgiv_1, lgiv_2, lgiv_3, lgiv_4, lgiv_5, e, q, sizeLine_eq, in_ao, l1]
    | at' k a b =>
      cases y with
      | one => exact absurd (by simp [cmpG]) q
      | at' l c d =>
        have l1 : bltD .len [(Gd.at' k a b).d] = some (.int 3) := rfl
        have l2 : bltD .len [(Gd.at' l c d).d] = some (.int 3) := rfl
        have i1 : idxD (Gd.at' k a b).d (.int 1) = some (.int k) := by simp [Gd.d]
        have i2 : idxD (Gd.at' l c d).d (.int 1) = some (.int l) := by simp [Gd.d]
        have j1 : idxD (Gd.at' k a b).d (.int 2) = some (.tuple [.int a, .int b]) := by simp [Gd.d]
        have j2 : idxD (Gd.at' l c d).d (.int 2) = some (.tuple [.int c, .int d]) := by simp [Gd.d]
        by_cases h1 : k = l
        · subst h1
          obtain ⟨h2, h3, h4⟩ := B.two k a b c d rfl rfl
          have hlt : c * b < a * d := by
            simp only [cmpG, if_true, cmp2] at q
            by_cases z1 : a * d = c * b
            · rw [if_pos z1] at q; exact absurd (Int.le_refl 0) q
            · by_cases z2 : a * d < c * b
              · rw [if_neg z1, if_pos z2] at q
                exact absurd (by decide) q
              · omega
          have hl : leadG kinds (.at' k a b) (.at' k c d) = lowG k (insL (kindAt kinds k) a b c d) := by
            unfold leadG
            rw [if_neg q]
            simp
          rw [hl, lowG_d]
          have hk := kind_idx h2
          have hb : 0 < b := by have := h4.a0; have := h4.ab; omega
          have hd : 0 < d := by have := h4.c0; have := h4.cd; omega
          have hcb : 0 ≤ c * b := Int.mul_nonneg h4.c0 (by omega)
          have hbd := Int.mul_pos hb hd
          have m1 := mul_b (i := b) (j := d) (b400 (by omega) h4.b4) (b400 (by omega) h4.d4)
          have m2 := mul_b (i := a) (j := d) (b400 h4.a0 (by have := h4.ab; have := h4.b4; omega)) (b400 (by omega) h4.d4)
          have m3 := mul_b (i := c) (j := b) (b400 h4.c0 (by have := h4.cd; have := h4.d4; omega)) (b400 (by omega) h4.b4)
          have m4 := mul_b (i := d) (j := a) (b400 (by omega) h4.d4) (b400 h4.a0 (by have := h4.ab; have := h4.b4; omega))
          generalize kindAt kinds k = kd at *
          generalize (Gd.at' k a b).d = X at *
          generalize (Gd.at' k c d).d = Y at *
          have big499 : (2 : Int) ^ 240 < 2 ^ 499 := by decide
          rcases h3 with rfl | rfl | rfl
          · have hs := h4.sm rfl
            unfold big at hs
            have e2 := low_ok (con := con) (S := S) (n := m) (k := kw) (a := b * d - a * d + c * b) (b := b * d) (by omega) hW hbd (by omega)
            have hi : insL (Str.ofString "sum") a b c d = (b * d - a * d + c * b, b * d) := by simp [insL]
            rw [hi]
            simp [lgivF, lgiv_0, lgiv_1, lgiv_2, lgiv_3, lgiv_4, lgiv_5, lgiv_6, lgiv_7, lgiv_8, e, q, sizeLine_eq, in_ao, l1, l2, i1, i2, j1, j2, hk, m1, m2, m3, e2]
          · have hs := h4.pr rfl
            have hda : d * a = a * d := Int.mul_comm d a
            have h1 : a * d ≤ b * d := Int.mul_le_mul_of_nonneg_right (by have := h4.ab; omega) (by omega)
            have e2 := low_ok (con := con) (S := S) (n := m) (k := kw) (a := c * b) (b := d * a) (by omega) hW (by omega) (by omega)
            have hi : insL (Str.ofString "product") a b c d = (c * b, d * a) := by simp [insL]
            rw [hi]
            simp [lgivF, lgiv_0, lgiv_1, lgiv_2, lgiv_3, lgiv_4, lgiv_5, lgiv_6, lgiv_7, lgiv_8, e, q, sizeLine_eq, in_ao, l1, l2, i1, i2, j1, j2, hk, m1, m2, m3, m4, e2]
          · have b9 : (2 : Int) ^ 400 < 2 ^ 499 := by decide
            have e2 := low_ok (con := con) (S := S) (n := m) (k := kw) (a := c) (b := d) (by omega) hW hd (by have := h4.d4; omega)
            have hi : insL (Str.ofString "step") a b c d = (c, d) := by simp [insL]
            rw [hi]
            simp [lgivF, lgiv_0, lgiv_1, lgiv_2, lgiv_3, lgiv_4, lgiv_5, lgiv_6, lgiv_7, lgiv_8, e, q, sizeLine_eq, in_ao, l1, l2, i1, i2, j1, j2, hk, m1, m2, m3, e2]
        · have hl : leadG kinds (.at' k a b) (.at' l c d) = .at' l c d := by
            unfold leadG
            rw [if_neg q]
            simp [h1]
          rw [hl]
          have h1' : ¬ (k : Int) = l := by omega
          generalize (Gd.at' k a b).d = X at *
          generalize (Gd.at' l c d).d = Y at *
          simp [lgivF, lgiv_0, lgiv_1, lgiv_2, lgiv_3, lgiv_4, lgiv_5, e, q, sizeLine_eq, in_ao, l1, l2, i1, i2, h1, h1']
theorem lgtimes_ok {kb kg kw n : Nat} {kinds : List Str} {x y : Gd} (hB : T[kb]? = some lbefF) (hG : T[kg]? = some (lgivF kb kg kw)) (hW : T[kw]? = some lowF) (hn : 2 < n) (B : Pr kinds x y) :
    callF T 1000 con n kg [.d (.str "times"), .d (.tuple (txs kinds)), .d x.d, .d y.d] S = .ok (.d (timesG kinds x y).d) S := by
  obtain ⟨m, rfl⟩ : ∃ m, n = m + 1 := ⟨n - 1, by omega⟩
  rw [call_eq hG rfl]
  show finR S.length (svs _ (lgivF kb kg kw).body [some (.d (.str "times")), some (.d (.tuple (txs kinds))), some (.d x.d), some (.d y.d), none, none, none, none, none, none, none, none, none] S) = _
  have e := lbef_ok (con := con) (n := m) (S := S) (by omega) hB B.ox B.oy
  cases x with
  | one =>
    have l1 : bltD .len [Gd.one.d] = some (.int 1) := rfl
    cases y with
    | one => simp [lgivF, lgiv_0, lgiv_1, lgiv_2, lgiv_3, lgiv_4, lgiv_5, e, l1, in_ao, sizeLine_eq, cmpG, timesG]
    | at' l c d => simp [lgivF, lgiv_0, lgiv_1, lgiv_2, lgiv_3, lgiv_4, lgiv_5, e, l1, in_ao, sizeLine_eq, cmpG, timesG]
  | at' k a b =>
    have l1 : bltD .len [(Gd.at' k a b).d] = some (.int 3) := rfl
    cases y with
    | one =>
      have l2 : bltD .len [Gd.one.d] = some (.int 1) := rfl
      simp [lgivF, lgiv_0, lgiv_1, lgiv_2, lgiv_3, lgiv_4, lgiv_5, e, l1, l2, in_ao, sizeLine_eq, cmpG, timesG]
    | at' l c d =>
      have l2 : bltD .len [(Gd.at' l c d).d] = some (.int 3) := rfl
      have i1 : idxD (Gd.at' k a b).d (.int 1) = some (.int k) := by simp [Gd.d]
      have i2 : idxD (Gd.at' l c d).d (.int 1) = some (.int l) := by simp [Gd.d]
      have j1 : idxD (Gd.at' k a b).d (.int 2) = some (.tuple [.int a, .int b]) := by simp [Gd.d]
      have j2 : idxD (Gd.at' l c d).d (.int 2) = some (.tuple [.int c, .int d]) := by simp [Gd.d]
      by_cases h1 : k = l
      · subst h1
        obtain ⟨h2, h3, h4⟩ := B.two k a b c d rfl rfl
        have hk := kind_idx h2
        have hl : timesG kinds (.at' k a b) (.at' k c d) = lowG k (insT (kindAt kinds k) a b c d) := by simp [timesG]
        rw [hl, lowG_d]
        have hq : (cmpG (.at' k a b) (.at' k c d) ≤ 0) ↔ a * d ≤ c * b := by
          simp only [cmpG, if_true, cmp2]
          by_cases z1 : a * d = c * b
          · rw [if_pos z1]; omega
          · by_cases z2 : a * d < c * b
            · rw [if_neg z1, if_pos z2]; omega
            · rw [if_neg z1, if_neg z2]; omega
        have hb : 0 < b := by have := h4.a0; have := h4.ab; omega
        have hd : 0 < d := by have := h4.c0; have := h4.cd; omega
        have hbd := Int.mul_pos hb hd
        have m1 := mul_b (i := b) (j := d) (b400 (by omega) h4.b4) (b400 (by omega) h4.d4)
        have m2 := mul_b (i := a) (j := d) (b400 h4.a0 (by have := h4.ab; have := h4.b4; omega)) (b400 (by omega) h4.d4)
        have m3 := mul_b (i := c) (j := b) (b400 h4.c0 (by have := h4.cd; have := h4.d4; omega)) (b400 (by omega) h4.b4)
        have m4 := mul_b (i := a) (j := c) (b400 h4.a0 (by have := h4.ab; have := h4.b4; omega)) (b400 h4.c0 (by have := h4.cd; have := h4.d4; omega))
        generalize hX : cmpG (.at' k a b) (.at' k c d) = z at *
        generalize kindAt kinds k = kd at *
        generalize (Gd.at' k a b).d = X at *
        generalize (Gd.at' k c d).d = Y at *
        have big499 : (2 : Int) ^ 240 < 2 ^ 499 := by decide
        rcases h3 with rfl | rfl | rfl
        · have hs := h4.sm rfl
          unfold big at hs
          have e2 := low_ok (con := con) (S := S) (n := m) (k := kw) (a := max 0 (a * d + c * b - b * d)) (b := b * d) (by omega) hW hbd (by omega)
          have hi : insT (Str.ofString "sum") a b c d = (max 0 (a * d + c * b - b * d), b * d) := by simp [insT]
          have hm : bltD .max2 [.int 0, .int (a * d + c * b - b * d)] = some (.int (max 0 (a * d + c * b - b * d))) := by rw [max2_i, max_i]
          rw [hi]
          by_cases q : z ≤ 0
          · simp [-max2_i, lgivF, lgiv_0, lgiv_1, lgiv_2, lgiv_3, lgiv_4, lgiv_5, lgiv_6, lgiv_7, lgiv_8, e, q, sizeLine_eq, in_ao, l1, l2, i1, i2, j1, j2, hk, m1, m2, m3, hm, e2]
          · simp [-max2_i, lgivF, lgiv_0, lgiv_1, lgiv_2, lgiv_3, lgiv_4, lgiv_5, lgiv_6, lgiv_7, lgiv_8, e, q, sizeLine_eq, in_ao, l1, l2, i1, i2, j1, j2, hk, m1, m2, m3, hm, e2]
        · have hs := h4.pr rfl
          have e2 := low_ok (con := con) (S := S) (n := m) (k := kw) (a := a * c) (b := b * d) (by omega) hW (by omega) (by omega)
          have hi : insT (Str.ofString "product") a b c d = (a * c, b * d) := by simp [insT]
          rw [hi]
          by_cases q : z ≤ 0
          · simp [lgivF, lgiv_0, lgiv_1, lgiv_2, lgiv_3, lgiv_4, lgiv_5, lgiv_6, lgiv_7, lgiv_8, e, q, sizeLine_eq, in_ao, l1, l2, i1, i2, j1, j2, hk, m1, m2, m3, m4, e2]
          · simp [lgivF, lgiv_0, lgiv_1, lgiv_2, lgiv_3, lgiv_4, lgiv_5, lgiv_6, lgiv_7, lgiv_8, e, q, sizeLine_eq, in_ao, l1, l2, i1, i2, j1, j2, hk, m1, m2, m3, m4, e2]
        · have b9 : (2 : Int) ^ 400 < 2 ^ 499 := by decide
          by_cases q : z ≤ 0
          · have e2 := low_ok (con := con) (S := S) (n := m) (k := kw) (a := a) (b := b) (by omega) hW hb (by have := h4.b4; omega)
            have hi : insT (Str.ofString "step") a b c d = (a, b) := by simp [insT, hq.mp q]
            rw [hi]
            simp [lgivF, lgiv_0, lgiv_1, lgiv_2, lgiv_3, lgiv_4, lgiv_5, lgiv_6, lgiv_7, lgiv_8, e, q, sizeLine_eq, in_ao, l1, l2, i1, i2, j1, j2, hk, m1, m2, m3, e2]
          · have e2 := low_ok (con := con) (S := S) (n := m) (k := kw) (a := c) (b := d) (by omega) hW hd (by have := h4.d4; omega)
            have hi : insT (Str.ofString "step") a b c d = (c, d) := by simp [insT, mt hq.mpr q]
            rw [hi]
            simp [lgivF, lgiv_0, lgiv_1, lgiv_2, lgiv_3, lgiv_4, lgiv_5, lgiv_6, lgiv_7, lgiv_8, e, q, sizeLine_eq, in_ao, l1, l2, i1, i2, j1, j2, hk, m1, m2, m3, e2]
      · have h1' : ¬ (k : Int) = l := by omega
        by_cases h2 : k < l
        · have hl : timesG kinds (.at' k a b) (.at' l c d) = .at' k a b := by simp [timesG, h1, h2]
          have hc : cmpG (.at' k a b) (.at' l c d) = -1 := by simp [cmpG, h1, h2]
          rw [hl]
          rw [hc] at e
          generalize (Gd.at' k a b).d = X at *
          generalize (Gd.at' l c d).d = Y at *
          simp [lgivF, lgiv_0, lgiv_1, lgiv_2, lgiv_3, lgiv_4, lgiv_5, e, sizeLine_eq, in_ao, l1, l2, i1, i2, h1, h1']
        · have hl : timesG kinds (.at' k a b) (.at' l c d) = .at' l c d := by simp [timesG, h1, h2]
          have hc : cmpG (.at' k a b) (.at' l c d) = 1 := by simp [cmpG, h1, h2]
          rw [hl]
          rw [hc] at e
          generalize (Gd.at' k a b).d = X at *
          generalize (Gd.at' l c d).d = Y at *
          simp [lgivF, lgiv_0, lgiv_1, lgiv_2, lgiv_3, lgiv_4, lgiv_5, e, sizeLine_eq, in_ao, l1, l2, i1, i2, h1, h1']
abbrev pmarks : List Str := ["times", "leads", "and", "or", "same"]
theorem pm_cases {w : Str} (h : w ∈ pmarks) : w = Str.ofString "times" ∨ w = Str.ofString "leads" ∨ w = Str.ofString "and" ∨ w = Str.ofString "or" ∨ w = Str.ofString "same" := by
  simpa [pmarks] using h
theorem lgiven_ok {kb kg kw n : Nat} {kinds : List Str} {w : Str} {x y : Gd} (hB : T[kb]? = some lbefF) (hG : T[kg]? = some (lgivF kb kg kw)) (hW : T[kw]? = some lowF) (hn : 3 < n) (hw : w ∈ pmarks) (B : Pr kinds x y) (B2 : Pr kinds y x) :
    callF T 1000 con n kg [.d (.str w), .d (.tuple (txs kinds)), .d x.d, .d y.d] S = .ok (.d (gop kinds w x y).d) S := by
  rcases pm_cases hw with rfl | rfl | rfl | rfl | rfl
  · have hg : gop kinds (Str.ofString "times") x y = timesG kinds x y := by simp [gop]
    rw [hg]
    exact lgtimes_ok hB hG hW (by omega) B
  · have hg : gop kinds (Str.ofString "leads") x y = leadG kinds x y := by simp [gop]
    rw [hg]
    exact lglead_ok hB hG hW (by omega) B
  all_goals
    obtain ⟨m, rfl⟩ : ∃ m, n = m + 1 := ⟨n - 1, by omega⟩
    rw [call_eq hG rfl]
    have e := lbef_ok (con := con) (n := m) (S := S) (by omega) hB B.ox B.oy
    have e1 := lglead_ok (con := con) (S := S) (n := m) hB hG hW (by omega) B
    have e2 := lglead_ok (con := con) (S := S) (n := m) hB hG hW (by omega) B2
  · show finR S.length (svs _ (lgivF kb kg kw).body [some (.d (.str "and")), some (.d (.tuple (txs kinds))), some (.d x.d), some (.d y.d), none, none, none, none, none, none, none, none, none] S) = _
    by_cases q : cmpG x y ≤ 0 <;> simp [lgivF, lgiv_0, lgiv_1, lgiv_2, lgiv_3, e, q, sizeLine_eq, gop, in_ao]
  · show finR S.length (svs _ (lgivF kb kg kw).body [some (.d (.str "or")), some (.d (.tuple (txs kinds))), some (.d x.d), some (.d y.d), none, none, none, none, none, none, none, none, none] S) = _
    by_cases q : cmpG x y ≤ 0 <;> simp [lgivF, lgiv_0, lgiv_1, lgiv_2, lgiv_3, lgiv_4, e, q, sizeLine_eq, gop, in_ao]
  · show finR S.length (svs _ (lgivF kb kg kw).body [some (.d (.str "same")), some (.d (.tuple (txs kinds))), some (.d x.d), some (.d y.d), none, none, none, none, none, none, none, none, none] S) = _
    by_cases z : cmpG x y = 0
    · simp [lgivF, lgiv_0, lgiv_1, lgiv_2, lgiv_3, lgiv_4, lgiv_5, e, z, sizeLine_eq, gop, in_ao, ← one_d]
    · by_cases q : cmpG x y ≤ 0 <;> simp [lgivF, lgiv_0, lgiv_1, lgiv_2, lgiv_3, lgiv_4, lgiv_5, e, z, q, e1, e2, sizeLine_eq, gop, in_ao]
/-! ### bounds -/
end
abbrev qq : Int := 1000000000
def GB (kinds : List Str) (e : Nat) : Gd → Prop
  | .one => True
  | .at' k a b => k < kinds.length ∧ 0 ≤ a ∧ a < b ∧ Int.gcd a b = 1 ∧ b ≤ qq ^ e ∧ (kindAt kinds k = Str.ofString "sum" → b ∣ 3000000000)
def KV (kinds : List Str) : Prop := ∀ k, k < kinds.length → kindAt kinds k = Str.ofString "sum" ∨ kindAt kinds k = Str.ofString "product" ∨ kindAt kinds k = Str.ofString "step"
theorem qq_pos (e : Nat) : 0 < qq ^ e := Int.pow_pos (by decide)
theorem qq_mono {e f : Nat} (h : e ≤ f) : qq ^ e ≤ qq ^ f := by
  obtain ⟨g, rfl⟩ := Nat.exists_eq_add_of_le h
  rw [Int.pow_add]
  have h1 := qq_pos e
  have h2 : 1 ≤ qq ^ g := qq_pos g
  have := Int.mul_le_mul_of_nonneg_left h2 (Int.le_of_lt h1)
  rwa [Int.mul_one] at this
theorem qq_mul {b d : Int} {e f : Nat} (h0 : 0 ≤ b) (h1 : 0 ≤ d) (hb : b ≤ qq ^ e) (hd : d ≤ qq ^ f) : b * d ≤ qq ^ (e + f) := by
  rw [Int.pow_add]
  exact Int.mul_le_mul hb hd h1 (Int.le_of_lt (qq_pos e))
theorem GB.mono {kinds : List Str} {e f : Nat} {g : Gd} (h : GB kinds e g) (hf : e ≤ f) : GB kinds f g := by
  cases g with
  | one => trivial
  | at' k a b =>
    obtain ⟨h1, h2, h3, h4, h5, h6⟩ := h
    exact ⟨h1, h2, h3, h4, Int.le_trans h5 (qq_mono hf), h6⟩
theorem GB.ok {kinds : List Str} {e : Nat} {g : Gd} (h : GB kinds e g) (he : e ≤ 13) : g.ok := by
  cases g with
  | one => trivial
  | at' k a b =>
    obtain ⟨h1, h2, h3, h4, h5, h6⟩ := h
    have := qq_mono he
    have h8 : qq ^ 13 < 2 ^ 400 := by decide
    exact ⟨h2, h3, h4, by omega⟩
theorem pr_of {kinds : List Str} {e f : Nat} {x y : Gd} (hk : KV kinds) (hx : GB kinds e x) (hy : GB kinds f y) (he : e + f ≤ 13) : Pr kinds x y := by
  refine ⟨hx.ok (by omega), hy.ok (by omega), ?_⟩
  rintro k a b c d rfl rfl
  obtain ⟨h1, h2, h3, h4, h5, h6⟩ := hx
  obtain ⟨g1, g2, g3, g4, g5, g6⟩ := hy
  have l1 := qq_mono (e := e) (f := 13) (by omega)
  have l2 := qq_mono (e := f) (f := 13) (by omega)
  have h8 : qq ^ 13 < 2 ^ 400 := by decide
  refine ⟨h1, hk k h1, ⟨h2, h3, h4, g2, g3, g4, by omega, by omega, ?_, ?_⟩⟩
  · intro hs
    have k1 := Int.le_of_dvd (by decide) (h6 hs)
    have k2 := Int.le_of_dvd (by decide) (g6 hs)
    have := Int.mul_le_mul k1 k2 (by omega) (by decide)
    have k3 : (3000000000 : Int) * 3000000000 < big := by decide
    omega
  · intro hs
    have := qq_mul (by omega) (by omega) h5 g5
    have k3 := qq_mono he
    have k4 : qq ^ 13 < 2 ^ 499 := by decide
    omega
theorem lowA_lt {n W : Int} (h : 0 < W) (hn : n < W) : lowA n W < lowB n W := by
  have h1 := low_is (n := n) h
  by_cases q : lowA n W < lowB n W
  · exact q
  · exfalso
    have h2 := Int.mul_le_mul_of_nonneg_right (by omega : lowB n W ≤ lowA n W) (by omega : 0 ≤ W)
    rw [h1.eq, Int.mul_comm n] at h2
    have := Int.le_of_mul_le_mul_left h2 h1.pos
    omega
theorem low_dvd {n W N Z : Int} (h : 0 < W) (e : n * Z = N * W) : lowB n W ∣ Z := by
  have h1 := low_is (n := n) h
  refine cop_dvd h1.cop ⟨N, ?_⟩
  refine Int.eq_of_mul_eq_mul_right (a := W) (by omega) ?_
  calc lowA n W * Z * W = lowA n W * W * Z := by rw [Int.mul_assoc, Int.mul_comm Z, ← Int.mul_assoc]
    _ = n * lowB n W * Z := by rw [h1.eq]
    _ = n * Z * lowB n W := by rw [Int.mul_assoc, Int.mul_comm (lowB n W), ← Int.mul_assoc]
    _ = N * W * lowB n W := by rw [e]
    _ = lowB n W * N * W := by rw [Int.mul_comm (N * W), Int.mul_assoc]
theorem lowG_GB {kinds : List Str} {k e : Nat} {n W : Int} (hk : k < kinds.length) (h0 : 0 < W) (hn : 0 ≤ n) (hlt : n < W) (hW : W ≤ qq ^ e) (hs : kindAt kinds k = Str.ofString "sum" → ∃ N, n * 3000000000 = N * W) : GB kinds e (lowG k (n, W)) := by
  refine ⟨hk, lowA_nn h0 hn, lowA_lt h0 hlt, (low_is h0).cop, Int.le_trans (lowB_le h0) hW, fun h => ?_⟩
  obtain ⟨N, e⟩ := hs h
  exact low_dvd h0 e
theorem gb_ins {kinds : List Str} {k e f : Nat} {a b c d : Int} (hx : GB kinds e (.at' k a b)) (hy : GB kinds f (.at' k c d)) : (c * b < a * d → GB kinds (e + f) (lowG k (insL (kindAt kinds k) a b c d))) ∧ GB kinds (e + f) (lowG k (insT (kindAt kinds k) a b c d)) := by
  obtain ⟨h1, h2, h3, h4, h5, h6⟩ := hx
  obtain ⟨g1, g2, g3, g4, g5, g6⟩ := hy
  have hb : 0 < b := by omega
  have hd : 0 < d := by omega
  have hbd := Int.mul_pos hb hd
  have hW := qq_mul (by omega) (by omega) h5 g5
  have p1 : a * d < b * d := Int.mul_lt_mul_of_pos_right h3 hd
  have p2 : c * b < b * d := by rw [Int.mul_comm b d]; exact Int.mul_lt_mul_of_pos_right g3 hb
  have p3 : 0 ≤ c * b := Int.mul_nonneg g2 (by omega)
  have p4 : 0 ≤ a * d := Int.mul_nonneg h2 (by omega)
  have sm : kindAt kinds k = Str.ofString "sum" → ∃ u v, a * d * 3000000000 = u * (b * d) ∧ c * b * 3000000000 = v * (b * d) := fun h => by
    obtain ⟨s, hs⟩ := h6 h
    obtain ⟨t, ht⟩ := g6 h
    refine ⟨a * s, c * t, ?_, ?_⟩
    · rw [hs]
      simp only [Int.mul_assoc, Int.mul_left_comm, Int.mul_comm]
    · rw [ht]
      simp only [Int.mul_assoc, Int.mul_left_comm, Int.mul_comm]
  have l1 := qq_mono (e := e) (f := e + f) (by omega)
  have l2 := qq_mono (e := f) (f := e + f) (by omega)
  constructor
  · intro hlt
    unfold insL
    split
    · rename_i hk
      refine lowG_GB h1 hbd (by omega) (by omega) hW fun h => ?_
      obtain ⟨u, v, q1, q2⟩ := sm h
      refine ⟨3000000000 - u + v, ?_⟩
      rw [Int.add_mul, Int.sub_mul, q1, q2, Int.add_mul, Int.sub_mul, Int.mul_comm (b * d)]
    · split
      · have hda : d * a = a * d := Int.mul_comm d a
        rename_i hk _
        exact lowG_GB h1 (by omega) p3 (by omega) (by omega) fun h => absurd h hk
      · rename_i hk _
        exact lowG_GB h1 hd g2 g3 (by omega) fun h => absurd h hk
  · unfold insT
    split
    · rename_i hk
      refine lowG_GB h1 hbd (by omega) (by omega) hW fun h => ?_
      obtain ⟨u, v, q1, q2⟩ := sm h
      by_cases z : a * d + c * b - b * d ≤ 0
      · rw [Int.max_eq_left z]
        exact ⟨0, by simp⟩
      · rw [Int.max_eq_right (by omega)]
        refine ⟨u + v - 3000000000, ?_⟩
        rw [Int.sub_mul, Int.add_mul, q1, q2, Int.sub_mul, Int.add_mul, Int.mul_comm (b * d)]
    · split
      · rename_i hk _
        have p5 : a * c < b * d := Int.lt_of_le_of_lt (Int.mul_le_mul_of_nonneg_left (by omega : c ≤ d) h2) p1
        exact lowG_GB h1 hbd (Int.mul_nonneg h2 g2) p5 hW fun h => absurd h hk
      · rename_i hk _
        split
        · exact lowG_GB h1 hb h2 h3 (by omega) fun h => absurd h hk
        · exact lowG_GB h1 hd g2 g3 (by omega) fun h => absurd h hk
theorem lead_GB {kinds : List Str} {e f : Nat} {x y : Gd} (hx : GB kinds e x) (hy : GB kinds f y) : GB kinds (e + f) (leadG kinds x y) := by
  unfold leadG
  split
  · trivial
  · rename_i q
    cases x with
    | one => exact hy.mono (by omega)
    | at' k a b =>
      cases y with
      | one => trivial
      | at' l c d =>
        simp only
        split
        · rename_i h
          subst h
          refine (gb_ins hx hy).1 ?_
          simp only [cmpG, if_true, cmp2] at q
          by_cases z1 : a * d = c * b
          · rw [if_pos z1] at q; exact absurd (Int.le_refl 0) q
          · by_cases z2 : a * d < c * b
            · rw [if_neg z1, if_pos z2] at q
              exact absurd (by decide) q
            · omega
        · exact hy.mono (by omega)
theorem times_GB {kinds : List Str} {e f : Nat} {x y : Gd} (hx : GB kinds e x) (hy : GB kinds f y) : GB kinds (e + f) (timesG kinds x y) := by
  cases x with
  | one =>
    cases y with
    | one => trivial
    | at' l c d => exact hy.mono (by omega)
  | at' k a b =>
    cases y with
    | one => exact hx.mono (by omega)
    | at' l c d =>
      simp only [timesG]
      split
      · rename_i h
        subst h
        exact (gb_ins hx hy).2
      · split
        · exact hx.mono (by omega)
        · exact hy.mono (by omega)
theorem gop_GB {kinds : List Str} {m : Str} {e f : Nat} {x y : Gd} (hx : GB kinds e x) (hy : GB kinds f y) : GB kinds (e + f) (gop kinds m x y) := by
  have a1 := hx.mono (f := e + f) (by omega)
  have a2 := hy.mono (f := e + f) (by omega)
  have a3 := lead_GB hx hy
  have a4 := lead_GB hy hx
  rw [Nat.add_comm f e] at a4
  unfold gop
  repeat' split
  all_goals first | assumption | trivial | exact times_GB hx hy
/-! ### grades of sayings -/
def least : Gd := .at' 0 0 1
theorem least_GB {kinds : List Str} (h : 0 < kinds.length) : GB kinds 0 least := ⟨h, by decide, by decide, by decide, by decide, fun _ => ⟨3000000000, rfl⟩⟩
namespace Say
def inm (M : List Str) : Say → Prop
  | .not a => a.inm M
  | .two m a b => m ∈ M ∧ a.inm M ∧ b.inm M
  | _ => True
def gr (kinds : List Str) (t : Str → Gd) : Say → Gd
  | .yes => .one
  | .no => least
  | .unk x => t x
  | .not a => gop kinds "leads" (a.gr kinds t) least
  | .two m a b => gop kinds m (a.gr kinds t) (b.gr kinds t)
def hp : Say → Bool
  | .not a => a.hp
  | .two m a b => (m == Str.ofString "plus") || (a.hp || b.hp)
  | _ => false
end Say
theorem inm_ok {M : List Str} (hM : ∀ w ∈ M, w ∈ marks) : ∀ {s : Say}, s.inm M → s.ok
  | .yes, _ => trivial
  | .no, _ => trivial
  | .unk _, _ => trivial
  | .not a, h => inm_ok hM (s := a) h
  | .two m a b, h => ⟨hM _ h.1, inm_ok hM h.2.1, inm_ok hM h.2.2⟩
theorem pm_marks : ∀ w ∈ pmarks, w ∈ marks := by decide +kernel
theorem inm_hp : ∀ {s : Say}, s.inm pmarks → s.hp = false
  | .yes, _ => rfl
  | .no, _ => rfl
  | .unk _, _ => rfl
  | .not a, h => inm_hp (s := a) h
  | .two m a b, h => by
    have h1 := inm_hp h.2.1
    have h2 := inm_hp h.2.2
    have h3 : (m == Str.ofString "plus") = false := by
      rcases pm_cases h.1 with rfl | rfl | rfl | rfl | rfl <;> simp
    simp only [Say.hp, h1, h2, h3, Bool.or_self]
theorem gr_GB {kinds : List Str} {t : Str → Gd} {V : List Str} (h0 : 0 < kinds.length) (ht : ∀ x ∈ V, GB kinds 1 (t x)) : ∀ {s : Say}, s.over V → GB kinds s.leaves.length (s.gr kinds t)
  | .yes, _ => trivial
  | .no, _ => least_GB h0
  | .unk x, h => ht x h
  | .not a, h => gop_GB (f := 0) (gr_GB h0 ht (s := a) h) (least_GB h0)
  | .two m a b, h => by
    have := gop_GB (m := m) (gr_GB h0 ht h.1) (gr_GB h0 ht h.2)
    simp only [Say.leaves, List.length_append, Say.gr]
    exact this
theorem least_d : least.d = .tuple [.str "in", .int 0, .tuple [.int 0, .int 1]] := rfl
def hplus_0 (k11 k0 : Nat) : CS := .ret (.or (.cmp .Eq (.idx (.var 0) (.con (.int 0))) (.con (.str "plus"))) (.blt .any (.cons (.lc (.call k11 (.cons (.var 1) .nil)) (.nam 1) (.seq (.call k0 (.cons (.var 0) .nil))) .none [1]) .nil)))
def hplusF (k11 k0 : Nat) : FD := ⟨1, 2, .cons (hplus_0 k11 k0) (.nil)⟩
def grin_0 : CS := .ite (.cmp .Eq (.idx (.var 0) (.con (.int 0))) (.con (.str "unknown"))) (.cons (.ret (.idx (.var 2) (.idx (.var 0) (.con (.int 1))))) .nil) .nil
def grin_1 (g0 : Nat) : CS := .ite (.cmp .Eq (.idx (.var 0) (.con (.int 0))) (.con (.str "yes"))) (.cons (.ret (.glo g0)) .nil) .nil
def grin_2 (g1 : Nat) : CS := .ite (.cmp .Eq (.idx (.var 0) (.con (.int 0))) (.con (.str "no"))) (.cons (.ret (.glo g1)) .nil) .nil
def grin_3 (k15 : Nat) : CS := .asg (.nam 3) (.call k15 (.cons (.idx (.var 0) (.con (.int 1))) (.cons (.var 1) (.cons (.var 2) .nil))))
def grin_4 (g1 k14 : Nat) : CS := .ite (.cmp .Eq (.idx (.var 0) (.con (.int 0))) (.con (.str "not"))) (.cons (.ret (.call k14 (.cons (.con (.str "leads")) (.cons (.var 1) (.cons (.var 3) (.cons (.glo g1) .nil)))))) .nil) .nil
def grin_5 (k15 k14 : Nat) : CS := .ret (.call k14 (.cons (.idx (.var 0) (.con (.int 0))) (.cons (.var 1) (.cons (.var 3) (.cons (.call k15 (.cons (.idx (.var 0) (.con (.int 2))) (.cons (.var 1) (.cons (.var 2) .nil)))) .nil)))))
def grinF (g0 g1 k15 k14 : Nat) : FD := ⟨3, 4, .cons grin_0 (.cons (grin_1 g0) (.cons (grin_2 g1) (.cons (grin_3 k15) (.cons (grin_4 g1 k14) (.cons (grin_5 k15 k14) (.nil))))))⟩
def noplus_0 (k11 x1 : Nat) : CS := .ite (.call k11 (.cons (.var 0) .nil)) (.cons (.rais x1 (.con (.str "plus"))) .nil) .nil
def noplusF (k11 x1 : Nat) : FD := ⟨1, 1, .cons (noplus_0 k11 x1) (.nil)⟩
def chainv_0 (k16 : Nat) : CS := .exp (.call k16 (.cons (.var 0) .nil))
def chainv_1 (k2 x2 : Nat) : CS := .loop (.nam 4) (.seq (.call k2 (.cons (.tup (.cons (.var 0) .nil)) .nil))) (.cons (.ite (.cmp .NotIn (.var 4) (.var 2)) (.cons (.rais x2 (.var 4)) .nil) .nil) .nil)
def chainv_2 (k17 : Nat) : CS := .exp (.call k17 (.cons (.var 1) (.cons (.var 3) .nil)))
def chainv_3 (k15 : Nat) : CS := .ret (.call k15 (.cons (.var 0) (.cons (.var 1) (.cons (.dzip (.var 2) (.var 3)) .nil))))
def chainvF (k16 k2 x2 k17 k15 : Nat) : FD := ⟨4, 5, .cons (chainv_0 k16) (.cons (chainv_1 k2 x2) (.cons (chainv_2 k17) (.cons (chainv_3 k15) (.nil))))⟩
def lgrof_0 : CS := .ite (.cmp .Eq (.idx (.var 0) (.con (.int 0))) (.con (.str "unknown"))) (.cons (.ret (.idx (.var 2) (.idx (.var 0) (.con (.int 1))))) .nil) .nil
def lgrof_1 : CS := .ite (.cmp .Eq (.idx (.var 0) (.con (.int 0))) (.con (.str "yes"))) (.cons (.ret (.tup (.cons (.con (.str "one")) .nil))) .nil) .nil
def lgrof_2 : CS := .ite (.cmp .Eq (.idx (.var 0) (.con (.int 0))) (.con (.str "no"))) (.cons (.ret (.tup (.cons (.con (.str "in")) (.cons (.con (.int 0)) (.cons (.tup (.cons (.con (.int 0)) (.cons (.con (.int 1)) .nil))) .nil))))) .nil) .nil
def lgrof_3 (k26 : Nat) : CS := .asg (.nam 3) (.call k26 (.cons (.idx (.var 0) (.con (.int 1))) (.cons (.var 1) (.cons (.var 2) .nil))))
def lgrof_4 (k25 : Nat) : CS := .ite (.cmp .Eq (.idx (.var 0) (.con (.int 0))) (.con (.str "not"))) (.cons (.ret (.call k25 (.cons (.con (.str "leads")) (.cons (.var 1) (.cons (.var 3) (.cons (.tup (.cons (.con (.str "in")) (.cons (.con (.int 0)) (.cons (.tup (.cons (.con (.int 0)) (.cons (.con (.int 1)) .nil))) .nil)))) .nil)))))) .nil) .nil
def lgrof_5 (k26 k25 : Nat) : CS := .ret (.call k25 (.cons (.idx (.var 0) (.con (.int 0))) (.cons (.var 1) (.cons (.var 3) (.cons (.call k26 (.cons (.idx (.var 0) (.con (.int 2))) (.cons (.var 1) (.cons (.var 2) .nil)))) .nil)))))
def lgrofF (k26 k25 : Nat) : FD := ⟨3, 4, .cons lgrof_0 (.cons lgrof_1 (.cons lgrof_2 (.cons (lgrof_3 k26) (.cons (lgrof_4 k25) (.cons (lgrof_5 k26 k25) (.nil))))))⟩
section
variable {T : List FD} {con : List PyData}
theorem grin_ok {x0 x1 g0 g1 kc kl kf kv kp ko kq kg ki kh kn kr c : Nat} {kinds V : List Str} {t : Str → Gd} {kvs : List (Str × PyData)} (W : GrT T con x0 x1 g0 kc kl kf kv kp ko kq kg ki kh kn) (hR : T[kr]? = some (grinF g0 g1 kr kn)) (w1 : con[g1]? = some least.d)
    (hkv : KV kinds) (h0 : 0 < kinds.length) (ht : ∀ x ∈ V, GB kinds 1 (t x)) (hk : ∀ x ∈ V, kvs.lookup x = some (t x).d) : ∀ {s : Say} {n : Nat} {S : Sto}, S[c]? = some (.dct kvs) → s.inm pmarks → s.over V → s.leaves.length ≤ 12 → s.deep + 11 < n →
    callF T 1000 con n kr [.d s.d, .d (.tuple (txs kinds)), .c c] S = .ok (.d (s.gr kinds t).d) S := by
  intro s
  induction s with
  | yes =>
    intro n S hS hm ho hl hn
    obtain ⟨m, rfl⟩ : ∃ m, n = m + 1 := ⟨n - 1, by omega⟩
    rw [call_eq hR rfl]
    show finR S.length (svs _ (grinF g0 g1 kr kn).body [some (.d (.tuple [.str "yes"])), some (.d (.tuple (txs kinds))), some (.c c), none] S) = _
    simp [grinF, grin_0, grin_1, W.w0, Say.gr]
  | no =>
    intro n S hS hm ho hl hn
    obtain ⟨m, rfl⟩ : ∃ m, n = m + 1 := ⟨n - 1, by omega⟩
    rw [call_eq hR rfl]
    show finR S.length (svs _ (grinF g0 g1 kr kn).body [some (.d (.tuple [.str "no"])), some (.d (.tuple (txs kinds))), some (.c c), none] S) = _
    simp [grinF, grin_0, grin_1, grin_2, w1, Say.gr]
  | unk x =>
    intro n S hS hm ho hl hn
    obtain ⟨m, rfl⟩ : ∃ m, n = m + 1 := ⟨n - 1, by omega⟩
    rw [call_eq hR rfl]
    show finR S.length (svs _ (grinF g0 g1 kr kn).body [some (.d (.tuple [.str "unknown", .str x])), some (.d (.tuple (txs kinds))), some (.c c), none] S) = _
    simp [grinF, grin_0, idx_k hS (hk x ho), Say.gr]
  | not a ih =>
    intro n S hS hm ho hl hn
    simp only [Say.deep, Say.leaves] at hn hl
    obtain ⟨m, rfl⟩ : ∃ m, n = m + 1 := ⟨n - 1, by omega⟩
    rw [call_eq hR rfl]
    show finR S.length (svs _ (grinF g0 g1 kr kn).body [some (.d (.tuple [.str "not", a.d])), some (.d (.tuple (txs kinds))), some (.c c), none] S) = _
    have e1 := ih (n := m) hS hm ho hl (by omega)
    have ga := gr_GB h0 ht (s := a) ho
    have e2 := given_ok (S := S) (n := m) (w := "leads") W (by omega) (.inr (.inl rfl)) (pr_of hkv ga (least_GB h0) (by omega)) (pr_of hkv (least_GB h0) ga (by omega))
    simp [grinF, grin_0, grin_1, grin_2, grin_3, grin_4, w1, Say.gr, e1, e2]
  | two w a b iha ihb =>
    intro n S hS hm ho hl hn
    simp only [Say.deep, Say.leaves, List.length_append] at hn hl
    obtain ⟨m, rfl⟩ : ∃ m, n = m + 1 := ⟨n - 1, by omega⟩
    rw [call_eq hR rfl]
    show finR S.length (svs _ (grinF g0 g1 kr kn).body [some (.d (.tuple [.str w, a.d, b.d])), some (.d (.tuple (txs kinds))), some (.c c), none] S) = _
    obtain ⟨q1, q2, q3, q4⟩ := mark_eqs (pm_marks _ hm.1)
    have e1 := iha (n := m) hS hm.2.1 ho.1 (by omega) (by omega)
    have e2 := ihb (n := m) hS hm.2.2 ho.2 (by omega) (by omega)
    have ga := gr_GB h0 ht (s := a) ho.1
    have gb := gr_GB h0 ht (s := b) ho.2
    have e3 := given_ok (S := S) (n := m) (w := w) W (by omega) (pm_cases hm.1) (pr_of hkv ga gb (by omega)) (pr_of hkv gb ga (by omega))
    simp [grinF, grin_0, grin_1, grin_2, grin_3, grin_4, grin_5, Say.gr, e1, e2, e3, q1, q2, q3, q4]
theorem lgrof_ok {kb kg kw kr c : Nat} {kinds V : List Str} {t : Str → Gd} {kvs : List (Str × PyData)} (hB : T[kb]? = some lbefF) (hG : T[kg]? = some (lgivF kb kg kw)) (hW : T[kw]? = some lowF) (hR : T[kr]? = some (lgrofF kr kg))
    (hkv : KV kinds) (h0 : 0 < kinds.length) (ht : ∀ x ∈ V, GB kinds 1 (t x)) (hk : ∀ x ∈ V, kvs.lookup x = some (t x).d) : ∀ {s : Say} {n : Nat} {S : Sto}, S[c]? = some (.dct kvs) → s.inm pmarks → s.over V → s.leaves.length ≤ 12 → s.deep + 4 < n →
    callF T 1000 con n kr [.d s.d, .d (.tuple (txs kinds)), .c c] S = .ok (.d (s.gr kinds t).d) S := by
  intro s
  induction s with
  | yes =>
    intro n S hS hm ho hl hn
    obtain ⟨m, rfl⟩ : ∃ m, n = m + 1 := ⟨n - 1, by omega⟩
    rw [call_eq hR rfl]
    show finR S.length (svs _ (lgrofF kr kg).body [some (.d (.tuple [.str "yes"])), some (.d (.tuple (txs kinds))), some (.c c), none] S) = _
    simp [lgrofF, lgrof_0, lgrof_1, Say.gr, Gd.d, sizeLine_eq]
  | no =>
    intro n S hS hm ho hl hn
    obtain ⟨m, rfl⟩ : ∃ m, n = m + 1 := ⟨n - 1, by omega⟩
    rw [call_eq hR rfl]
    show finR S.length (svs _ (lgrofF kr kg).body [some (.d (.tuple [.str "no"])), some (.d (.tuple (txs kinds))), some (.c c), none] S) = _
    simp [lgrofF, lgrof_0, lgrof_1, lgrof_2, Say.gr, least_d, sizeLine_eq]
  | unk x =>
    intro n S hS hm ho hl hn
    obtain ⟨m, rfl⟩ : ∃ m, n = m + 1 := ⟨n - 1, by omega⟩
    rw [call_eq hR rfl]
    show finR S.length (svs _ (lgrofF kr kg).body [some (.d (.tuple [.str "unknown", .str x])), some (.d (.tuple (txs kinds))), some (.c c), none] S) = _
    simp [lgrofF, lgrof_0, idx_k hS (hk x ho), Say.gr]
  | not a ih =>
    intro n S hS hm ho hl hn
    simp only [Say.deep, Say.leaves] at hn hl
    obtain ⟨m, rfl⟩ : ∃ m, n = m + 1 := ⟨n - 1, by omega⟩
    rw [call_eq hR rfl]
    show finR S.length (svs _ (lgrofF kr kg).body [some (.d (.tuple [.str "not", a.d])), some (.d (.tuple (txs kinds))), some (.c c), none] S) = _
    have e1 := ih (n := m) hS hm ho hl (by omega)
    have ga := gr_GB h0 ht (s := a) ho
    have e2 := lgiven_ok (con := con) (S := S) (n := m) (w := "leads") hB hG hW (by omega) (by decide +kernel) (pr_of hkv ga (least_GB h0) (by omega)) (pr_of hkv (least_GB h0) ga (by omega))
    rw [least_d] at e2
    simp [lgrofF, lgrof_0, lgrof_1, lgrof_2, lgrof_3, lgrof_4, Say.gr, e1, e2, sizeLine_eq]
  | two w a b iha ihb =>
    intro n S hS hm ho hl hn
    simp only [Say.deep, Say.leaves, List.length_append] at hn hl
    obtain ⟨m, rfl⟩ : ∃ m, n = m + 1 := ⟨n - 1, by omega⟩
    rw [call_eq hR rfl]
    show finR S.length (svs _ (lgrofF kr kg).body [some (.d (.tuple [.str w, a.d, b.d])), some (.d (.tuple (txs kinds))), some (.c c), none] S) = _
    obtain ⟨q1, q2, q3, q4⟩ := mark_eqs (pm_marks _ hm.1)
    have e1 := iha (n := m) hS hm.2.1 ho.1 (by omega) (by omega)
    have e2 := ihb (n := m) hS hm.2.2 ho.2 (by omega) (by omega)
    have ga := gr_GB h0 ht (s := a) ho.1
    have gb := gr_GB h0 ht (s := b) ho.2
    have e3 := lgiven_ok (con := con) (S := S) (n := m) (w := w) hB hG hW (by omega) hm.1 (pr_of hkv ga gb (by omega)) (pr_of hkv gb ga (by omega))
    simp [lgrofF, lgrof_0, lgrof_1, lgrof_2, lgrof_3, lgrof_4, lgrof_5, Say.gr, e1, e2, e3, q1, q2, q3, q4]
end
end Ht

set_option maxRecDepth 100000
set_option maxHeartbeats 16000000
/-! HtGt: chain_value with its errors; the draws of rows and grades. -/
namespace Ht
open PySem L2 PyProof.Rows
section
variable {T : List FD} {con : List PyData} {fuel : Nat}
theorem hplus_ok {kp k : Nat} (h0 : T[kp]? = some partsF) (h1 : T[k]? = some (hplusF k kp)) : ∀ {s : Say} {n : Nat}, s.deep + 1 < n → s.ok → ∀ S : Sto, callF T fuel con n k [.d s.d] S = .ok (.d (.bool s.hp)) S := by
  intro s
  induction s with
  | not a ih =>
    intro n hn h S
    obtain ⟨m, rfl⟩ : ∃ m, n = m + 1 := ⟨n - 1, by omega⟩
    simp only [Say.deep] at hn
    rw [call_eq h1 rfl]
    show finR S.length (svs _ (hplusF k kp).body [some (.d (Say.not a).d), none] S) = _
    have e0 := parts_ok (fuel := fuel) (con := con) (n := m) h0 (by omega) (s := .not a) h S
    have e1 := ih (n := m) (by omega) h S
    simp only [Say.d, Say.parts, List.map_cons, List.map_nil] at e0
    simp [hplusF, hplus_0, e0, e1, lcR, lc1, sizeLine_eq, bltD, boolsOf, Say.hp, Say.d]
  | two w a b iha ihb =>
    intro n hn h S
    obtain ⟨m, rfl⟩ : ∃ m, n = m + 1 := ⟨n - 1, by omega⟩
    simp only [Say.deep] at hn
    rw [call_eq h1 rfl]
    show finR S.length (svs _ (hplusF k kp).body [some (.d (Say.two w a b).d), none] S) = _
    have e0 := parts_ok (fuel := fuel) (con := con) (n := m) h0 (by omega) (s := .two w a b) h S
    have e1 := iha (n := m) (by omega) h.2.1 S
    have e2 := ihb (n := m) (by omega) h.2.2 S
    simp only [Say.d, Say.parts, List.map_cons, List.map_nil] at e0
    cases hw : (w == Str.ofString "plus") with
    | true => simp [hplusF, hplus_0, e0, e1, e2, lcR, lc1, sizeLine_eq, bltD, boolsOf, Say.hp, Say.d, eq_s, hw]
    | false => simp [hplusF, hplus_0, e0, e1, e2, lcR, lc1, sizeLine_eq, bltD, boolsOf, Say.hp, Say.d, eq_s, hw]
  | _ =>
    intro n hn h S
    obtain ⟨m, rfl⟩ : ∃ m, n = m + 1 := ⟨n - 1, by omega⟩
    rw [call_eq h1 rfl]
    show finR S.length (svs _ (hplusF k kp).body [some (.d (Say.d _)), none] S) = _
    have e0 := parts_ok (fuel := fuel) (con := con) (n := m) h0 (by omega) h S
    simp only [Say.d, Say.parts, List.map_nil] at e0
    simp [hplusF, hplus_0, e0, lcR, lc1, sizeLine_eq, bltD, boolsOf, Say.hp, Say.d]
theorem noplus_ok {kp kh k x n : Nat} (h0 : T[kp]? = some partsF) (h1 : T[kh]? = some (hplusF kh kp)) (h2 : T[k]? = some (noplusF kh x)) {s : Say} (hn : s.deep + 2 < n) (ho : s.ok) (S : Sto) : callF T fuel con n k [.d s.d] S = if s.hp then .err ⟨x, some (.str "plus")⟩ [] S else .ok (.d .none) S := by
  obtain ⟨m, rfl⟩ : ∃ m, n = m + 1 := ⟨n - 1, by omega⟩
  rw [call_eq h2 rfl]
  show finR S.length (svs _ (noplusF kh x).body [some (.d s.d)] S) = _
  have e := hplus_ok (fuel := fuel) (con := con) h0 h1 (s := s) (n := m) (by omega) ho S
  cases hs : s.hp with
  | true =>
    rw [hs] at e
    simp [noplusF, noplus_0, e]
  | false =>
    rw [hs] at e
    simp [noplusF, noplus_0, e]
def farG (l : Nat) : Gd → Bool
  | .one => false
  | .at' k _ _ => decide (l ≤ k)
theorem look_ok {k x g n : Nat} {kinds : List Str} {gs : List Gd} {S : Sto} (hT : T[k]? = some (lookF x g)) (hg : con[g]? = some Gd.one.d) (hn : 0 < n) : callF T fuel con n k [.d (.tuple (txs kinds)), .d (.tuple (gs.map Gd.d))] S = match gs.find? (farG kinds.length) with
    | some z => .err ⟨x, some z.d⟩ [] S
    | none => .ok (.d .none) S := by
  obtain ⟨m, rfl⟩ : ∃ m, n = m + 1 := ⟨n - 1, by omega⟩
  rw [call_eq hT rfl]
  show finR S.length (svs _ (lookF x g).body [some (.d (.tuple (txs kinds))), some (.d (.tuple (gs.map Gd.d))), none] S) = _
  have key : ∀ (l : List Gd) (all : List PyData) (a1 o : Option E), match l.find? (farG kinds.length) with
      | some z => ∃ Γ, forR none all (lp1 ⟨callF T fuel con m, fuel, con⟩ (.nam 2) (.cons (.ite (.and (.cmp .NotEq (.var 2) (.glo g)) (.cmp .GtE (.idx (.var 2) (.con (.int 1))) (.blt .len (.cons (.var 0) .nil)))) (.cons (.rais x (.var 2)) .nil) .nil) .nil)) (l.map Gd.d) [some (.d (.tuple (txs kinds))), a1, o] S = .err ⟨x, some z.d⟩ Γ S
      | none => ∃ o', forR none all (lp1 ⟨callF T fuel con m, fuel, con⟩ (.nam 2) (.cons (.ite (.and (.cmp .NotEq (.var 2) (.glo g)) (.cmp .GtE (.idx (.var 2) (.con (.int 1))) (.blt .len (.cons (.var 0) .nil)))) (.cons (.rais x (.var 2)) .nil) .nil) .nil)) (l.map Gd.d) [some (.d (.tuple (txs kinds))), a1, o] S = .ok (.nxt [some (.d (.tuple (txs kinds))), a1, o']) S := by
    intro l
    induction l with
    | nil => intro all a1 o; exact ⟨o, forR_nil⟩
    | cons z l ih =>
      intro all a1 o
      have hz := gd_eq z .one
      cases z with
      | one =>
        have st : lp1 ⟨callF T fuel con m, fuel, con⟩ (.nam 2) (.cons (.ite (.and (.cmp .NotEq (.var 2) (.glo g)) (.cmp .GtE (.idx (.var 2) (.con (.int 1))) (.blt .len (.cons (.var 0) .nil)))) (.cons (.rais x (.var 2)) .nil) .nil) .nil) Gd.one.d [some (.d (.tuple (txs kinds))), a1, o] S = .ok (.nxt [some (.d (.tuple (txs kinds))), a1, some (.d Gd.one.d)]) S := by
          have := ne_of_eq hz
          simp [lp1, hg, this]
        simp only [List.find?_cons, farG]
        have := ih all a1 (some (.d Gd.one.d))
        cases hf : l.find? (farG kinds.length) with
        | none =>
          rw [hf] at this
          obtain ⟨o', e⟩ := this
          exact ⟨o', by rw [List.map_cons, forR_cons (w := none) st (by trivial)]; exact e⟩
        | some w =>
          rw [hf] at this
          obtain ⟨Γ, e⟩ := this
          exact ⟨Γ, by rw [List.map_cons, forR_cons (w := none) st (by trivial)]; exact e⟩
      | at' i a b =>
        have h1 : cmpD .NotEq (Gd.at' i a b).d Gd.one.d = some true := by
          have := ne_of_eq hz
          rw [this]; rfl
        have i1 : idxD (Gd.at' i a b).d (.int 1) = some (.int i) := by simp [Gd.d]
        by_cases q : kinds.length ≤ i
        · have q' : (kinds.length : Int) ≤ i := by omega
          simp only [List.find?_cons, farG, decide_eq_true q]
          refine ⟨[some (.d (.tuple (txs kinds))), a1, some (.d (Gd.at' i a b).d)], ?_⟩
          have st : lp1 ⟨callF T fuel con m, fuel, con⟩ (.nam 2) (.cons (.ite (.and (.cmp .NotEq (.var 2) (.glo g)) (.cmp .GtE (.idx (.var 2) (.con (.int 1))) (.blt .len (.cons (.var 0) .nil)))) (.cons (.rais x (.var 2)) .nil) .nil) .nil) (Gd.at' i a b).d [some (.d (.tuple (txs kinds))), a1, o] S = .err ⟨x, some (Gd.at' i a b).d⟩ [some (.d (.tuple (txs kinds))), a1, some (.d (Gd.at' i a b).d)] S := by
            generalize (Gd.at' i a b).d = X at *
            simp [lp1, hg, h1, i1, q, q']
          rw [List.map_cons, forR, st]
          rfl
        · have q' : ¬ (kinds.length : Int) ≤ i := by omega
          simp only [List.find?_cons, farG, decide_eq_false q]
          have st : lp1 ⟨callF T fuel con m, fuel, con⟩ (.nam 2) (.cons (.ite (.and (.cmp .NotEq (.var 2) (.glo g)) (.cmp .GtE (.idx (.var 2) (.con (.int 1))) (.blt .len (.cons (.var 0) .nil)))) (.cons (.rais x (.var 2)) .nil) .nil) .nil) (Gd.at' i a b).d [some (.d (.tuple (txs kinds))), a1, o] S = .ok (.nxt [some (.d (.tuple (txs kinds))), a1, some (.d (Gd.at' i a b).d)]) S := by
            generalize (Gd.at' i a b).d = X at *
            simp [lp1, hg, h1, i1, q, q']
          have := ih all a1 (some (.d (Gd.at' i a b).d))
          cases hf : l.find? (farG kinds.length) with
          | none =>
            rw [hf] at this
            obtain ⟨o', e⟩ := this
            exact ⟨o', by rw [List.map_cons, forR_cons (w := none) st (by trivial)]; exact e⟩
          | some w =>
            rw [hf] at this
            obtain ⟨Γ, e⟩ := this
            exact ⟨Γ, by rw [List.map_cons, forR_cons (w := none) st (by trivial)]; exact e⟩
  have := key gs (gs.map Gd.d) (some (.d (.tuple (gs.map Gd.d)))) none
  cases hf : gs.find? (farG kinds.length) with
  | none =>
    rw [hf] at this
    obtain ⟨o', e⟩ := this
    simp [lookF, look_0, e]
  | some w =>
    rw [hf] at this
    obtain ⟨Γ, e⟩ := this
    simp [lookF, look_0, e]
structure ChT (T : List FD) (con : List PyData) (x0 x1 x2 g0 g1 k0 k1 k2 kc kl kf kv kp ko kq kg ki kh kn kr ku kx ky kz : Nat) : Prop where
  gr : GrT T con x0 x1 g0 kc kl kf kv kp ko kq kg ki kh kn
  w1 : con[g1]? = some least.d
  h0 : T[k0]? = some partsF
  h1 : T[k1]? = some (noteF k0 k1)
  h2 : T[k2]? = some (unksF k1)
  hR : T[kr]? = some (grinF g0 g1 kr kn)
  hU : T[ku]? = some (hplusF ku k0)
  hX : T[kx]? = some (noplusF ku x1)
  hY : T[ky]? = some (lookF x0 g0)
  hZ : T[kz]? = some (chainvF kx k2 x2 ky kr)
/-- what chain_value says, if it does not come to the grade -/
def chR (x0 x1 x2 : Nat) (s : Say) (l : Nat) (names : List Str) (gs : List Gd) (S : Sto) (r : R E) : R E :=
  if s.hp then .err ⟨x1, some (.str "plus")⟩ [] S else match (namesL [] [s]).find? (fun x => decide (x ∉ names)) with
    | some x => .err ⟨x2, some (.str x)⟩ [] S
    | none => match gs.find? (farG l) with
      | some z => .err ⟨x0, some z.d⟩ [] S
      | none => r
theorem miss_loop {m x : Nat} {names : List Str} {a0 a1 a3 : Option E} {S : Sto} {all : List PyData} : ∀ (l : List Str) (o : Option E), match l.find? (fun x => decide (x ∉ names)) with
    | some y => ∃ Γ, forR none all (lp1 ⟨callF T fuel con m, fuel, con⟩ (.nam 4) (.cons (.ite (.cmp .NotIn (.var 4) (.var 2)) (.cons (.rais x (.var 4)) .nil) .nil) .nil)) (txs l) [a0, a1, some (.d (.tuple (txs names))), a3, o] S = .err ⟨x, some (.str y)⟩ Γ S
    | none => ∃ o', forR none all (lp1 ⟨callF T fuel con m, fuel, con⟩ (.nam 4) (.cons (.ite (.cmp .NotIn (.var 4) (.var 2)) (.cons (.rais x (.var 4)) .nil) .nil) .nil)) (txs l) [a0, a1, some (.d (.tuple (txs names))), a3, o] S = .ok (.nxt [a0, a1, some (.d (.tuple (txs names))), a3, o']) S
  | [], o => ⟨o, forR_nil⟩
  | y :: l, o => by
    have hc : cmpD .NotIn (.str y) (.tuple (txs names)) = some (!decide (y ∈ names)) := nin_s (us := names) (.inr rfl)
    by_cases q : y ∈ names
    · have st : lp1 ⟨callF T fuel con m, fuel, con⟩ (.nam 4) (.cons (.ite (.cmp .NotIn (.var 4) (.var 2)) (.cons (.rais x (.var 4)) .nil) .nil) .nil) (.str y) [a0, a1, some (.d (.tuple (txs names))), a3, o] S = .ok (.nxt [a0, a1, some (.d (.tuple (txs names))), a3, some (.d (.str y))]) S := by
        simp [lp1, hc, q]
      have := miss_loop (m := m) (x := x) (names := names) (a0 := a0) (a1 := a1) (a3 := a3) (S := S) (all := all) l (some (.d (.str y)))
      have hq : decide (y ∉ names) = false := by simp [q]
      simp only [List.find?_cons, hq]
      cases hf : l.find? (fun x => decide (x ∉ names)) with
      | none =>
        rw [hf] at this
        obtain ⟨o', e⟩ := this
        exact ⟨o', by rw [txs, List.map_cons, forR_cons (w := none) st (by trivial)]; exact e⟩
      | some w =>
        rw [hf] at this
        obtain ⟨Γ, e⟩ := this
        exact ⟨Γ, by rw [txs, List.map_cons, forR_cons (w := none) st (by trivial)]; exact e⟩
    · have hq : decide (y ∉ names) = true := by simp [q]
      simp only [List.find?_cons, hq]
      refine ⟨[a0, a1, some (.d (.tuple (txs names))), a3, some (.d (.str y))], ?_⟩
      rw [txs, List.map_cons, forR]
      simp [lp1, hc, q]
theorem chain_ok {x0 x1 x2 g0 g1 k0 k1 k2 kc kl kf kv kp ko kq kg ki kh kn kr ku kx ky kz n : Nat} {kinds names : List Str} {gs : List Gd} {s : Say} {S : Sto} (V : ChT T con x0 x1 x2 g0 g1 k0 k1 k2 kc kl kf kv kp ko kq kg ki kh kn kr ku kx ky kz)
    (ho : s.ok) (hn : s.deep + 13 < n) (hl : s.words ≤ 1000) (hv : s.hp = false → (∀ x ∈ namesL [] [s], x ∈ names) → gs.find? (farG kinds.length) = none → KV kinds ∧ 0 < kinds.length ∧ names.Nodup ∧ (∀ x ∈ names, ∃ z, zt names gs x = some z ∧ GB kinds 1 z) ∧ s.inm pmarks ∧ s.over names ∧ s.leaves.length ≤ 12) :
    callF T 1000 con n kz [.d s.d, .d (.tuple (txs kinds)), .d (.tuple (txs names)), .d (.tuple (gs.map Gd.d))] S = chR x0 x1 x2 s kinds.length names gs S (.ok (.d (s.gr kinds fun x => (zt names gs x).getD .one).d) S) := by
  obtain ⟨m, rfl⟩ : ∃ m, n = m + 1 := ⟨n - 1, by omega⟩
  rw [call_eq V.hZ rfl]
  show finR S.length (svs _ (chainvF kx k2 x2 ky kr).body [some (.d s.d), some (.d (.tuple (txs kinds))), some (.d (.tuple (txs names))), some (.d (.tuple (gs.map Gd.d))), none] S) = _
  have e1 := noplus_ok (fuel := 1000) (con := con) (n := m) V.h0 V.hU V.hX (s := s) (by omega) ho S
  unfold chR
  cases hp : s.hp with
  | true =>
    rw [hp] at e1
    simp [chainvF, chainv_0, e1]
  | false =>
    rw [hp] at e1
    simp only [Bool.false_eq_true, if_false] at e1 ⊢
    have e2 := unks_ok (fuel := 1000) (con := con) (n := m) (ss := [s]) V.h0 V.h1 V.h2 (fun z hz => by rw [List.mem_singleton] at hz; subst hz; exact ⟨ho, by omega⟩) (by omega) (by simp [wordsL]; omega) S
    simp only [List.map_cons, List.map_nil] at e2
    have hs1 : (1 : Nat) ≤ sizeLine := by rw [sizeLine_eq]; decide
    have hI : evI ⟨callF T 1000 con m, 1000, con⟩ (.seq (.call k2 (.cons (.tup (.cons (.var 0) .nil)) .nil))) [some (.d s.d), some (.d (.tuple (txs kinds))), some (.d (.tuple (txs names))), some (.d (.tuple (gs.map Gd.d))), none] S = .ok ⟨txs (namesL [] [s]), none⟩ S := by
      simp [e2, hs1]
    have lp := miss_loop (T := T) (con := con) (fuel := 1000) (m := m) (x := x2) (names := names) (a0 := some (.d s.d)) (a1 := some (.d (.tuple (txs kinds)))) (a3 := some (.d (.tuple (gs.map Gd.d)))) (S := S) (all := txs (namesL [] [s])) (namesL [] [s]) none
    have s0 : sv ⟨callF T 1000 con m, 1000, con⟩ (chainv_0 kx) [some (.d s.d), some (.d (.tuple (txs kinds))), some (.d (.tuple (txs names))), some (.d (.tuple (gs.map Gd.d))), none] S = .ok (.nxt [some (.d s.d), some (.d (.tuple (txs kinds))), some (.d (.tuple (txs names))), some (.d (.tuple (gs.map Gd.d))), none]) S := by
      simp [chainv_0, e1]
    show finR S.length (svs _ (.cons (chainv_0 kx) (.cons (chainv_1 k2 x2) (.cons (chainv_2 ky) (.cons (chainv_3 kr) .nil)))) _ S) = _
    rw [svs_cons, s0, thenR_nxt, svs_cons, chainv_1, sv_loop, hI, R.bind_ok]
    cases hf : (namesL [] [s]).find? (fun x => decide (x ∉ names)) with
    | some y =>
      rw [hf] at lp
      obtain ⟨Γ, e⟩ := lp
      rw [e]
      simp
    | none =>
      rw [hf] at lp
      obtain ⟨o', e⟩ := lp
      rw [e, thenR_nxt]
      have e3 := look_ok (fuel := 1000) (n := m) (kinds := kinds) (gs := gs) (S := S) V.hY V.gr.w0 (by omega)
      cases hg : gs.find? (farG kinds.length) with
      | some z =>
        rw [hg] at e3
        simp only at e3
        simp [chainv_2, e3]
      | none =>
        rw [hg] at e3
        simp only at e3
        have hin : ∀ x ∈ namesL [] [s], x ∈ names := fun x hx => by
          have := List.find?_eq_none.mp hf x hx
          simpa using this
        obtain ⟨v1, v2, v3, v4, v5, v6, v7⟩ := hv hp hin hg
        have hk : ∀ x ∈ names, (mergeS [] (names.zip (gs.map Gd.d))).lookup x = some ((zt names gs x).getD .one).d := fun x hx => by
          obtain ⟨z, hz, _⟩ := v4 x hx
          rw [mergeS_nodup v3, zip_lookup]
          unfold zt at hz ⊢
          rw [hz]
          rfl
        have ht : ∀ x ∈ names, GB kinds 1 ((zt names gs x).getD .one) := fun x hx => by
          obtain ⟨z, hz, hb⟩ := v4 x hx
          rw [hz]
          exact hb
        have e4 := grin_ok (V := names) (t := fun x => (zt names gs x).getD .one) (c := S.length) V.gr V.hR V.w1 v1 v2 ht hk (s := s) (n := m) (S := S ++ [.dct (mergeS [] (names.zip (gs.map Gd.d)))]) (by simp) v5 v6 v7 (by omega)
        simp [chainv_2, chainv_3, e3, dz_tt, e4]
/-! ### drawn rows, grades -/
theorem kinds_ok {kd ko k n c p : Nat} {d : Cell} {S : Sto} {b : Nat} (hkd : T[kd]? = some drawF) (hko : T[ko]? = some (ofF kd)) (hT : T[k]? = some (lkndF ko kd)) (hb0 : 0 < b) (hb : b ≤ 20) (hn : 3 < n) (hS : S[c]? = some d) (hd : Dr p d) (hp : p + 30 ≤ 2 ^ 40) :
    ∃ (kinds : List Str) (d' : Cell), KV kinds ∧ 0 < kinds.length ∧ kinds.length ≤ b ∧ Dr (p + 21) d' ∧ callF T fuel con n k [.c c, .d (.int b)] S = .ok (.d (.tuple (txs kinds))) (S.set c d') := by
  obtain ⟨m, rfl⟩ : ∃ m, n = m + 1 := ⟨n - 1, by omega⟩
  rw [call_eq hT rfl]
  show ∃ (kinds : List Str) (d' : Cell), _ ∧ _ ∧ _ ∧ _ ∧ finR S.length (svs _ (lkndF ko kd).body [some (.c c), some (.d (.int b)), none] S) = _
  obtain ⟨r, d1, r0, r1, hd1, hS1, e1⟩ := draw_at (n := m) (fuel := fuel) (con := con) (b := b) (by omega) hkd hS hd (by omega) (by omega) (by omega)
  obtain ⟨j, rfl⟩ := Int.eq_ofNat_of_zero_le r0
  have hI : evI ⟨callF T fuel con m, fuel, con⟩ (.rng1 (.bin .Add (.con (.int 1)) (.call kd (.cons (.var 0) (.cons (.var 1) .nil))))) [some (.c c), some (.d (.int b)), none] S = .ok ⟨rangeD 0 (j + 1), none⟩ (S.set c d1) := rng_ev (by simp [e1]; omega) (by omega)
  obtain ⟨ys, d2, h1, h2, h3, h4⟩ := lcR_draw (f := lc1 ⟨callF T fuel con m, fuel, con⟩ (.call ko (.cons (.var 0) (.cons (.lst (.cons (.con (.str "sum")) (.cons (.con (.str "product")) (.cons (.con (.str "step")) .nil)))) .nil))) (.nam 2) .none [some (.c c), some (.d (.int b)), none]) (Gd := fun y => ∃ w, y = .str w ∧ (w = Str.ofString "sum" ∨ w = Str.ofString "product" ∨ w = Str.ofString "step")) (c := c) (k := 1) (B := 2 ^ 40) (rangeD 0 (j + 1)) [] (S.set c d1) d1 (p + 1) (by
    intro x hx S d p hS hd hp
    obtain ⟨y, hy, d1, hd1, hS1, e1⟩ := of_at (n := m) (fuel := fuel) (con := con) (mk := .list) (xs := [.str "sum", .str "product", .str "step"]) (.inl rfl) (by omega) hkd hko hS hd (by omega) (by simp) (by simp)
    refine ⟨y, d1, ?_, hd1, by simp [lc1, e1, sizeLine_eq]⟩
    simp only [List.mem_cons, List.not_mem_nil, or_false] at hy
    rcases hy with rfl | rfl | rfl
    · exact ⟨_, rfl, .inl rfl⟩
    · exact ⟨_, rfl, .inr (.inl rfl)⟩
    · exact ⟨_, rfl, .inr (.inr rfl)⟩) hS1 hd1 (by simp [rangeD]; omega) (by simp [rangeD, sizeLine_eq]; omega)
  have hw : ∃ ws : List Str, ys = txs ws ∧ (∀ w ∈ ws, w = Str.ofString "sum" ∨ w = Str.ofString "product" ∨ w = Str.ofString "step") := by
    clear h2 h3 h4
    induction ys with
    | nil => exact ⟨[], rfl, by simp⟩
    | cons y ys ih =>
      obtain ⟨w, rfl, hw⟩ := h1 y List.mem_cons_self
      obtain ⟨ws, rfl, hws⟩ := ih fun y hy => h1 y (List.mem_cons_of_mem _ hy)
      refine ⟨w :: ws, rfl, fun z hz => ?_⟩
      rcases List.mem_cons.mp hz with rfl | hz
      · exact hw
      · exact hws z hz
  obtain ⟨ws, rfl, hws⟩ := hw
  have hlen : ws.length = j + 1 := by simpa [rangeD] using h2
  rw [List.nil_append, List.set_set] at h4
  refine ⟨ws, d2, fun k hk => ?_, by omega, by omega, h3.mono (by simp [rangeD]; omega), ?_⟩
  · have : kindAt ws k = ws[k] := by simp [kindAt, hk]
    rw [this]
    exact hws _ (List.getElem_mem hk)
  · show finR S.length (svs _ (.cons (lknd_0 ko kd) .nil) _ S) = _
    rw [svs_cons, lknd_0, sv_ret, ev_blt, evs_cons, lc_ev (own := [2]) hI h4]
    simp
theorem lgrade_ok {kd ko kw k n c p b : Nat} {d : Cell} {S : Sto} (hkd : T[kd]? = some drawF) (hko : T[ko]? = some (ofF kd)) (hW : T[kw]? = some lowF) (hT : T[k]? = some (lgrdF kd ko kw)) (hb0 : 0 < b) (hb : b ≤ 1000) (hn : 3 < n) (hS : S[c]? = some d) (hd : Dr p d) (hp : p + 10 ≤ 2 ^ 40) :
    ∃ (g : Gd) (d' : Cell), (∀ kinds : List Str, b ≤ kinds.length → GB kinds 1 g) ∧ (∀ k a e, g = .at' k a e → k < b ∧ e ≤ 1000000000) ∧ Dr (p + 5) d' ∧ callF T 1000 con n k [.c c, .d (.int b)] S = .ok (.d g.d) (S.set c d') := by
  obtain ⟨m, rfl⟩ : ∃ m, n = m + 1 := ⟨n - 1, by omega⟩
  rw [call_eq hT rfl]
  show ∃ (g : Gd) (d' : Cell), _ ∧ _ ∧ _ ∧ finR S.length (svs _ (lgrdF kd ko kw).body [some (.c c), some (.d (.int b)), none] S) = _
  obtain ⟨r, d1, r0, r1, hd1, hS1, e1⟩ := draw_at (n := m) (fuel := 1000) (con := con) (b := 5) (by omega) hkd hS hd (by omega) (by decide) (by decide)
  by_cases q : r = 0
  · subst q
    refine ⟨.one, d1, fun _ _ => trivial, (by rintro k a e h; cases h), hd1.mono (by omega), ?_⟩
    simp [lgrdF, lgrd_0, e1, sizeLine_eq, Gd.d]
  · have hpow : binD .Pow (.int 10) (.int 9) = some (.int 1000000000) := by
      rw [binD]
      rw [if_pos (by decide)]
      rfl
    obtain ⟨y, hy, d2, hd2, hS2, e2⟩ := of_at (n := m) (fuel := 1000) (con := con) (mk := .list) (xs := [.int 1, .int 2, .int 3, .int 4, .int 6, .int 12, .int 1000000000]) (.inl rfl) (by omega) hkd hko hS1 hd1 (by omega) (by simp) (by simp)
    have hk : ∃ k : Nat, y = .int k ∧ 0 < k ∧ (k : Int) ≤ 1000000000 ∧ (k : Int) ∣ 3000000000 := by
      simp only [List.mem_cons, List.not_mem_nil, or_false] at hy
      rcases hy with rfl | rfl | rfl | rfl | rfl | rfl | rfl
      · exact ⟨1, rfl, by omega, by omega, by decide⟩
      · exact ⟨2, rfl, by omega, by omega, by decide⟩
      · exact ⟨3, rfl, by omega, by omega, by decide⟩
      · exact ⟨4, rfl, by omega, by omega, by decide⟩
      · exact ⟨6, rfl, by omega, by omega, by decide⟩
      · exact ⟨12, rfl, by omega, by omega, by decide⟩
      · exact ⟨1000000000, rfl, by omega, by omega, by decide⟩
    obtain ⟨w, rfl, hw0, hw1, hw2⟩ := hk
    obtain ⟨i, d3, i0, i1, hd3, hS3, e3⟩ := draw_at (n := m) (fuel := 1000) (con := con) (b := b) (by omega) hkd hS2 hd2 (by omega) (by omega) (by omega)
    obtain ⟨u, d4, u0, u1, hd4, hS4, e4⟩ := draw_at (n := m) (fuel := 1000) (con := con) (b := w) (by omega) hkd hS3 hd3 (by omega) (by omega) (by omega)
    simp only [List.set_set] at e2 e3 e4
    obtain ⟨j, rfl⟩ := Int.eq_ofNat_of_zero_le i0
    have h9 : (1000000000 : Int) < 2 ^ 499 := by decide
    have e5 := low_ok (con := con) (S := S.set c d4) (n := m) (k := kw) (a := u) (b := w) (by omega) hW (by omega) (by omega)
    refine ⟨lowG j (u, w), d4, fun kinds hb => ?_, ?_, hd4.mono (by omega), ?_⟩
    · refine lowG_GB (by omega) (by omega) u0 u1 (by have h1 : qq ^ 1 = 1000000000 := (by decide); omega) fun _ => ?_
      obtain ⟨z, hz⟩ := hw2
      exact ⟨u * z, by rw [hz, Int.mul_assoc, Int.mul_comm z]⟩
    · rintro k a e h
      unfold lowG at h
      cases h
      have := lowB_le (n := u) (W := w) (by omega)
      refine ⟨by omega, ?_⟩
      show lowB u (w : Int) ≤ _
      omega
    · rw [lowG_d]
      simp [lgrdF, lgrd_0, lgrd_1, lgrd_2, e1, e2, e3, e4, e5, q, hpow, sizeLine_eq]
end
/-! ### drawn sayings over a list of marks -/
def cel : List Str → CEs
  | [] => .nil
  | w :: ws => .cons (.con (.str w)) (cel ws)
theorem evD_cel {P : Ph} {Γ : Gm} {S : Sto} : ∀ ws : List Str, evD P (cel ws) Γ S = .ok (txs ws) S
  | [] => rfl
  | w :: ws => by
    rw [cel, evD_cons, ev_con, R.bind_ok, dat_d, R.bind_ok, evD_cel ws]
    rfl
def sayG0 (M : List Str) (kd ko ks : Nat) : CS := .ite (.cmp .Eq (.var 2) (.con (.int 0))) (.cons (.asg (.nam 3) (.call kd (.cons (.var 0) (.cons (.con (.int 9)) .nil)))) (.cons (.asg (.nam 4) (.ife (.cmp .Eq (.var 3) (.con (.int 0))) (.tup (.cons (.con (.str "yes")) .nil)) (.ife (.cmp .Eq (.var 3) (.con (.int 1))) (.tup (.cons (.con (.str "no")) .nil)) (.tup (.cons (.con (.str "unknown")) (.cons (.call ko (.cons (.var 0) (.cons (.var 1) .nil))) .nil)))))) .nil)) (.cons (.asg (.nam 5) (.call kd (.cons (.var 0) (.cons (.var 2) .nil)))) (.cons (.asg (.nam 6) (.call ko (.cons (.var 0) (.cons (.lst (cel M)) .nil)))) (.cons (.asg (.nam 7) (.call ks (.cons (.var 0) (.cons (.var 1) (.cons (.var 5) .nil))))) (.cons (.asg (.nam 4) (.tup (.cons (.var 6) (.cons (.var 7) (.cons (.call ks (.cons (.var 0) (.cons (.var 1) (.cons (.bin .Sub (.bin .Sub (.var 2) (.con (.int 1))) (.var 5)) .nil)))) .nil))))) .nil))))
def sayGF (M : List Str) (kd ko ks : Nat) (nt : Int) : FD := ⟨3, 8, .cons (sayG0 M kd ko ks) (.cons (say1 kd nt) .nil)⟩
section
variable {T : List FD} {con : List PyData} {fuel : Nat}
theorem sayG_ok {M : List Str} {kd ko ks : Nat} {nt : Int} {mk : List PyData → PyData} (hmk : mk = .list ∨ mk = .tuple) (hM0 : M ≠ []) (hM1 : M.length ≤ 100) (hkd : T[kd]? = some drawF) (hko : T[ko]? = some (ofF kd)) (hks : T[ks]? = some (sayGF M kd ko ks nt)) (h0 : 0 < nt) (h1 : nt ≤ 1000) : ∀ (k : Nat) {n c p : Nat} {d : Cell} {S : Sto} {names : List Str}, k ≤ 100 → k + 3 < n → S[c]? = some d → Dr p d → p + 6 * k + 3 ≤ 2 ^ 40 → names ≠ [] → names.length ≤ 1000 →
    ∃ (s : Say) (d' : Cell), s.inm M ∧ s.over names ∧ s.deep ≤ 2 * k + 1 ∧ s.words ≤ 4 * k + 2 ∧ s.cnt = k ∧ s.leaves.length ≤ k + 1 ∧ Dr (p + 6 * k + 3) d' ∧ callF T fuel con n ks [.c c, .d (mk (txs names)), .d (.int k)] S = .ok (.d s.d) (S.set c d') := by
  intro k
  have hs : sizeLine = 16777216 := sizeLine_eq
  induction k using Nat.strongRecOn with
  | _ k ih =>
    intro n c p d S names hk hn hS hd hp hne hnl
    obtain ⟨m, rfl⟩ : ∃ m, n = m + 1 := ⟨n - 1, by omega⟩
    rw [call_eq hks rfl]
    show ∃ (s : Say) (d' : Cell), _ ∧ _ ∧ _ ∧ _ ∧ _ ∧ _ ∧ _ ∧ finR S.length (svs _ (sayGF M kd ko ks nt).body [some (.c c), some (.d (mk (txs names))), some (.d (.int k)), none, none, none, none, none] S) = _
    have first : ∃ (s : Say) (d1 : Cell) (o3 o5 o6 o7 : Option E), s.inm M ∧ s.over names ∧ s.deep ≤ 2 * k ∧ s.words ≤ 4 * k + 1 ∧ s.cnt = k ∧ s.leaves.length ≤ k + 1 ∧ Dr (p + 6 * k + 2) d1 ∧
        sv ⟨callF T fuel con m, fuel, con⟩ (sayG0 M kd ko ks) [some (.c c), some (.d (mk (txs names))), some (.d (.int k)), none, none, none, none, none] S = .ok (.nxt [some (.c c), some (.d (mk (txs names))), some (.d (.int k)), o3, some (.d s.d), o5, o6, o7]) (S.set c d1) := by
      by_cases hk0 : k = 0
      · subst hk0
        obtain ⟨r, d1, hr0, hr1, hd1, hs1, e1⟩ := draw_at (n := m) (fuel := fuel) (con := con) (b := 9) (by omega) hkd hS hd (by omega) (by decide) (by decide)
        by_cases q0 : r = 0
        · subst q0
          exact ⟨.yes, d1, some (.d (.int 0)), none, none, none, trivial, trivial, by simp [Say.deep], by simp [Say.words], rfl, by simp [Say.leaves], hd1.mono (by omega), by simp [sayG0, e1, sizeLine_eq, Say.d]⟩
        · by_cases q1 : r = 1
          · subst q1
            exact ⟨.no, d1, some (.d (.int 1)), none, none, none, trivial, trivial, by simp [Say.deep], by simp [Say.words], rfl, by simp [Say.leaves], hd1.mono (by omega), by simp [sayG0, e1, sizeLine_eq, Say.d]⟩
          · obtain ⟨x, hx, d2, hd2, hs2, e2⟩ := of_at (n := m) (fuel := fuel) (con := con) (mk := mk) (xs := txs names) hmk (by omega) hkd hko hs1 hd1 (by omega) (by simpa using hne) (by simp; omega)
            obtain ⟨y, hy, rfl⟩ := List.mem_map.mp hx
            exact ⟨.unk y, d2, some (.d (.int r)), none, none, none, trivial, hy, by simp [Say.deep], by simp [Say.words], rfl, by simp [Say.leaves], hd2.mono (by omega), by simp [sayG0, e1, e2, q0, q1, sizeLine_eq, Say.d]⟩
      · obtain ⟨r, d1, hr0, hr1, hd1, hs1, e1⟩ := draw_at (n := m) (fuel := fuel) (con := con) (b := k) (by omega) hkd hS hd (by omega) (by omega) (by omega)
        obtain ⟨l, rfl⟩ := Int.eq_ofNat_of_zero_le hr0
        obtain ⟨x, hx, d2, hd2, hs2, e2⟩ := of_at (n := m) (fuel := fuel) (con := con) (mk := .list) (xs := txs M) (.inl rfl) (by omega) hkd hko hs1 hd1 (by omega) (by simpa using hM0) (by simp; omega)
        obtain ⟨w, hw, rfl⟩ := List.mem_map.mp hx
        have hlk : l < k := by omega
        obtain ⟨a, d3, oa, va, da, ha, ca, la, hd3, e3⟩ := ih l hlk (n := m) (by omega) (by omega) hs2 hd2 (by omega) hne hnl
        obtain ⟨b, d4, ob, vb, db, hb, cb, lb, hd4, e4⟩ := ih (k - 1 - l) (by omega) (n := m) (by omega) (by omega) (set_at (z' := d3) hs2) hd3 (by omega) hne hnl
        have ek : ((k : Int) - 1 - (l : Int)) = ((k - 1 - l : Nat) : Int) := by omega
        have hk0' : ¬ ((k : Int) = 0) := by omega
        simp only [List.set_set] at e2 e3 e4
        refine ⟨.two w a b, d4, none, some (.d (.int l)), some (.d (.str w)), some (.d a.d), ⟨hw, oa, ob⟩, ⟨va, vb⟩, by simp only [Say.deep]; omega, by simp only [Say.words]; omega, by simp only [Say.cnt]; omega, by simp only [Say.leaves, List.length_append]; omega, hd4.mono (by omega), ?_⟩
        have hml : (txs M).length ≤ 16777216 := by simp; omega
        simp [-List.length_map, sayG0, evD_cel, hml, e1, e2, e3, e4, ek, hk0, sizeLine_eq, Say.d]
    obtain ⟨s, d1, o3, o5, o6, o7, hs, hv, hde, hhe, hc, hll, hd1, e0⟩ := first
    obtain ⟨r, d2, hr0, hr1, hd2, hs2, e1⟩ := draw_at (n := m) (fuel := fuel) (con := con) (b := nt) (by omega) hkd (set_at (z' := d1) hS) hd1 (by omega) h0 (by omega)
    simp only [List.set_set] at e1
    by_cases q : r = 0
    · subst q
      refine ⟨.not s, d2, hs, hv, by simp only [Say.deep]; omega, by simp only [Say.words]; omega, hc, hll, hd2.mono (by omega), ?_⟩
      simp [sayGF, e0, say1, e1, sizeLine_eq, Say.d]
    · refine ⟨s, d2, hs, hv, by omega, by omega, hc, hll, hd2.mono (by omega), ?_⟩
      simp [sayGF, e0, say1, e1, q]
end
end Ht

set_option maxRecDepth 100000
set_option maxHeartbeats 16000000
/-! HtRun: running a body forward, by simp: what stands first is reckoned first. -/
namespace Ht
open PySem L2 PyProof.Rows
section
variable {α β : Type} {r r' : R α} {f : α → Sto → R β} {Q : α → Sto → Prop} {QB : β → Sto → Prop} {X : Xq} {Γ : Gm} {L : Nat} {S A : Sto} {c : Nat} {d : Cell}
theorem bind_cg (h : r = r') : r.bind f = r'.bind f := by rw [h]
theorem thenR_cg {r r' : R Flow} {k : Gm → Sto → R Flow} (h : r = r') : thenR r k = thenR r' k := by rw [h]
theorem wp_cg (h : r = r') : Wp r Q X = Wp r' Q X := by rw [h]
theorem wp_bind_eq : Wp (r.bind f) QB X = Wp r (fun a S => Wp (f a S) QB X) X := by cases r <;> rfl
theorem wp_then_eq {r : R Flow} {k : Gm → Sto → R Flow} {QF : Flow → Sto → Prop} : Wp (thenR r k) QF X = Wp r (fun fl S => Wp (thenR (.ok fl S) k) QF X) X := by cases r <;> rfl
theorem wp_call_eq {r : R E} {QE : E → Sto → Prop} : Wp (callR r Γ) QE X = Wp r QE (fun x _ S => X x Γ S) := by cases r <;> rfl
theorem wp_fin_eq {r : R Flow} {QE : E → Sto → Prop} : Wp (finR L r) QE X = Wp r (fun fl S => Wp (finR L (.ok fl S)) QE X) (fun x _ S => X x [] (S.take L)) := by cases r <;> rfl
theorem wp_tru_eq {r : R E} {QB : Bool → Sto → Prop} : Wp (truR r) QB X = Wp r (fun e S => Wp (optB (truE e S) S) QB X) X := by cases r <;> rfl
theorem wp_use {Q' : α → Sto → Prop} (h : Wp r Q' xNo) (i : ∀ a S, Q' a S → Q a S) : Wp r Q X := by
  cases r with
  | ok a S => exact i _ _ h
  | err x Γ S => exact h.elim
  | no => exact h.elim
/-- what a def gives that draws from c -/
abbrev Dq (c q : Nat) (S : Sto) (x : PyData → Prop) : E → Sto → Prop := fun e S' => ∃ v d', e = .d v ∧ x v ∧ S' = S.set c d' ∧ Dr q d'
theorem wp_dq {r : R E} {q : Nat} {x : PyData → Prop} {QE : E → Sto → Prop} (h : Wp r (Dq c q S x) xNo) (i : ∀ v d', x v → Dr q d' → QE (.d v) (S.set c d')) : Wp r QE X := by
  refine wp_use h ?_
  rintro _ _ ⟨v, d', rfl, hx, rfl, hd⟩
  exact i v d' hx hd
theorem wp_dr {T : List FD} {fuel : Nat} {con : List PyData} {k : Nat} {b : Int} {p n : Nat} {QE : E → Sto → Prop} (hT : T[k]? = some drawF) (hS : S[c]? = some d) (hd : Dr p d) (hn : 0 < n) (hp : p ≤ 2 ^ 40) (hb : 0 < b) (hb2 : b < 2 ^ 60)
    (h : ∀ r d', 0 ≤ r → r < b → Dr (p + 1) d' → QE (.d (.int r)) (S.set c d')) : Wp (callF T fuel con n k [.c c, .d (.int b)] S) QE X := by
  obtain ⟨r, d', h1, h2, h3, h4, e⟩ := draw_at (fuel := fuel) (con := con) hn hT hS hd hp hb hb2
  rw [e]
  exact h r d' h1 h2 h3
theorem wp_ofd {T : List FD} {fuel : Nat} {con : List PyData} {k ko p n : Nat} {xs : List PyData} {mk : List PyData → PyData} {QE : E → Sto → Prop} (hmk : mk = .list ∨ mk = .tuple) (hT : T[k]? = some drawF) (hO : T[ko]? = some (ofF k)) (hS : S[c]? = some d) (hd : Dr p d) (hn : 1 < n) (hp : p ≤ 2 ^ 40) (hx : xs ≠ []) (hx2 : xs.length < 2 ^ 60)
    (h : ∀ x d', x ∈ xs → Dr (p + 1) d' → QE (.d x) (S.set c d')) : Wp (callF T fuel con n ko [.c c, .d (mk xs)] S) QE X := by
  obtain ⟨x, hx, d', h1, h2, e⟩ := of_at (fuel := fuel) (con := con) hmk hn hT hO hS hd hp hx hx2
  rw [e]
  exact h x d' hx h1
theorem wp_body {T : List FD} {fuel : Nat} {con : List PyData} {m k : Nat} {es : List E} {F : FD} {QE : E → Sto → Prop} (h : T[k]? = some F) (hl : es.length = F.np) (w : Wp (svs ⟨callF T fuel con m, fuel, con⟩ F.body (begin_ F es) S) (Kf S.length QE) xNo) : Wp (callF T fuel con (m + 1) k es S) QE X :=
  wp_call (n := m + 1) (by omega) h hl w
theorem tk_set : (S.set c d).take S.length = S.set c d := List.take_of_length_le (by simp)
theorem tk_app : (S ++ A).take S.length = S := by simp
theorem tk_sapp : (S.set c d ++ A).take S.length = S.set c d := by
  rw [List.take_append_of_le_length (by simp), tk_set]
theorem tk_self : S.take S.length = S := List.take_of_length_le (Nat.le_refl _)
theorem at_app {z : Cell} {i : Nat} (h : S[i]? = some z) : (S ++ A)[i]? = some z := by
  rw [List.getElem?_append_left (List.getElem?_eq_some_iff.mp h).1]; exact h
theorem lt_at {z : Cell} {i : Nat} (h : S[i]? = some z) : i < S.length := (List.getElem?_eq_some_iff.mp h).1
theorem set_app' {z : Cell} {i : Nat} (h : i < S.length) : (S ++ A).set i z = S.set i z ++ A := List.set_append_left _ _ h
/-- a loop that fills a dict with names and things -/
theorem dz_loop {c : Nat} {w : List PyData} {f : PyData → Gm → Sto → R Flow} {Γf : Option E → Option E → Gm} (hf : ∀ o1 o2 k v kvs S, S[c]? = some (.dct kvs) → kvs.length < 16777216 → f (.tuple [.str k, v]) (Γf o1 o2) S = .ok (.nxt (Γf (some (.d (.str k))) (some (.d v)))) (S.set c (.dct (insS kvs k v)))) :
    ∀ (ks : List Str) (vs : List PyData) (kvs : List (Str × PyData)) (o1 o2 : Option E) (S : Sto), S[c]? = some (.dct kvs) → kvs.length + ks.length < 16777216 →
    ∃ o1' o2', forR none w f (((txs ks).zip vs).map fun p => .tuple [p.1, p.2]) (Γf o1 o2) S = .ok (.nxt (Γf o1' o2')) (S.set c (.dct (mergeS kvs (ks.zip vs))))
  | [], vs, kvs, o1, o2, S, hS, _ => ⟨o1, o2, by
    show forR none w f [] _ _ = _
    rw [forR_nil]
    show _ = R.ok _ (S.set c (.dct kvs))
    rw [set_same hS]⟩
  | k :: ks, [], kvs, o1, o2, S, hS, _ => ⟨o1, o2, by
    show forR none w f [] _ _ = _
    rw [forR_nil]
    show _ = R.ok _ (S.set c (.dct kvs))
    rw [set_same hS]⟩
  | k :: ks, v :: vs, kvs, o1, o2, S, hS, hl => by
    simp only [List.length_cons] at hl
    have hl2 := insS_len kvs k v
    obtain ⟨o1', o2', e⟩ := dz_loop (w := w) hf ks vs (insS kvs k v) (some (.d (.str k))) (some (.d v)) (S.set c (.dct (insS kvs k v))) (set_at hS) (by omega)
    refine ⟨o1', o2', ?_⟩
    rw [List.set_set] at e
    show forR none w f (.tuple [.str k, v] :: (((txs ks).zip vs).map fun p => .tuple [p.1, p.2])) _ _ = _
    rw [forR_cons (w := none) (hf o1 o2 k v kvs S hS (by omega)) (by trivial), e]
    rfl
end

end Ht

set_option maxRecDepth 100000
set_option maxHeartbeats 16000000
namespace K50
open PySem L2 Ht PyProof.Rows
def top (i : Nat) : Stmt := PySem.Challenge.pw_halftruths_k50_chain_values.main.body.getD i (.Pass ⟨0, 0, 0, 0⟩)
-- parts_of
def N0 : List Str := ["saying"]
def c0_0 : CS := .ret (.ife (.cmp .Eq (.idx (.var 0) (.con (.int 0))) (.con (.str "unknown"))) (.tup .nil) (.slc (.var 0) (.some (.con (.int 1))) .none))
def c0 : CSs := .cons c0_0 (.nil)
def F0 : FD := ⟨1, 1, c0⟩
-- _note_unknowns
def N1 : List Str := ["saying", "found", "part"]
def c1_0 : CS := .ite (.cmp .Eq (.idx (.var 0) (.con (.int 0))) (.con (.str "unknown"))) (.cons (.ite (.cmp .NotIn (.idx (.var 0) (.con (.int 1))) (.var 1)) (.cons (.exp (.app (.var 1) (.idx (.var 0) (.con (.int 1))))) .nil) .nil) (.cons (.ret0) .nil)) .nil
def c1_1 : CS := .loop (.nam 2) (.seq (.call 0 (.cons (.var 0) .nil))) (.cons (.exp (.call 1 (.cons (.var 2) (.cons (.var 1) .nil)))) .nil)
def c1 : CSs := .cons c1_0 (.cons c1_1 (.nil))
def F1 : FD := ⟨2, 3, c1⟩
-- unknowns_of
def N2 : List Str := ["sayings", "found", "saying"]
def c2_0 : CS := .own 1 (.lst .nil)
def c2_1 : CS := .loop (.nam 2) (.seq (.var 0)) (.cons (.exp (.call 1 (.cons (.var 2) (.cons (.var 1) .nil)))) .nil)
def c2_2 : CS := .ret (.blt .tuple (.cons (.var 1) .nil))
def c2 : CSs := .cons c2_0 (.cons c2_1 (.cons c2_2 (.nil)))
def F2 : FD := ⟨1, 3, c2⟩
-- common
def N3 : List Str := ["first", "second", "one", "two"]
def c3_0 : CS := .par 2 3 (.blt .abs (.cons (.var 0) .nil)) (.blt .abs (.cons (.var 1) .nil))
def c3_1 : CS := .whl (.cmp .Gt (.var 3) (.con (.int 0))) (.cons (.par 2 3 (.var 3) (.bin .Mod (.var 2) (.var 3))) .nil)
def c3_2 : CS := .ret (.var 2)
def c3 : CSs := .cons c3_0 (.cons c3_1 (.cons c3_2 (.nil)))
def F3 : FD := ⟨2, 4, c3⟩
-- lowest
def N4 : List Str := ["above", "below", "divisor"]
def c4_0 : CS := .asg (.nam 2) (.call 3 (.cons (.var 0) (.cons (.var 1) .nil)))
def c4_1 : CS := .ite (.cmp .Lt (.var 1) (.con (.int 0))) (.cons (.asg (.nam 2) (.neg (.var 2))) .nil) .nil
def c4_2 : CS := .ret (.tup (.cons (.bin .FloorDiv (.var 0) (.var 2)) (.cons (.bin .FloorDiv (.var 1) (.var 2)) .nil)))
def c4 : CSs := .cons c4_0 (.cons c4_1 (.cons c4_2 (.nil)))
def F4 : FD := ⟨2, 3, c4⟩
-- fraction
def N5 : List Str := ["above", "below", "found"]
def c5_0 : CS := .asg (.nam 2) (.call 4 (.cons (.var 0) (.cons (.var 1) .nil)))
def c5_1 : CS := .ite (.not (.chain .LtE .LtE (.con (.int 0)) (.idx (.var 2) (.con (.int 0))) (.idx (.var 2) (.con (.int 1))))) (.cons (.rais 0 (.tup (.cons (.var 0) (.cons (.var 1) .nil)))) .nil) .nil
def c5_2 : CS := .ret (.var 2)
def c5 : CSs := .cons c5_0 (.cons c5_1 (.cons c5_2 (.nil)))
def F5 : FD := ⟨2, 3, c5⟩
-- compared
def N6 : List Str := ["first", "second", "one", "two"]
def c6_0 : CS := .par 2 3 (.bin .Mult (.idx (.var 0) (.con (.int 0))) (.idx (.var 1) (.con (.int 1)))) (.bin .Mult (.idx (.var 1) (.con (.int 0))) (.idx (.var 0) (.con (.int 1))))
def c6_1 : CS := .ite (.cmp .Eq (.var 2) (.var 3)) (.cons (.ret (.con (.int 0))) .nil) .nil
def c6_2 : CS := .ret (.ife (.cmp .Lt (.var 2) (.var 3)) (.neg (.con (.int 1))) (.con (.int 1)))
def c6 : CSs := .cons c6_0 (.cons c6_1 (.cons c6_2 (.nil)))
def F6 : FD := ⟨2, 4, c6⟩
-- _plus
def N7 : List Str := ["first", "second"]
def c7_0 : CS := .ret (.call 4 (.cons (.bin .Add (.bin .Mult (.idx (.var 0) (.con (.int 0))) (.idx (.var 1) (.con (.int 1)))) (.bin .Mult (.idx (.var 1) (.con (.int 0))) (.idx (.var 0) (.con (.int 1))))) (.cons (.bin .Mult (.idx (.var 0) (.con (.int 1))) (.idx (.var 1) (.con (.int 1)))) .nil)))
def c7 : CSs := .cons c7_0 (.nil)
def F7 : FD := ⟨2, 2, c7⟩
-- _opposite
def N8 : List Str := ["value"]
def c8_0 : CS := .ret (.tup (.cons (.bin .Sub (.idx (.var 0) (.con (.int 1))) (.idx (.var 0) (.con (.int 0)))) (.cons (.idx (.var 0) (.con (.int 1))) .nil)))
def c8 : CSs := .cons c8_0 (.nil)
def F8 : FD := ⟨1, 1, c8⟩
-- _capped
def N9 : List Str := ["pair"]
def c9_0 : CS := .ret (.ife (.cmp .Gt (.idx (.var 0) (.con (.int 0))) (.idx (.var 0) (.con (.int 1)))) (.tup (.cons (.con (.int 1)) (.cons (.con (.int 1)) .nil))) (.var 0))
def c9 : CSs := .cons c9_0 (.nil)
def F9 : FD := ⟨1, 1, c9⟩
-- given_by
def N10 : List Str := ["mark", "first", "second", "lesser", "greater"]
def c10_0 : CS := .ite (.cmp .Eq (.var 0) (.con (.str "plus"))) (.cons (.ret (.call 9 (.cons (.call 7 (.cons (.var 1) (.cons (.var 2) .nil))) .nil))) .nil) .nil
def c10_1 : CS := .ite (.cmp .Eq (.var 0) (.con (.str "times"))) (.cons (.ret (.call 8 (.cons (.call 9 (.cons (.call 7 (.cons (.call 8 (.cons (.var 1) .nil)) (.cons (.call 8 (.cons (.var 2) .nil)) .nil))) .nil)) .nil))) .nil) .nil
def c10_2 : CS := .ite (.cmp .Eq (.var 0) (.con (.str "leads"))) (.cons (.ret (.call 9 (.cons (.call 7 (.cons (.call 8 (.cons (.var 1) .nil)) (.cons (.var 2) .nil))) .nil))) .nil) .nil
def c10_3 : CS := .asg (.tup (.cons (.nam 3) (.cons (.nam 4) .nil))) (.ife (.cmp .LtE (.call 6 (.cons (.var 1) (.cons (.var 2) .nil))) (.con (.int 0))) (.tup (.cons (.var 1) (.cons (.var 2) .nil))) (.tup (.cons (.var 2) (.cons (.var 1) .nil))))
def c10_4 : CS := .ite (.cmp .Eq (.var 0) (.con (.str "and"))) (.cons (.ret (.var 3)) .nil) .nil
def c10_5 : CS := .ite (.cmp .Eq (.var 0) (.con (.str "or"))) (.cons (.ret (.var 4)) .nil) .nil
def c10_6 : CS := .ret (.call 9 (.cons (.call 7 (.cons (.call 8 (.cons (.var 4) .nil)) (.cons (.var 3) .nil))) .nil))
def c10 : CSs := .cons c10_0 (.cons c10_1 (.cons c10_2 (.cons c10_3 (.cons c10_4 (.cons c10_5 (.cons c10_6 (.nil)))))))
def F10 : FD := ⟨3, 5, c10⟩
-- has_plus
def N11 : List Str := ["saying", "part"]
def c11_0 : CS := .ret (.or (.cmp .Eq (.idx (.var 0) (.con (.int 0))) (.con (.str "plus"))) (.blt .any (.cons (.lc (.call 11 (.cons (.var 1) .nil)) (.nam 1) (.seq (.call 0 (.cons (.var 0) .nil))) .none [1]) .nil)))
def c11 : CSs := .cons c11_0 (.nil)
def F11 : FD := ⟨1, 2, c11⟩
-- compared_grades
def N12 : List Str := ["first", "second"]
def c12_0 : CS := .ite (.cmp .Eq (.var 0) (.var 1)) (.cons (.ret (.con (.int 0))) .nil) .nil
def c12_1 : CS := .ite (.or (.cmp .Eq (.var 0) (.glo 0)) (.cmp .Eq (.var 1) (.glo 0))) (.cons (.ret (.ife (.cmp .Eq (.var 0) (.glo 0)) (.con (.int 1)) (.neg (.con (.int 1))))) .nil) .nil
def c12_2 : CS := .ite (.cmp .NotEq (.idx (.var 0) (.con (.int 1))) (.idx (.var 1) (.con (.int 1)))) (.cons (.ret (.ife (.cmp .Lt (.idx (.var 0) (.con (.int 1))) (.idx (.var 1) (.con (.int 1)))) (.neg (.con (.int 1))) (.con (.int 1)))) .nil) .nil
def c12_3 : CS := .ret (.call 6 (.cons (.idx (.var 0) (.con (.int 2))) (.cons (.idx (.var 1) (.con (.int 2))) .nil)))
def c12 : CSs := .cons c12_0 (.cons c12_1 (.cons c12_2 (.cons c12_3 (.nil))))
def F12 : FD := ⟨2, 2, c12⟩
-- _inside
def N13 : List Str := ["mark", "kind", "first", "second"]
def c13_0 : CS := .ite (.cmp .Eq (.var 1) (.con (.str "sum"))) (.cons (.ret (.call 10 (.cons (.var 0) (.cons (.var 2) (.cons (.var 3) .nil))))) .nil) .nil
def c13_1 : CS := .ite (.cmp .Eq (.var 1) (.con (.str "step"))) (.cons (.ret (.ife (.and (.cmp .Eq (.var 0) (.con (.str "times"))) (.cmp .Lt (.call 6 (.cons (.var 2) (.cons (.var 3) .nil))) (.con (.int 0)))) (.var 2) (.var 3))) .nil) .nil
def c13_2 : CS := .ite (.cmp .Eq (.var 0) (.con (.str "times"))) (.cons (.ret (.call 5 (.cons (.bin .Mult (.idx (.var 2) (.con (.int 0))) (.idx (.var 3) (.con (.int 0)))) (.cons (.bin .Mult (.idx (.var 2) (.con (.int 1))) (.idx (.var 3) (.con (.int 1)))) .nil)))) .nil) .nil
def c13_3 : CS := .ret (.call 5 (.cons (.bin .Mult (.idx (.var 3) (.con (.int 0))) (.idx (.var 2) (.con (.int 1)))) (.cons (.bin .Mult (.idx (.var 3) (.con (.int 1))) (.idx (.var 2) (.con (.int 0)))) .nil)))
def c13 : CSs := .cons c13_0 (.cons c13_1 (.cons c13_2 (.cons c13_3 (.nil))))
def F13 : FD := ⟨4, 4, c13⟩
-- chain_given
def N14 : List Str := ["mark", "kinds", "first", "second", "order", "lesser", "greater"]
def c14_0 : CS := .ite (.cmp .Eq (.var 0) (.con (.str "plus"))) (.cons (.rais 1 (.con (.str "plus"))) .nil) .nil
def c14_1 : CS := .asg (.nam 4) (.call 12 (.cons (.var 2) (.cons (.var 3) .nil)))
def c14_2 : CS := .asg (.tup (.cons (.nam 5) (.cons (.nam 6) .nil))) (.ife (.cmp .LtE (.var 4) (.con (.int 0))) (.tup (.cons (.var 2) (.cons (.var 3) .nil))) (.tup (.cons (.var 3) (.cons (.var 2) .nil))))
def c14_3 : CS := .ite (.cmp .Eq (.var 0) (.con (.str "and"))) (.cons (.ret (.var 5)) .nil) .nil
def c14_4 : CS := .ite (.cmp .Eq (.var 0) (.con (.str "or"))) (.cons (.ret (.var 6)) .nil) .nil
def c14_5 : CS := .ite (.cmp .Eq (.var 0) (.con (.str "same"))) (.cons (.ret (.ife (.cmp .Eq (.var 4) (.con (.int 0))) (.glo 0) (.call 14 (.cons (.con (.str "leads")) (.cons (.var 1) (.cons (.var 6) (.cons (.var 5) .nil))))))) .nil) .nil
def c14_6 : CS := .ite (.and (.cmp .Eq (.var 0) (.con (.str "leads"))) (.cmp .LtE (.var 4) (.con (.int 0)))) (.cons (.ret (.glo 0)) .nil) .nil
def c14_7 : CS := .ite (.or (.cmp .Eq (.var 2) (.glo 0)) (.or (.cmp .Eq (.var 3) (.glo 0)) (.cmp .NotEq (.idx (.var 2) (.con (.int 1))) (.idx (.var 3) (.con (.int 1)))))) (.cons (.ret (.var 5)) .nil) .nil
def c14_8 : CS := .ite (.cmp .Eq (.var 0) (.con (.str "times"))) (.cons (.ret (.tup (.cons (.con (.str "in")) (.cons (.idx (.var 2) (.con (.int 1))) (.cons (.call 13 (.cons (.con (.str "times")) (.cons (.idx (.var 1) (.idx (.var 2) (.con (.int 1)))) (.cons (.idx (.var 5) (.con (.int 2))) (.cons (.idx (.var 6) (.con (.int 2))) .nil))))) .nil))))) .nil) .nil
def c14_9 : CS := .ret (.tup (.cons (.con (.str "in")) (.cons (.idx (.var 2) (.con (.int 1))) (.cons (.call 13 (.cons (.con (.str "leads")) (.cons (.idx (.var 1) (.idx (.var 2) (.con (.int 1)))) (.cons (.idx (.var 2) (.con (.int 2))) (.cons (.idx (.var 3) (.con (.int 2))) .nil))))) .nil))))
def c14 : CSs := .cons c14_0 (.cons c14_1 (.cons c14_2 (.cons c14_3 (.cons c14_4 (.cons c14_5 (.cons c14_6 (.cons c14_7 (.cons c14_8 (.cons c14_9 (.nil))))))))))
def F14 : FD := ⟨4, 7, c14⟩
-- grade_in
def N15 : List Str := ["saying", "kinds", "table", "first"]
def c15_0 : CS := .ite (.cmp .Eq (.idx (.var 0) (.con (.int 0))) (.con (.str "unknown"))) (.cons (.ret (.idx (.var 2) (.idx (.var 0) (.con (.int 1))))) .nil) .nil
def c15_1 : CS := .ite (.cmp .Eq (.idx (.var 0) (.con (.int 0))) (.con (.str "yes"))) (.cons (.ret (.glo 0)) .nil) .nil
def c15_2 : CS := .ite (.cmp .Eq (.idx (.var 0) (.con (.int 0))) (.con (.str "no"))) (.cons (.ret (.glo 1)) .nil) .nil
def c15_3 : CS := .asg (.nam 3) (.call 15 (.cons (.idx (.var 0) (.con (.int 1))) (.cons (.var 1) (.cons (.var 2) .nil))))
def c15_4 : CS := .ite (.cmp .Eq (.idx (.var 0) (.con (.int 0))) (.con (.str "not"))) (.cons (.ret (.call 14 (.cons (.con (.str "leads")) (.cons (.var 1) (.cons (.var 3) (.cons (.glo 1) .nil)))))) .nil) .nil
def c15_5 : CS := .ret (.call 14 (.cons (.idx (.var 0) (.con (.int 0))) (.cons (.var 1) (.cons (.var 3) (.cons (.call 15 (.cons (.idx (.var 0) (.con (.int 2))) (.cons (.var 1) (.cons (.var 2) .nil)))) .nil)))))
def c15 : CSs := .cons c15_0 (.cons c15_1 (.cons c15_2 (.cons c15_3 (.cons c15_4 (.cons c15_5 (.nil))))))
def F15 : FD := ⟨3, 4, c15⟩
-- without_plus
def N16 : List Str := ["saying"]
def c16_0 : CS := .ite (.call 11 (.cons (.var 0) .nil)) (.cons (.rais 1 (.con (.str "plus"))) .nil) .nil
def c16 : CSs := .cons c16_0 (.nil)
def F16 : FD := ⟨1, 1, c16⟩
-- look_in_row
def N17 : List Str := ["kinds", "grades", "grade"]
def c17_0 : CS := .loop (.nam 2) (.seq (.var 1)) (.cons (.ite (.and (.cmp .NotEq (.var 2) (.glo 0)) (.cmp .GtE (.idx (.var 2) (.con (.int 1))) (.blt .len (.cons (.var 0) .nil)))) (.cons (.rais 0 (.var 2)) .nil) .nil) .nil)
def c17 : CSs := .cons c17_0 (.nil)
def F17 : FD := ⟨2, 3, c17⟩
-- chain_value
def N18 : List Str := ["saying", "kinds", "names", "grades", "name"]
def c18_0 : CS := .exp (.call 16 (.cons (.var 0) .nil))
def c18_1 : CS := .loop (.nam 4) (.seq (.call 2 (.cons (.tup (.cons (.var 0) .nil)) .nil))) (.cons (.ite (.cmp .NotIn (.var 4) (.var 2)) (.cons (.rais 2 (.var 4)) .nil) .nil) .nil)
def c18_2 : CS := .exp (.call 17 (.cons (.var 1) (.cons (.var 3) .nil)))
def c18_3 : CS := .ret (.call 15 (.cons (.var 0) (.cons (.var 1) (.cons (.dzip (.var 2) (.var 3)) .nil))))
def c18 : CSs := .cons c18_0 (.cons c18_1 (.cons c18_2 (.cons c18_3 (.nil))))
def F18 : FD := ⟨4, 5, c18⟩
-- _law_begun
def N19 : List Str := ["_law_script", "_law_k", "_law_cells", "_law_great", "_law_begun_here", "_law_cell"]
def c19_0 : CS := .asg (.nam 2) (.bin .Add (.slc (.var 0) (.some (.var 1)) .none) (.slc (.var 0) .none (.some (.var 1))))
def c19_1 : CS := .asg (.nam 3) (.lc (.var 5) (.nam 5) (.seq (.var 0)) (.some (.cmp .GtE (.var 5) (.bin .Pow (.con (.int 10)) (.con (.int 18))))) [5])
def c19_2 : CS := .asg (.nam 4) (.bin .Add (.con (.int 53)) (.bin .Mult (.con (.int 8)) (.var 1)))
def c19_3 : CS := .loop (.nam 5) (.seq (.var 2)) (.cons (.asg (.nam 4) (.bin .Mod (.blt .int (.cons (.bin .Add (.bin .Mult (.var 4) (.con (.int 48271))) (.var 5)) .nil)) (.con (.int 2147483647)))) .nil)
def c19_4 : CS := .ret (.dct ["left", "seed", "cells", "spot"] (.cons (.ife (.cmp .Lt (.var 1) (.blt .len (.cons (.var 3) .nil))) (.idx (.var 3) (.var 1)) (.con (.int 0))) (.cons (.var 4) (.cons (.bin .Add (.var 2) (.lst (.cons (.bin .Add (.bin .Mult (.con (.int 41)) (.var 1)) (.con (.int 13))) .nil))) (.cons (.con (.int 0)) .nil)))))
def c19 : CSs := .cons c19_0 (.cons c19_1 (.cons c19_2 (.cons c19_3 (.cons c19_4 (.nil)))))
def F19 : FD := ⟨2, 6, c19⟩
-- _law_draw
def N20 : List Str := ["_law_m", "_law_below", "_law_spot", "_law_cells", "_law_added", "_law_cell", "_law_blend", "_law_found"]
def c20_0 : CS := .ite (.cmp .Gt (.idx (.var 0) (.con (.str "left"))) (.con (.int 0))) (.cons (.asg (.nam 7) (.bin .Mod (.blt .int (.cons (.idx (.var 0) (.con (.str "left"))) .nil)) (.var 1))) (.cons (.sub (.var 0) (.con (.str "left")) (.bin .FloorDiv (.idx (.var 0) (.con (.str "left"))) (.var 1))) (.cons (.ret (.var 7)) .nil))) .nil
def c20_1 : CS := .asg (.nam 2) (.idx (.var 0) (.con (.str "spot")))
def c20_2 : CS := .sub (.var 0) (.con (.str "spot")) (.bin .Add (.var 2) (.con (.int 1)))
def c20_3 : CS := .par 3 4 (.idx (.var 0) (.con (.str "cells"))) (.bin .Add (.idx (.var 0) (.con (.str "seed"))) (.bin .Mult (.bin .Mult (.con (.int 40503)) (.var 2)) (.var 2)))
def c20_4 : CS := .asg (.nam 5) (.idx (.var 3) (.bin .Mod (.blt .int (.cons (.var 2) .nil)) (.blt .len (.cons (.var 3) .nil))))
def c20_5 : CS := .asg (.nam 6) (.bin .Mod (.blt .int (.cons (.bin .Add (.bin .Mult (.var 5) (.bin .Add (.bin .Mult (.con (.int 2)) (.var 2)) (.con (.int 3)))) (.var 4)) .nil)) (.con (.int 2147483647)))
def c20_6 : CS := .asg (.nam 6) (.bin .Mod (.blt .int (.cons (.bin .Add (.bin .Add (.bin .Mult (.var 6) (.var 6)) (.bin .Mult (.con (.int 69621)) (.var 2))) (.idx (.var 0) (.con (.str "seed")))) .nil)) (.con (.int 2147483629)))
def c20_7 : CS := .ret (.bin .Mod (.bin .FloorDiv (.bin .Mod (.blt .int (.cons (.bin .Add (.bin .Mult (.var 6) (.con (.int 48271))) (.var 2)) .nil)) (.con (.int 2147483647))) (.con (.int 11))) (.var 1))
def c20 : CSs := .cons c20_0 (.cons c20_1 (.cons c20_2 (.cons c20_3 (.cons c20_4 (.cons c20_5 (.cons c20_6 (.cons c20_7 (.nil))))))))
def F20 : FD := ⟨2, 8, c20⟩
-- _law_of
def N21 : List Str := ["_law_m", "_law_some"]
def c21_0 : CS := .ret (.idx (.var 1) (.call 20 (.cons (.var 0) (.cons (.blt .len (.cons (.var 1) .nil)) .nil))))
def c21 : CSs := .cons c21_0 (.nil)
def F21 : FD := ⟨2, 2, c21⟩
-- _law_lowest
def N22 : List Str := ["_law_above", "_law_below", "_law_one", "_law_two"]
def c22_0 : CS := .par 2 3 (.blt .abs (.cons (.var 0) .nil)) (.var 1)
def c22_1 : CS := .whl (.cmp .Gt (.var 3) (.con (.int 0))) (.cons (.par 2 3 (.var 3) (.bin .Mod (.blt .int (.cons (.var 2) .nil)) (.var 3))) .nil)
def c22_2 : CS := .ret (.tup (.cons (.bin .FloorDiv (.var 0) (.var 2)) (.cons (.bin .FloorDiv (.var 1) (.var 2)) .nil)))
def c22 : CSs := .cons c22_0 (.cons c22_1 (.cons c22_2 (.nil)))
def F22 : FD := ⟨2, 4, c22⟩
-- _law_plain_saying
def N23 : List Str := ["_law_m", "_law_names", "_law_size", "_law_way", "_law_made", "_law_left", "_law_mark", "_law_first"]
def c23_0 : CS := .ite (.cmp .Eq (.var 2) (.con (.int 0))) (.cons (.asg (.nam 3) (.call 20 (.cons (.var 0) (.cons (.con (.int 9)) .nil)))) (.cons (.asg (.nam 4) (.ife (.cmp .Eq (.var 3) (.con (.int 0))) (.tup (.cons (.con (.str "yes")) .nil)) (.ife (.cmp .Eq (.var 3) (.con (.int 1))) (.tup (.cons (.con (.str "no")) .nil)) (.tup (.cons (.con (.str "unknown")) (.cons (.call 21 (.cons (.var 0) (.cons (.var 1) .nil))) .nil)))))) .nil)) (.cons (.asg (.nam 5) (.call 20 (.cons (.var 0) (.cons (.var 2) .nil)))) (.cons (.asg (.nam 6) (.call 21 (.cons (.var 0) (.cons (.lst (.cons (.con (.str "times")) (.cons (.con (.str "leads")) (.cons (.con (.str "and")) (.cons (.con (.str "or")) (.cons (.con (.str "same")) (.cons (.con (.str "times")) (.cons (.con (.str "leads")) (.cons (.con (.str "leads")) .nil))))))))) .nil)))) (.cons (.asg (.nam 7) (.call 23 (.cons (.var 0) (.cons (.var 1) (.cons (.var 5) .nil))))) (.cons (.asg (.nam 4) (.tup (.cons (.var 6) (.cons (.var 7) (.cons (.call 23 (.cons (.var 0) (.cons (.var 1) (.cons (.bin .Sub (.bin .Sub (.var 2) (.con (.int 1))) (.var 5)) .nil)))) .nil))))) .nil))))
def c23_1 : CS := .ret (.ife (.cmp .Eq (.call 20 (.cons (.var 0) (.cons (.con (.int 6)) .nil))) (.con (.int 0))) (.tup (.cons (.con (.str "not")) (.cons (.var 4) .nil))) (.var 4))
def c23 : CSs := .cons c23_0 (.cons c23_1 (.nil))
def F23 : FD := ⟨3, 8, c23⟩
-- _law_before
def N24 : List Str := ["_law_one", "_law_two", "_law_here", "_law_there"]
def c24_0 : CS := .ite (.or (.cmp .Eq (.blt .len (.cons (.var 0) .nil)) (.con (.int 1))) (.cmp .Eq (.blt .len (.cons (.var 1) .nil)) (.con (.int 1)))) (.cons (.ret (.ife (.cmp .Eq (.blt .len (.cons (.var 0) .nil)) (.blt .len (.cons (.var 1) .nil))) (.con (.int 0)) (.ife (.cmp .Eq (.blt .len (.cons (.var 0) .nil)) (.con (.int 1))) (.con (.int 1)) (.neg (.con (.int 1)))))) .nil) .nil
def c24_1 : CS := .ite (.cmp .NotEq (.idx (.var 0) (.con (.int 1))) (.idx (.var 1) (.con (.int 1)))) (.cons (.ret (.ife (.cmp .Lt (.idx (.var 0) (.con (.int 1))) (.idx (.var 1) (.con (.int 1)))) (.neg (.con (.int 1))) (.con (.int 1)))) .nil) .nil
def c24_2 : CS := .par 2 3 (.bin .Mult (.idx (.idx (.var 0) (.con (.int 2))) (.con (.int 0))) (.idx (.idx (.var 1) (.con (.int 2))) (.con (.int 1)))) (.bin .Mult (.idx (.idx (.var 1) (.con (.int 2))) (.con (.int 0))) (.idx (.idx (.var 0) (.con (.int 2))) (.con (.int 1))))
def c24_3 : CS := .ret (.ife (.cmp .Eq (.var 2) (.var 3)) (.con (.int 0)) (.ife (.cmp .Lt (.var 2) (.var 3)) (.neg (.con (.int 1))) (.con (.int 1))))
def c24 : CSs := .cons c24_0 (.cons c24_1 (.cons c24_2 (.cons c24_3 (.nil))))
def F24 : FD := ⟨2, 4, c24⟩
-- _law_given
def N25 : List Str := ["_law_mark", "_law_kinds_here", "_law_one", "_law_two", "_law_order", "_law_lesser", "_law_greater", "_law_kind", "_law_a", "_law_b", "_law_c", "_law_d", "_law_made"]
def c25_0 : CS := .asg (.nam 4) (.call 24 (.cons (.var 2) (.cons (.var 3) .nil)))
def c25_1 : CS := .asg (.tup (.cons (.nam 5) (.cons (.nam 6) .nil))) (.ife (.cmp .LtE (.var 4) (.con (.int 0))) (.tup (.cons (.var 2) (.cons (.var 3) .nil))) (.tup (.cons (.var 3) (.cons (.var 2) .nil))))
def c25_2 : CS := .ite (.cmp .In (.var 0) (.tup (.cons (.con (.str "and")) (.cons (.con (.str "or")) .nil)))) (.cons (.ret (.ife (.cmp .Eq (.var 0) (.con (.str "and"))) (.var 5) (.var 6))) .nil) .nil
def c25_3 : CS := .ite (.cmp .Eq (.var 0) (.con (.str "same"))) (.cons (.ret (.ife (.cmp .Eq (.var 4) (.con (.int 0))) (.tup (.cons (.con (.str "one")) .nil)) (.call 25 (.cons (.con (.str "leads")) (.cons (.var 1) (.cons (.var 6) (.cons (.var 5) .nil))))))) .nil) .nil
def c25_4 : CS := .ite (.and (.cmp .Eq (.var 0) (.con (.str "leads"))) (.cmp .LtE (.var 4) (.con (.int 0)))) (.cons (.ret (.tup (.cons (.con (.str "one")) .nil))) .nil) .nil
def c25_5 : CS := .ite (.or (.cmp .Eq (.blt .len (.cons (.var 2) .nil)) (.con (.int 1))) (.or (.cmp .Eq (.blt .len (.cons (.var 3) .nil)) (.con (.int 1))) (.cmp .NotEq (.idx (.var 2) (.con (.int 1))) (.idx (.var 3) (.con (.int 1)))))) (.cons (.ret (.ife (.cmp .Eq (.var 0) (.con (.str "times"))) (.var 5) (.var 3))) .nil) .nil
def c25_6 : CS := .asg (.tup (.cons (.nam 7) (.cons (.tup (.cons (.nam 8) (.cons (.nam 9) .nil))) (.cons (.tup (.cons (.nam 10) (.cons (.nam 11) .nil))) .nil)))) (.tup (.cons (.idx (.var 1) (.idx (.var 2) (.con (.int 1)))) (.cons (.idx (.var 2) (.con (.int 2))) (.cons (.idx (.var 3) (.con (.int 2))) .nil))))
def c25_7 : CS := .ite (.cmp .Eq (.var 0) (.con (.str "times"))) (.cons (.asg (.nam 12) (.ife (.cmp .Eq (.var 7) (.con (.str "sum"))) (.tup (.cons (.blt .max2 (.cons (.con (.int 0)) (.cons (.bin .Sub (.bin .Add (.bin .Mult (.var 8) (.var 11)) (.bin .Mult (.var 10) (.var 9))) (.bin .Mult (.var 9) (.var 11))) .nil))) (.cons (.bin .Mult (.var 9) (.var 11)) .nil))) (.ife (.cmp .Eq (.var 7) (.con (.str "product"))) (.tup (.cons (.bin .Mult (.var 8) (.var 10)) (.cons (.bin .Mult (.var 9) (.var 11)) .nil))) (.idx (.var 5) (.con (.int 2)))))) .nil) (.cons (.asg (.nam 12) (.ife (.cmp .Eq (.var 7) (.con (.str "sum"))) (.tup (.cons (.bin .Add (.bin .Sub (.bin .Mult (.var 9) (.var 11)) (.bin .Mult (.var 8) (.var 11))) (.bin .Mult (.var 10) (.var 9))) (.cons (.bin .Mult (.var 9) (.var 11)) .nil))) (.ife (.cmp .Eq (.var 7) (.con (.str "product"))) (.tup (.cons (.bin .Mult (.var 10) (.var 9)) (.cons (.bin .Mult (.var 11) (.var 8)) .nil))) (.idx (.var 3) (.con (.int 2)))))) .nil)
def c25_8 : CS := .ret (.tup (.cons (.con (.str "in")) (.cons (.idx (.var 2) (.con (.int 1))) (.cons (.call 22 (.cons (.idx (.var 12) (.con (.int 0))) (.cons (.idx (.var 12) (.con (.int 1))) .nil))) .nil))))
def c25 : CSs := .cons c25_0 (.cons c25_1 (.cons c25_2 (.cons c25_3 (.cons c25_4 (.cons c25_5 (.cons c25_6 (.cons c25_7 (.cons c25_8 (.nil)))))))))
def F25 : FD := ⟨4, 13, c25⟩
-- _law_grade_of
def N26 : List Str := ["_law_saying", "_law_kinds_here", "_law_table", "_law_one"]
def c26_0 : CS := .ite (.cmp .Eq (.idx (.var 0) (.con (.int 0))) (.con (.str "unknown"))) (.cons (.ret (.idx (.var 2) (.idx (.var 0) (.con (.int 1))))) .nil) .nil
def c26_1 : CS := .ite (.cmp .Eq (.idx (.var 0) (.con (.int 0))) (.con (.str "yes"))) (.cons (.ret (.tup (.cons (.con (.str "one")) .nil))) .nil) .nil
def c26_2 : CS := .ite (.cmp .Eq (.idx (.var 0) (.con (.int 0))) (.con (.str "no"))) (.cons (.ret (.tup (.cons (.con (.str "in")) (.cons (.con (.int 0)) (.cons (.tup (.cons (.con (.int 0)) (.cons (.con (.int 1)) .nil))) .nil))))) .nil) .nil
def c26_3 : CS := .asg (.nam 3) (.call 26 (.cons (.idx (.var 0) (.con (.int 1))) (.cons (.var 1) (.cons (.var 2) .nil))))
def c26_4 : CS := .ite (.cmp .Eq (.idx (.var 0) (.con (.int 0))) (.con (.str "not"))) (.cons (.ret (.call 25 (.cons (.con (.str "leads")) (.cons (.var 1) (.cons (.var 3) (.cons (.tup (.cons (.con (.str "in")) (.cons (.con (.int 0)) (.cons (.tup (.cons (.con (.int 0)) (.cons (.con (.int 1)) .nil))) .nil)))) .nil)))))) .nil) .nil
def c26_5 : CS := .ret (.call 25 (.cons (.idx (.var 0) (.con (.int 0))) (.cons (.var 1) (.cons (.var 3) (.cons (.call 26 (.cons (.idx (.var 0) (.con (.int 2))) (.cons (.var 1) (.cons (.var 2) .nil)))) .nil)))))
def c26 : CSs := .cons c26_0 (.cons c26_1 (.cons c26_2 (.cons c26_3 (.cons c26_4 (.cons c26_5 (.nil))))))
def F26 : FD := ⟨3, 4, c26⟩
-- _law_grade
def N27 : List Str := ["_law_m", "_law_pieces", "_law_below"]
def c27_0 : CS := .ite (.cmp .Eq (.call 20 (.cons (.var 0) (.cons (.con (.int 5)) .nil))) (.con (.int 0))) (.cons (.ret (.tup (.cons (.con (.str "one")) .nil))) .nil) .nil
def c27_1 : CS := .asg (.nam 2) (.call 21 (.cons (.var 0) (.cons (.lst (.cons (.con (.int 1)) (.cons (.con (.int 2)) (.cons (.con (.int 3)) (.cons (.con (.int 4)) (.cons (.con (.int 6)) (.cons (.con (.int 12)) (.cons (.bin .Pow (.con (.int 10)) (.con (.int 9))) .nil)))))))) .nil)))
def c27_2 : CS := .ret (.tup (.cons (.con (.str "in")) (.cons (.call 20 (.cons (.var 0) (.cons (.var 1) .nil))) (.cons (.call 22 (.cons (.call 20 (.cons (.var 0) (.cons (.var 2) .nil))) (.cons (.var 2) .nil))) .nil))))
def c27 : CSs := .cons c27_0 (.cons c27_1 (.cons c27_2 (.nil)))
def F27 : FD := ⟨2, 3, c27⟩
-- _law_kinds
def N28 : List Str := ["_law_m", "_law_most", "_law_k"]
def c28_0 : CS := .ret (.blt .tuple (.cons (.lc (.call 21 (.cons (.var 0) (.cons (.lst (.cons (.con (.str "sum")) (.cons (.con (.str "product")) (.cons (.con (.str "step")) .nil)))) .nil))) (.nam 2) (.rng1 (.bin .Add (.con (.int 1)) (.call 20 (.cons (.var 0) (.cons (.var 1) .nil))))) .none [2]) .nil))
def c28 : CSs := .cons c28_0 (.nil)
def F28 : FD := ⟨2, 3, c28⟩
-- _law_value_right
def N29 : List Str := ["_law_m", "_law_saying", "_law_kinds_here", "_law_names", "_law_grades", "_law_table", "_law_name", "_law_grade_here", "_law_due", "_law_turned", "_law_told"]
def c29_0 : CS := .asg (.nam 5) (.dct [] .nil)
def c29_1 : CS := .loop (.tup (.cons (.nam 6) (.cons (.nam 7) .nil))) (.zip (.var 3) (.var 4)) (.cons (.sub (.var 5) (.var 6) (.var 7)) .nil)
def c29_2 : CS := .asg (.nam 8) (.call 26 (.cons (.var 1) (.cons (.var 2) (.cons (.var 5) .nil))))
def c29_3 : CS := .ite (.cmp .NotEq (.blt .repr (.cons (.call 18 (.cons (.var 1) (.cons (.var 2) (.cons (.blt .tuple (.cons (.var 3) .nil)) (.cons (.blt .tuple (.cons (.var 4) .nil)) .nil))))) .nil)) (.blt .repr (.cons (.var 8) .nil))) (.cons (.ret (.con (.bool false))) .nil) .nil
def c29_4 : CS := .asg (.nam 9) (.bin .Add (.lst (.cons (.con (.str "other1")) .nil)) (.rev (.var 3)))
def c29_5 : CS := .asg (.nam 10) (.call 18 (.cons (.var 1) (.cons (.var 2) (.cons (.blt .tuple (.cons (.var 9) .nil)) (.cons (.blt .tuple (.cons (.bin .Add (.lst (.cons (.call 27 (.cons (.var 0) (.cons (.blt .len (.cons (.var 2) .nil)) .nil))) .nil)) (.rev (.var 4))) .nil)) .nil)))))
def c29_6 : CS := .ret (.cmp .Eq (.blt .repr (.cons (.var 10) .nil)) (.blt .repr (.cons (.var 8) .nil)))
def c29 : CSs := .cons c29_0 (.cons c29_1 (.cons c29_2 (.cons c29_3 (.cons c29_4 (.cons c29_5 (.cons c29_6 (.nil)))))))
def F29 : FD := ⟨5, 11, c29⟩
-- _law_errors_right
def N30 : List Str := ["_law_m", "_law_saying", "_law_kinds_here", "_law_names", "_law_grades", "_law_far", "_law_farther", "_law_unknown", "_law_some", "_law_worse", "_law_told", "_law_one"]
def c30_0 : CS := .asg (.nam 5) (.tup (.cons (.con (.str "in")) (.cons (.bin .Add (.blt .len (.cons (.var 2) .nil)) (.call 20 (.cons (.var 0) (.cons (.con (.int 3)) .nil)))) (.cons (.tup (.cons (.con (.int 0)) (.cons (.con (.int 1)) .nil))) .nil))))
def c30_1 : CS := .asg (.nam 6) (.tup (.cons (.con (.str "in")) (.cons (.blt .len (.cons (.var 2) .nil)) (.cons (.tup (.cons (.con (.int 1)) (.cons (.con (.int 2)) .nil))) .nil))))
def c30_2 : CS := .asg (.nam 7) (.tup (.cons (.con (.str "and")) (.cons (.tup (.cons (.con (.str "unknown")) (.cons (.con (.str "other1")) .nil))) (.cons (.tup (.cons (.con (.str "unknown")) (.cons (.con (.str "other2")) .nil))) .nil))))
def c30_3 : CS := .asg (.nam 8) (.lst (.cons (.tup (.cons (.con (.str "or")) (.cons (.var 7) (.cons (.var 1) .nil)))) (.cons (.tup (.cons (.con (.str "or")) (.cons (.tup (.cons (.con (.str "not")) (.cons (.tup (.cons (.con (.str "plus")) (.cons (.var 1) (.cons (.var 7) .nil)))) .nil))) (.cons (.var 1) .nil)))) (.cons (.var 1) .nil))))
def c30_4 : CS := .asg (.nam 9) (.ife (.cmp .Gt (.blt .len (.cons (.var 4) .nil)) (.con (.int 1))) (.bin .Add (.lst (.cons (.var 5) (.cons (.var 6) .nil))) (.slc (.var 4) (.some (.con (.int 2))) .none)) (.lst (.cons (.var 5) .nil)))
def c30_5 : CS := .asg (.nam 10) (.mk (.lc (.lam ⟨54, 0, 2, 1, .lst, [.fld], [(1, .tup, [.con (.str "mark"), .fld]), (2, .tup, [.con (.str "name"), .fld]), (0, .tup, [.con (.str "range"), .fld])]⟩ (.call 18 (.cons (.var 11) (.cons (.var 2) (.cons (.blt .tuple (.cons (.var 3) .nil)) (.cons (.blt .tuple (.cons (.var 9) .nil)) .nil)))))) (.nam 11) (.seq (.var 8)) .none [11]))
def c30_6 : CS := .exp (.app (.var 10) (.lam ⟨54, 0, 2, 1, .lst, [.fld], [(1, .tup, [.con (.str "mark"), .fld]), (2, .tup, [.con (.str "name"), .fld]), (0, .tup, [.con (.str "range"), .fld])]⟩ (.call 18 (.cons (.var 1) (.cons (.var 2) (.cons (.blt .tuple (.cons (.bin .Add (.var 3) (.lst (.cons (.con (.str "t")) .nil))) .nil)) (.cons (.blt .tuple (.cons (.bin .Add (.var 4) (.lst (.cons (.var 5) .nil))) .nil)) .nil)))))))
def c30_7 : CS := .ret (.cmp .Eq (.blt .repr (.cons (.var 10) .nil)) (.blt .repr (.cons (.lst (.cons (.tup (.cons (.con (.str "name")) (.cons (.con (.str "other1")) .nil))) (.cons (.tup (.cons (.con (.str "mark")) (.cons (.con (.str "plus")) .nil))) (.cons (.tup (.cons (.con (.str "range")) (.cons (.var 5) .nil))) (.cons (.tup (.cons (.con (.str "range")) (.cons (.var 5) .nil))) .nil))))) .nil)))
def c30 : CSs := .cons c30_0 (.cons c30_1 (.cons c30_2 (.cons c30_3 (.cons c30_4 (.cons c30_5 (.cons c30_6 (.cons c30_7 (.nil))))))))
def F30 : FD := ⟨5, 12, c30⟩
-- law
def N31 : List Str := ["_law_script", "_law_turn", "_law_m", "_law_names", "_law_k", "_law_saying", "_law_kinds_here", "_law_grades", "_law_name"]
def c31_0 : CS := .loop (.nam 1) (.rng1 (.bin .Add (.con (.int 1)) (.blt .int (.cons (.cmp .Gt (.blt .len (.cons (.var 0) .nil)) (.con (.int 2))) .nil)))) (.cons (.asg (.nam 2) (.call 19 (.cons (.var 0) (.cons (.var 1) .nil)))) (.cons (.asg (.nam 3) (.slc (.call 21 (.cons (.var 2) (.cons (.lst (.cons (.lst (.cons (.con (.str "x")) (.cons (.con (.str "y")) (.cons (.con (.str "z")) .nil)))) (.cons (.lst (.cons (.con (.str "q7")) (.cons (.con (.str "b")) (.cons (.con (.str "abcdefgh")) .nil)))) .nil))) .nil))) .none (.some (.bin .Add (.con (.int 1)) (.call 20 (.cons (.var 2) (.cons (.con (.int 3)) .nil))))))) (.cons (.loop (.nam 4) (.rng1 (.con (.int 3))) (.cons (.asg (.tup (.cons (.nam 5) (.cons (.nam 6) .nil))) (.tup (.cons (.call 23 (.cons (.var 2) (.cons (.var 3) (.cons (.call 20 (.cons (.var 2) (.cons (.con (.int 9)) .nil))) .nil)))) (.cons (.call 28 (.cons (.var 2) (.cons (.con (.int 6)) .nil))) .nil)))) (.cons (.asg (.nam 7) (.lc (.call 27 (.cons (.var 2) (.cons (.ife (.cmp .Eq (.call 20 (.cons (.var 2) (.cons (.con (.int 2)) .nil))) (.con (.int 0))) (.blt .len (.cons (.var 6) .nil)) (.con (.int 1))) .nil))) (.nam 8) (.seq (.var 3)) .none [8])) (.cons (.ite (.not (.call 29 (.cons (.var 2) (.cons (.var 5) (.cons (.var 6) (.cons (.var 3) (.cons (.var 7) .nil))))))) (.cons (.ret (.con (.bool false))) .nil) .nil) (.cons (.ite (.not (.call 30 (.cons (.var 2) (.cons (.var 5) (.cons (.var 6) (.cons (.var 3) (.cons (.var 7) .nil))))))) (.cons (.ret (.con (.bool false))) .nil) .nil) .nil))))) .nil)))
def c31_1 : CS := .ret (.con (.bool true))
def c31 : CSs := .cons c31_0 (.cons c31_1 (.nil))
def F31 : FD := ⟨1, 9, c31⟩
-- _law_heard
def N32 : List Str := ["_law_call", "_law_found", "error"]
def G : Gt := ⟨("parts_of" :: "_note_unknowns" :: "unknowns_of" :: "common" :: "lowest" :: "fraction" :: "compared" :: "_plus" :: "_opposite" :: "_capped" :: "given_by" :: "has_plus" :: "compared_grades" :: "_inside" :: "chain_given" :: "grade_in" :: "without_plus" :: "look_in_row" :: "chain_value" :: "_law_begun" :: "_law_draw" :: "_law_of" :: "_law_lowest" :: "_law_plain_saying" :: "_law_before" :: "_law_given" :: "_law_grade_of" :: "_law_grade" :: "_law_kinds" :: "_law_value_right" :: "_law_errors_right" :: "law" :: []), ["tuple", "abs", "any", "len", "dict", "zip", "int", "max", "range", "repr"], ["ONE", "LEAST"], [("OutOfRange", "value"), ("WrongMark", "mark"), ("UnknownName", "name")], [("_law_heard", N32, top 41)], 54⟩
def TB : List FD := [F0, F1, F2, F3, F4, F5, F6, F7, F8, F9, F10, F11, F12, F13, F14, F15, F16, F17, F18, F19, F20, F21, F22, F23, F24, F25, F26, F27, F28, F29, F30, F31]
def con : List PyData := [(.tuple [(.str "one")]), (.tuple [(.str "in"), (.int (0)), (.tuple [(.int (0)), (.int (1))])])]
def qs : List Str := ["_law_errors_right"]
theorem q0 : chkSs G.bare N0 (defScope (top 6)) F0.body (defBody (top 6)) = true := by decide +kernel
theorem s0 : FnScope N0 ["saying"] (defScope (top 6)) := ⟨by decide +kernel, by decide +kernel, by decide +kernel, by decide +kernel, by decide +kernel, by decide +kernel, by decide +kernel⟩
theorem q1 : chkSs G.bare N1 (defScope (top 7)) F1.body (defBody (top 7)) = true := by decide +kernel
theorem s1 : FnScope N1 ["saying", "found"] (defScope (top 7)) := ⟨by decide +kernel, by decide +kernel, by decide +kernel, by decide +kernel, by decide +kernel, by decide +kernel, by decide +kernel⟩
theorem q2 : chkSs G.bare N2 (defScope (top 8)) F2.body (defBody (top 8)) = true := by decide +kernel
theorem s2 : FnScope N2 ["sayings"] (defScope (top 8)) := ⟨by decide +kernel, by decide +kernel, by decide +kernel, by decide +kernel, by decide +kernel, by decide +kernel, by decide +kernel⟩
theorem q3 : chkSs G.bare N3 (defScope (top 10)) F3.body (defBody (top 10)) = true := by decide +kernel
theorem s3 : FnScope N3 ["first", "second"] (defScope (top 10)) := ⟨by decide +kernel, by decide +kernel, by decide +kernel, by decide +kernel, by decide +kernel, by decide +kernel, by decide +kernel⟩
theorem q4 : chkSs G.bare N4 (defScope (top 11)) F4.body (defBody (top 11)) = true := by decide +kernel
theorem s4 : FnScope N4 ["above", "below"] (defScope (top 11)) := ⟨by decide +kernel, by decide +kernel, by decide +kernel, by decide +kernel, by decide +kernel, by decide +kernel, by decide +kernel⟩
theorem q5 : chkSs G.bare N5 (defScope (top 12)) F5.body (defBody (top 12)) = true := by decide +kernel
theorem s5 : FnScope N5 ["above", "below"] (defScope (top 12)) := ⟨by decide +kernel, by decide +kernel, by decide +kernel, by decide +kernel, by decide +kernel, by decide +kernel, by decide +kernel⟩
theorem q6 : chkSs G.bare N6 (defScope (top 13)) F6.body (defBody (top 13)) = true := by decide +kernel
theorem s6 : FnScope N6 ["first", "second"] (defScope (top 13)) := ⟨by decide +kernel, by decide +kernel, by decide +kernel, by decide +kernel, by decide +kernel, by decide +kernel, by decide +kernel⟩
theorem q7 : chkSs G.bare N7 (defScope (top 14)) F7.body (defBody (top 14)) = true := by decide +kernel
theorem s7 : FnScope N7 ["first", "second"] (defScope (top 14)) := ⟨by decide +kernel, by decide +kernel, by decide +kernel, by decide +kernel, by decide +kernel, by decide +kernel, by decide +kernel⟩
theorem q8 : chkSs G.bare N8 (defScope (top 15)) F8.body (defBody (top 15)) = true := by decide +kernel
theorem s8 : FnScope N8 ["value"] (defScope (top 15)) := ⟨by decide +kernel, by decide +kernel, by decide +kernel, by decide +kernel, by decide +kernel, by decide +kernel, by decide +kernel⟩
theorem q9 : chkSs G.bare N9 (defScope (top 16)) F9.body (defBody (top 16)) = true := by decide +kernel
theorem s9 : FnScope N9 ["pair"] (defScope (top 16)) := ⟨by decide +kernel, by decide +kernel, by decide +kernel, by decide +kernel, by decide +kernel, by decide +kernel, by decide +kernel⟩
theorem q10 : chkSs G.bare N10 (defScope (top 17)) F10.body (defBody (top 17)) = true := by decide +kernel
theorem s10 : FnScope N10 ["mark", "first", "second"] (defScope (top 17)) := ⟨by decide +kernel, by decide +kernel, by decide +kernel, by decide +kernel, by decide +kernel, by decide +kernel, by decide +kernel⟩
theorem q11 : chkSs G.bare N11 (defScope (top 19)) F11.body (defBody (top 19)) = true := by decide +kernel
theorem s11 : FnScope N11 ["saying"] (defScope (top 19)) := ⟨by decide +kernel, by decide +kernel, by decide +kernel, by decide +kernel, by decide +kernel, by decide +kernel, by decide +kernel⟩
theorem q12 : chkSs G.bare N12 (defScope (top 23)) F12.body (defBody (top 23)) = true := by decide +kernel
theorem s12 : FnScope N12 ["first", "second"] (defScope (top 23)) := ⟨by decide +kernel, by decide +kernel, by decide +kernel, by decide +kernel, by decide +kernel, by decide +kernel, by decide +kernel⟩
theorem q13 : chkSs G.bare N13 (defScope (top 24)) F13.body (defBody (top 24)) = true := by decide +kernel
theorem s13 : FnScope N13 ["mark", "kind", "first", "second"] (defScope (top 24)) := ⟨by decide +kernel, by decide +kernel, by decide +kernel, by decide +kernel, by decide +kernel, by decide +kernel, by decide +kernel⟩
theorem q14 : chkSs G.bare N14 (defScope (top 25)) F14.body (defBody (top 25)) = true := by decide +kernel
theorem s14 : FnScope N14 ["mark", "kinds", "first", "second"] (defScope (top 25)) := ⟨by decide +kernel, by decide +kernel, by decide +kernel, by decide +kernel, by decide +kernel, by decide +kernel, by decide +kernel⟩
theorem q15 : chkSs G.bare N15 (defScope (top 26)) F15.body (defBody (top 26)) = true := by decide +kernel
theorem s15 : FnScope N15 ["saying", "kinds", "table"] (defScope (top 26)) := ⟨by decide +kernel, by decide +kernel, by decide +kernel, by decide +kernel, by decide +kernel, by decide +kernel, by decide +kernel⟩
theorem q16 : chkSs G.bare N16 (defScope (top 27)) F16.body (defBody (top 27)) = true := by decide +kernel
theorem s16 : FnScope N16 ["saying"] (defScope (top 27)) := ⟨by decide +kernel, by decide +kernel, by decide +kernel, by decide +kernel, by decide +kernel, by decide +kernel, by decide +kernel⟩
theorem q17 : chkSs G.bare N17 (defScope (top 28)) F17.body (defBody (top 28)) = true := by decide +kernel
theorem s17 : FnScope N17 ["kinds", "grades"] (defScope (top 28)) := ⟨by decide +kernel, by decide +kernel, by decide +kernel, by decide +kernel, by decide +kernel, by decide +kernel, by decide +kernel⟩
theorem q18 : chkSs G.bare N18 (defScope (top 29)) F18.body (defBody (top 29)) = true := by decide +kernel
theorem s18 : FnScope N18 ["saying", "kinds", "names", "grades"] (defScope (top 29)) := ⟨by decide +kernel, by decide +kernel, by decide +kernel, by decide +kernel, by decide +kernel, by decide +kernel, by decide +kernel⟩
theorem q19 : chkSs G.bare N19 (defScope (top 31)) F19.body (defBody (top 31)) = true := by decide +kernel
theorem s19 : FnScope N19 ["_law_script", "_law_k"] (defScope (top 31)) := ⟨by decide +kernel, by decide +kernel, by decide +kernel, by decide +kernel, by decide +kernel, by decide +kernel, by decide +kernel⟩
theorem q20 : chkSs G.bare N20 (defScope (top 32)) F20.body (defBody (top 32)) = true := by decide +kernel
theorem s20 : FnScope N20 ["_law_m", "_law_below"] (defScope (top 32)) := ⟨by decide +kernel, by decide +kernel, by decide +kernel, by decide +kernel, by decide +kernel, by decide +kernel, by decide +kernel⟩
theorem q21 : chkSs G.bare N21 (defScope (top 33)) F21.body (defBody (top 33)) = true := by decide +kernel
theorem s21 : FnScope N21 ["_law_m", "_law_some"] (defScope (top 33)) := ⟨by decide +kernel, by decide +kernel, by decide +kernel, by decide +kernel, by decide +kernel, by decide +kernel, by decide +kernel⟩
theorem q22 : chkSs G.bare N22 (defScope (top 34)) F22.body (defBody (top 34)) = true := by decide +kernel
theorem s22 : FnScope N22 ["_law_above", "_law_below"] (defScope (top 34)) := ⟨by decide +kernel, by decide +kernel, by decide +kernel, by decide +kernel, by decide +kernel, by decide +kernel, by decide +kernel⟩
theorem q23 : chkSs G.bare N23 (defScope (top 35)) F23.body (defBody (top 35)) = true := by decide +kernel
theorem s23 : FnScope N23 ["_law_m", "_law_names", "_law_size"] (defScope (top 35)) := ⟨by decide +kernel, by decide +kernel, by decide +kernel, by decide +kernel, by decide +kernel, by decide +kernel, by decide +kernel⟩
theorem q24 : chkSs G.bare N24 (defScope (top 36)) F24.body (defBody (top 36)) = true := by decide +kernel
theorem s24 : FnScope N24 ["_law_one", "_law_two"] (defScope (top 36)) := ⟨by decide +kernel, by decide +kernel, by decide +kernel, by decide +kernel, by decide +kernel, by decide +kernel, by decide +kernel⟩
theorem q25 : chkSs G.bare N25 (defScope (top 37)) F25.body (defBody (top 37)) = true := by decide +kernel
theorem s25 : FnScope N25 ["_law_mark", "_law_kinds_here", "_law_one", "_law_two"] (defScope (top 37)) := ⟨by decide +kernel, by decide +kernel, by decide +kernel, by decide +kernel, by decide +kernel, by decide +kernel, by decide +kernel⟩
theorem q26 : chkSs G.bare N26 (defScope (top 38)) F26.body (defBody (top 38)) = true := by decide +kernel
theorem s26 : FnScope N26 ["_law_saying", "_law_kinds_here", "_law_table"] (defScope (top 38)) := ⟨by decide +kernel, by decide +kernel, by decide +kernel, by decide +kernel, by decide +kernel, by decide +kernel, by decide +kernel⟩
theorem q27 : chkSs G.bare N27 (defScope (top 39)) F27.body (defBody (top 39)) = true := by decide +kernel
theorem s27 : FnScope N27 ["_law_m", "_law_pieces"] (defScope (top 39)) := ⟨by decide +kernel, by decide +kernel, by decide +kernel, by decide +kernel, by decide +kernel, by decide +kernel, by decide +kernel⟩
theorem q28 : chkSs G.bare N28 (defScope (top 40)) F28.body (defBody (top 40)) = true := by decide +kernel
theorem s28 : FnScope N28 ["_law_m", "_law_most"] (defScope (top 40)) := ⟨by decide +kernel, by decide +kernel, by decide +kernel, by decide +kernel, by decide +kernel, by decide +kernel, by decide +kernel⟩
theorem q29 : chkSs G.bare N29 (defScope (top 42)) F29.body (defBody (top 42)) = true := by decide +kernel
theorem s29 : FnScope N29 ["_law_m", "_law_saying", "_law_kinds_here", "_law_names", "_law_grades"] (defScope (top 42)) := ⟨by decide +kernel, by decide +kernel, by decide +kernel, by decide +kernel, by decide +kernel, by decide +kernel, by decide +kernel⟩
theorem q30 : chkSs G N30 (defScope (top 43)) F30.body (defBody (top 43)) = true := by decide +kernel
theorem s30 : FnScope N30 ["_law_m", "_law_saying", "_law_kinds_here", "_law_names", "_law_grades"] (defScope (top 43)) := ⟨by decide +kernel, by decide +kernel, by decide +kernel, by decide +kernel, by decide +kernel, by decide +kernel, by decide +kernel⟩
theorem q31 : chkSs G.bare N31 (defScope (top 44)) F31.body (defBody (top 44)) = true := by decide +kernel
theorem s31 : FnScope N31 ["_law_script"] (defScope (top 44)) := ⟨by decide +kernel, by decide +kernel, by decide +kernel, by decide +kernel, by decide +kernel, by decide +kernel, by decide +kernel⟩
theorem s32 : FnScope N32 ["_law_call"] (defScope (top 41)) := ⟨by decide +kernel, by decide +kernel, by decide +kernel, by decide +kernel, by decide +kernel, by decide +kernel, by decide +kernel⟩
theorem ei0 : FnScope [("self" : Str), "value"] [("self" : Str), "value"] (defScope (clsInit (top 3))) := ⟨by decide +kernel, by decide +kernel, by decide +kernel, by decide +kernel, by decide +kernel, by decide +kernel, by decide +kernel⟩
theorem ei1 : FnScope [("self" : Str), "mark"] [("self" : Str), "mark"] (defScope (clsInit (top 4))) := ⟨by decide +kernel, by decide +kernel, by decide +kernel, by decide +kernel, by decide +kernel, by decide +kernel, by decide +kernel⟩
theorem ei2 : FnScope [("self" : Str), "name"] [("self" : Str), "name"] (defScope (clsInit (top 2))) := ⟨by decide +kernel, by decide +kernel, by decide +kernel, by decide +kernel, by decide +kernel, by decide +kernel, by decide +kernel⟩
theorem glob {K : PySem.W.Frag} {h : Heap} {mg : Str → Option Value} (X : K.In h) (G0 : h.Ns mainGlobals mg)
    {f0 : Addr} {od0 an0 : Option Addr} {sl0 : Array (Option Value)} {oc0 kV0 dc0 pm0 cd0 ct0 : Value}
    {f1 : Addr} {od1 an1 : Option Addr} {sl1 : Array (Option Value)} {oc1 kV1 dc1 pm1 cd1 ct1 : Value}
    {f2 : Addr} {od2 an2 : Option Addr} {sl2 : Array (Option Value)} {oc2 kV2 dc2 pm2 cd2 ct2 : Value}
    {f3 : Addr} {od3 an3 : Option Addr} {sl3 : Array (Option Value)} {oc3 kV3 dc3 pm3 cd3 ct3 : Value}
    {f4 : Addr} {od4 an4 : Option Addr} {sl4 : Array (Option Value)} {oc4 kV4 dc4 pm4 cd4 ct4 : Value}
    {f5 : Addr} {od5 an5 : Option Addr} {sl5 : Array (Option Value)} {oc5 kV5 dc5 pm5 cd5 ct5 : Value}
    {f6 : Addr} {od6 an6 : Option Addr} {sl6 : Array (Option Value)} {oc6 kV6 dc6 pm6 cd6 ct6 : Value}
    {f7 : Addr} {od7 an7 : Option Addr} {sl7 : Array (Option Value)} {oc7 kV7 dc7 pm7 cd7 ct7 : Value}
    {f8 : Addr} {od8 an8 : Option Addr} {sl8 : Array (Option Value)} {oc8 kV8 dc8 pm8 cd8 ct8 : Value}
    {f9 : Addr} {od9 an9 : Option Addr} {sl9 : Array (Option Value)} {oc9 kV9 dc9 pm9 cd9 ct9 : Value}
    {f10 : Addr} {od10 an10 : Option Addr} {sl10 : Array (Option Value)} {oc10 kV10 dc10 pm10 cd10 ct10 : Value}
    {f11 : Addr} {od11 an11 : Option Addr} {sl11 : Array (Option Value)} {oc11 kV11 dc11 pm11 cd11 ct11 : Value}
    {f12 : Addr} {od12 an12 : Option Addr} {sl12 : Array (Option Value)} {oc12 kV12 dc12 pm12 cd12 ct12 : Value}
    {f13 : Addr} {od13 an13 : Option Addr} {sl13 : Array (Option Value)} {oc13 kV13 dc13 pm13 cd13 ct13 : Value}
    {f14 : Addr} {od14 an14 : Option Addr} {sl14 : Array (Option Value)} {oc14 kV14 dc14 pm14 cd14 ct14 : Value}
    {f15 : Addr} {od15 an15 : Option Addr} {sl15 : Array (Option Value)} {oc15 kV15 dc15 pm15 cd15 ct15 : Value}
    {f16 : Addr} {od16 an16 : Option Addr} {sl16 : Array (Option Value)} {oc16 kV16 dc16 pm16 cd16 ct16 : Value}
    {f17 : Addr} {od17 an17 : Option Addr} {sl17 : Array (Option Value)} {oc17 kV17 dc17 pm17 cd17 ct17 : Value}
    {f18 : Addr} {od18 an18 : Option Addr} {sl18 : Array (Option Value)} {oc18 kV18 dc18 pm18 cd18 ct18 : Value}
    {f19 : Addr} {od19 an19 : Option Addr} {sl19 : Array (Option Value)} {oc19 kV19 dc19 pm19 cd19 ct19 : Value}
    {f20 : Addr} {od20 an20 : Option Addr} {sl20 : Array (Option Value)} {oc20 kV20 dc20 pm20 cd20 ct20 : Value}
    {f21 : Addr} {od21 an21 : Option Addr} {sl21 : Array (Option Value)} {oc21 kV21 dc21 pm21 cd21 ct21 : Value}
    {f22 : Addr} {od22 an22 : Option Addr} {sl22 : Array (Option Value)} {oc22 kV22 dc22 pm22 cd22 ct22 : Value}
    {f23 : Addr} {od23 an23 : Option Addr} {sl23 : Array (Option Value)} {oc23 kV23 dc23 pm23 cd23 ct23 : Value}
    {f24 : Addr} {od24 an24 : Option Addr} {sl24 : Array (Option Value)} {oc24 kV24 dc24 pm24 cd24 ct24 : Value}
    {f25 : Addr} {od25 an25 : Option Addr} {sl25 : Array (Option Value)} {oc25 kV25 dc25 pm25 cd25 ct25 : Value}
    {f26 : Addr} {od26 an26 : Option Addr} {sl26 : Array (Option Value)} {oc26 kV26 dc26 pm26 cd26 ct26 : Value}
    {f27 : Addr} {od27 an27 : Option Addr} {sl27 : Array (Option Value)} {oc27 kV27 dc27 pm27 cd27 ct27 : Value}
    {f28 : Addr} {od28 an28 : Option Addr} {sl28 : Array (Option Value)} {oc28 kV28 dc28 pm28 cd28 ct28 : Value}
    {f29 : Addr} {od29 an29 : Option Addr} {sl29 : Array (Option Value)} {oc29 kV29 dc29 pm29 cd29 ct29 : Value}
    {f30 : Addr} {od30 an30 : Option Addr} {sl30 : Array (Option Value)} {oc30 kV30 dc30 pm30  ct30 : Value}
    {qc30 qp30 : Addr} {qk30 : Value} {qo30 : Option Addr} {qv30 : Array Value} {qs30 : Array (Option Value)}
    {f31 : Addr} {od31 an31 : Option Addr} {sl31 : Array (Option Value)} {oc31 kV31 dc31 pm31 cd31 ct31 : Value}
    {f32 : Addr} {od32 an32 : Option Addr} {sl32 : Array (Option Value)} {oc32 kV32 dc32 pm32 cd32 ct32 : Value}
    {kp0 : Addr} {kpo0 : Option Addr} {kpn0 : Nat} {kps0 : Array (Option Value)} {kt0_0 : Tok}
    {kp1 : Addr} {kpo1 : Option Addr} {kpn1 : Nat} {kps1 : Array (Option Value)} {kt1_0 : Tok} {kt1_1 : Tok}
    {kp1_2 : Addr} {kpo1_2 : Option Addr} {kpn1_2 : Nat} {kps1_2 : Array (Option Value)} {kt1_2_0 : Tok} {kt1_2_1 : Tok}
    {C0 I0 M0 : Addr} {B0_0 : Addr} {u0 v0 : Str} {w0 : List Value} {y0 : List Str} {x0 : List Value} {r0 : Bool} {g0 : Option Bool} {h0 : Option Addr} {j0_0 j0_1 j0_2 j0_3 j0_5 : Option Value} {io0 ia0 : Option Addr} {il0 : Array (Option Value)} {ic0 ik0 id0 ip0 iq0 it0 : Value}
    {C1 I1 M1 : Addr} {B1_0 : Addr} {u1 v1 : Str} {w1 : List Value} {y1 : List Str} {x1 : List Value} {r1 : Bool} {g1 : Option Bool} {h1 : Option Addr} {j1_0 j1_1 j1_2 j1_3 j1_5 : Option Value} {io1 ia1 : Option Addr} {il1 : Array (Option Value)} {ic1 ik1 id1 ip1 iq1 it1 : Value}
    {C2 I2 M2 : Addr} {B2_0 : Addr} {u2 v2 : Str} {w2 : List Value} {y2 : List Str} {x2 : List Value} {r2 : Bool} {g2 : Option Bool} {h2 : Option Addr} {j2_0 j2_1 j2_2 j2_3 j2_5 : Option Value} {io2 ia2 : Option Addr} {il2 : Array (Option Value)} {ic2 ik2 id2 ip2 iq2 it2 : Value}
    (a0 : PySem.W.nsIn K mainGlobals "parts_of" = some (some (.ref f0))) (l0 : K.lookup f0 = some ⟨oc0, od0, .func (PySem.W.fnOf "parts_of" "parts_of" (defArgs (top 6)) (defBody (top 6)) (defScope (top 6)) .none kV0 dc0 pm0 an0 cd0 ct0), sl0⟩) (e0 : PySem.W.codeIn K cd0 "parts_of" = true) (k0 : PySem.W.keepIn K (.ref f0) = true)
    (a1 : PySem.W.nsIn K mainGlobals "_note_unknowns" = some (some (.ref f1))) (l1 : K.lookup f1 = some ⟨oc1, od1, .func (PySem.W.fnOf "_note_unknowns" "_note_unknowns" (defArgs (top 7)) (defBody (top 7)) (defScope (top 7)) .none kV1 dc1 pm1 an1 cd1 ct1), sl1⟩) (e1 : PySem.W.codeIn K cd1 "_note_unknowns" = true) (k1 : PySem.W.keepIn K (.ref f1) = true)
    (a2 : PySem.W.nsIn K mainGlobals "unknowns_of" = some (some (.ref f2))) (l2 : K.lookup f2 = some ⟨oc2, od2, .func (PySem.W.fnOf "unknowns_of" "unknowns_of" (defArgs (top 8)) (defBody (top 8)) (defScope (top 8)) .none kV2 dc2 pm2 an2 cd2 ct2), sl2⟩) (e2 : PySem.W.codeIn K cd2 "unknowns_of" = true) (k2 : PySem.W.keepIn K (.ref f2) = true)
    (a3 : PySem.W.nsIn K mainGlobals "common" = some (some (.ref f3))) (l3 : K.lookup f3 = some ⟨oc3, od3, .func (PySem.W.fnOf "common" "common" (defArgs (top 10)) (defBody (top 10)) (defScope (top 10)) .none kV3 dc3 pm3 an3 cd3 ct3), sl3⟩) (e3 : PySem.W.codeIn K cd3 "common" = true) (k3 : PySem.W.keepIn K (.ref f3) = true)
    (a4 : PySem.W.nsIn K mainGlobals "lowest" = some (some (.ref f4))) (l4 : K.lookup f4 = some ⟨oc4, od4, .func (PySem.W.fnOf "lowest" "lowest" (defArgs (top 11)) (defBody (top 11)) (defScope (top 11)) .none kV4 dc4 pm4 an4 cd4 ct4), sl4⟩) (e4 : PySem.W.codeIn K cd4 "lowest" = true) (k4 : PySem.W.keepIn K (.ref f4) = true)
    (a5 : PySem.W.nsIn K mainGlobals "fraction" = some (some (.ref f5))) (l5 : K.lookup f5 = some ⟨oc5, od5, .func (PySem.W.fnOf "fraction" "fraction" (defArgs (top 12)) (defBody (top 12)) (defScope (top 12)) .none kV5 dc5 pm5 an5 cd5 ct5), sl5⟩) (e5 : PySem.W.codeIn K cd5 "fraction" = true) (k5 : PySem.W.keepIn K (.ref f5) = true)
    (a6 : PySem.W.nsIn K mainGlobals "compared" = some (some (.ref f6))) (l6 : K.lookup f6 = some ⟨oc6, od6, .func (PySem.W.fnOf "compared" "compared" (defArgs (top 13)) (defBody (top 13)) (defScope (top 13)) .none kV6 dc6 pm6 an6 cd6 ct6), sl6⟩) (e6 : PySem.W.codeIn K cd6 "compared" = true) (k6 : PySem.W.keepIn K (.ref f6) = true)
    (a7 : PySem.W.nsIn K mainGlobals "_plus" = some (some (.ref f7))) (l7 : K.lookup f7 = some ⟨oc7, od7, .func (PySem.W.fnOf "_plus" "_plus" (defArgs (top 14)) (defBody (top 14)) (defScope (top 14)) .none kV7 dc7 pm7 an7 cd7 ct7), sl7⟩) (e7 : PySem.W.codeIn K cd7 "_plus" = true) (k7 : PySem.W.keepIn K (.ref f7) = true)
    (a8 : PySem.W.nsIn K mainGlobals "_opposite" = some (some (.ref f8))) (l8 : K.lookup f8 = some ⟨oc8, od8, .func (PySem.W.fnOf "_opposite" "_opposite" (defArgs (top 15)) (defBody (top 15)) (defScope (top 15)) .none kV8 dc8 pm8 an8 cd8 ct8), sl8⟩) (e8 : PySem.W.codeIn K cd8 "_opposite" = true) (k8 : PySem.W.keepIn K (.ref f8) = true)
    (a9 : PySem.W.nsIn K mainGlobals "_capped" = some (some (.ref f9))) (l9 : K.lookup f9 = some ⟨oc9, od9, .func (PySem.W.fnOf "_capped" "_capped" (defArgs (top 16)) (defBody (top 16)) (defScope (top 16)) .none kV9 dc9 pm9 an9 cd9 ct9), sl9⟩) (e9 : PySem.W.codeIn K cd9 "_capped" = true) (k9 : PySem.W.keepIn K (.ref f9) = true)
    (a10 : PySem.W.nsIn K mainGlobals "given_by" = some (some (.ref f10))) (l10 : K.lookup f10 = some ⟨oc10, od10, .func (PySem.W.fnOf "given_by" "given_by" (defArgs (top 17)) (defBody (top 17)) (defScope (top 17)) .none kV10 dc10 pm10 an10 cd10 ct10), sl10⟩) (e10 : PySem.W.codeIn K cd10 "given_by" = true) (k10 : PySem.W.keepIn K (.ref f10) = true)
    (a11 : PySem.W.nsIn K mainGlobals "has_plus" = some (some (.ref f11))) (l11 : K.lookup f11 = some ⟨oc11, od11, .func (PySem.W.fnOf "has_plus" "has_plus" (defArgs (top 19)) (defBody (top 19)) (defScope (top 19)) .none kV11 dc11 pm11 an11 cd11 ct11), sl11⟩) (e11 : PySem.W.codeIn K cd11 "has_plus" = true) (k11 : PySem.W.keepIn K (.ref f11) = true)
    (a12 : PySem.W.nsIn K mainGlobals "compared_grades" = some (some (.ref f12))) (l12 : K.lookup f12 = some ⟨oc12, od12, .func (PySem.W.fnOf "compared_grades" "compared_grades" (defArgs (top 23)) (defBody (top 23)) (defScope (top 23)) .none kV12 dc12 pm12 an12 cd12 ct12), sl12⟩) (e12 : PySem.W.codeIn K cd12 "compared_grades" = true) (k12 : PySem.W.keepIn K (.ref f12) = true)
    (a13 : PySem.W.nsIn K mainGlobals "_inside" = some (some (.ref f13))) (l13 : K.lookup f13 = some ⟨oc13, od13, .func (PySem.W.fnOf "_inside" "_inside" (defArgs (top 24)) (defBody (top 24)) (defScope (top 24)) .none kV13 dc13 pm13 an13 cd13 ct13), sl13⟩) (e13 : PySem.W.codeIn K cd13 "_inside" = true) (k13 : PySem.W.keepIn K (.ref f13) = true)
    (a14 : PySem.W.nsIn K mainGlobals "chain_given" = some (some (.ref f14))) (l14 : K.lookup f14 = some ⟨oc14, od14, .func (PySem.W.fnOf "chain_given" "chain_given" (defArgs (top 25)) (defBody (top 25)) (defScope (top 25)) .none kV14 dc14 pm14 an14 cd14 ct14), sl14⟩) (e14 : PySem.W.codeIn K cd14 "chain_given" = true) (k14 : PySem.W.keepIn K (.ref f14) = true)
    (a15 : PySem.W.nsIn K mainGlobals "grade_in" = some (some (.ref f15))) (l15 : K.lookup f15 = some ⟨oc15, od15, .func (PySem.W.fnOf "grade_in" "grade_in" (defArgs (top 26)) (defBody (top 26)) (defScope (top 26)) .none kV15 dc15 pm15 an15 cd15 ct15), sl15⟩) (e15 : PySem.W.codeIn K cd15 "grade_in" = true) (k15 : PySem.W.keepIn K (.ref f15) = true)
    (a16 : PySem.W.nsIn K mainGlobals "without_plus" = some (some (.ref f16))) (l16 : K.lookup f16 = some ⟨oc16, od16, .func (PySem.W.fnOf "without_plus" "without_plus" (defArgs (top 27)) (defBody (top 27)) (defScope (top 27)) .none kV16 dc16 pm16 an16 cd16 ct16), sl16⟩) (e16 : PySem.W.codeIn K cd16 "without_plus" = true) (k16 : PySem.W.keepIn K (.ref f16) = true)
    (a17 : PySem.W.nsIn K mainGlobals "look_in_row" = some (some (.ref f17))) (l17 : K.lookup f17 = some ⟨oc17, od17, .func (PySem.W.fnOf "look_in_row" "look_in_row" (defArgs (top 28)) (defBody (top 28)) (defScope (top 28)) .none kV17 dc17 pm17 an17 cd17 ct17), sl17⟩) (e17 : PySem.W.codeIn K cd17 "look_in_row" = true) (k17 : PySem.W.keepIn K (.ref f17) = true)
    (a18 : PySem.W.nsIn K mainGlobals "chain_value" = some (some (.ref f18))) (l18 : K.lookup f18 = some ⟨oc18, od18, .func (PySem.W.fnOf "chain_value" "chain_value" (defArgs (top 29)) (defBody (top 29)) (defScope (top 29)) .none kV18 dc18 pm18 an18 cd18 ct18), sl18⟩) (e18 : PySem.W.codeIn K cd18 "chain_value" = true) (k18 : PySem.W.keepIn K (.ref f18) = true)
    (a19 : PySem.W.nsIn K mainGlobals "_law_begun" = some (some (.ref f19))) (l19 : K.lookup f19 = some ⟨oc19, od19, .func (PySem.W.fnOf "_law_begun" "_law_begun" (defArgs (top 31)) (defBody (top 31)) (defScope (top 31)) .none kV19 dc19 pm19 an19 cd19 ct19), sl19⟩) (e19 : PySem.W.codeIn K cd19 "_law_begun" = true) (k19 : PySem.W.keepIn K (.ref f19) = true)
    (a20 : PySem.W.nsIn K mainGlobals "_law_draw" = some (some (.ref f20))) (l20 : K.lookup f20 = some ⟨oc20, od20, .func (PySem.W.fnOf "_law_draw" "_law_draw" (defArgs (top 32)) (defBody (top 32)) (defScope (top 32)) .none kV20 dc20 pm20 an20 cd20 ct20), sl20⟩) (e20 : PySem.W.codeIn K cd20 "_law_draw" = true) (k20 : PySem.W.keepIn K (.ref f20) = true)
    (a21 : PySem.W.nsIn K mainGlobals "_law_of" = some (some (.ref f21))) (l21 : K.lookup f21 = some ⟨oc21, od21, .func (PySem.W.fnOf "_law_of" "_law_of" (defArgs (top 33)) (defBody (top 33)) (defScope (top 33)) .none kV21 dc21 pm21 an21 cd21 ct21), sl21⟩) (e21 : PySem.W.codeIn K cd21 "_law_of" = true) (k21 : PySem.W.keepIn K (.ref f21) = true)
    (a22 : PySem.W.nsIn K mainGlobals "_law_lowest" = some (some (.ref f22))) (l22 : K.lookup f22 = some ⟨oc22, od22, .func (PySem.W.fnOf "_law_lowest" "_law_lowest" (defArgs (top 34)) (defBody (top 34)) (defScope (top 34)) .none kV22 dc22 pm22 an22 cd22 ct22), sl22⟩) (e22 : PySem.W.codeIn K cd22 "_law_lowest" = true) (k22 : PySem.W.keepIn K (.ref f22) = true)
    (a23 : PySem.W.nsIn K mainGlobals "_law_plain_saying" = some (some (.ref f23))) (l23 : K.lookup f23 = some ⟨oc23, od23, .func (PySem.W.fnOf "_law_plain_saying" "_law_plain_saying" (defArgs (top 35)) (defBody (top 35)) (defScope (top 35)) .none kV23 dc23 pm23 an23 cd23 ct23), sl23⟩) (e23 : PySem.W.codeIn K cd23 "_law_plain_saying" = true) (k23 : PySem.W.keepIn K (.ref f23) = true)
    (a24 : PySem.W.nsIn K mainGlobals "_law_before" = some (some (.ref f24))) (l24 : K.lookup f24 = some ⟨oc24, od24, .func (PySem.W.fnOf "_law_before" "_law_before" (defArgs (top 36)) (defBody (top 36)) (defScope (top 36)) .none kV24 dc24 pm24 an24 cd24 ct24), sl24⟩) (e24 : PySem.W.codeIn K cd24 "_law_before" = true) (k24 : PySem.W.keepIn K (.ref f24) = true)
    (a25 : PySem.W.nsIn K mainGlobals "_law_given" = some (some (.ref f25))) (l25 : K.lookup f25 = some ⟨oc25, od25, .func (PySem.W.fnOf "_law_given" "_law_given" (defArgs (top 37)) (defBody (top 37)) (defScope (top 37)) .none kV25 dc25 pm25 an25 cd25 ct25), sl25⟩) (e25 : PySem.W.codeIn K cd25 "_law_given" = true) (k25 : PySem.W.keepIn K (.ref f25) = true)
    (a26 : PySem.W.nsIn K mainGlobals "_law_grade_of" = some (some (.ref f26))) (l26 : K.lookup f26 = some ⟨oc26, od26, .func (PySem.W.fnOf "_law_grade_of" "_law_grade_of" (defArgs (top 38)) (defBody (top 38)) (defScope (top 38)) .none kV26 dc26 pm26 an26 cd26 ct26), sl26⟩) (e26 : PySem.W.codeIn K cd26 "_law_grade_of" = true) (k26 : PySem.W.keepIn K (.ref f26) = true)
    (a27 : PySem.W.nsIn K mainGlobals "_law_grade" = some (some (.ref f27))) (l27 : K.lookup f27 = some ⟨oc27, od27, .func (PySem.W.fnOf "_law_grade" "_law_grade" (defArgs (top 39)) (defBody (top 39)) (defScope (top 39)) .none kV27 dc27 pm27 an27 cd27 ct27), sl27⟩) (e27 : PySem.W.codeIn K cd27 "_law_grade" = true) (k27 : PySem.W.keepIn K (.ref f27) = true)
    (a28 : PySem.W.nsIn K mainGlobals "_law_kinds" = some (some (.ref f28))) (l28 : K.lookup f28 = some ⟨oc28, od28, .func (PySem.W.fnOf "_law_kinds" "_law_kinds" (defArgs (top 40)) (defBody (top 40)) (defScope (top 40)) .none kV28 dc28 pm28 an28 cd28 ct28), sl28⟩) (e28 : PySem.W.codeIn K cd28 "_law_kinds" = true) (k28 : PySem.W.keepIn K (.ref f28) = true)
    (a29 : PySem.W.nsIn K mainGlobals "_law_value_right" = some (some (.ref f29))) (l29 : K.lookup f29 = some ⟨oc29, od29, .func (PySem.W.fnOf "_law_value_right" "_law_value_right" (defArgs (top 42)) (defBody (top 42)) (defScope (top 42)) .none kV29 dc29 pm29 an29 cd29 ct29), sl29⟩) (e29 : PySem.W.codeIn K cd29 "_law_value_right" = true) (k29 : PySem.W.keepIn K (.ref f29) = true)
    (a30 : PySem.W.nsIn K mainGlobals "_law_errors_right" = some (some (.ref f30))) (l30 : K.lookup f30 = some ⟨oc30, od30, .func (PySem.W.fnOf "_law_errors_right" "_law_errors_right" (defArgs (top 43)) (defBody (top 43)) (defScope (top 43)) .none kV30 dc30 pm30 an30 (.ref qc30) ct30), sl30⟩) (e30 : PySem.W.codeIn K (.ref qc30) "_law_errors_right" = true) (k30 : PySem.W.keepIn K (.ref f30) = true)
    (tc30 : K.lookup qc30 = some ⟨qk30, qo30, .fields qv30, qs30⟩) (tv30 : qv30[11]? = some (.ref qp30)) (tn30 : K.lookup qp30 = none)
    (a31 : PySem.W.nsIn K mainGlobals "law" = some (some (.ref f31))) (l31 : K.lookup f31 = some ⟨oc31, od31, .func (PySem.W.fnOf "law" "law" (defArgs (top 44)) (defBody (top 44)) (defScope (top 44)) .none kV31 dc31 pm31 an31 cd31 ct31), sl31⟩) (e31 : PySem.W.codeIn K cd31 "law" = true) (k31 : PySem.W.keepIn K (.ref f31) = true)
    (a32 : PySem.W.nsIn K mainGlobals "_law_heard" = some (some (.ref f32))) (l32 : K.lookup f32 = some ⟨oc32, od32, .func (PySem.W.fnOf "_law_heard" "_law_heard" (defArgs (top 41)) (defBody (top 41)) (defScope (top 41)) .none kV32 dc32 pm32 an32 cd32 ct32), sl32⟩) (e32 : PySem.W.codeIn K cd32 "_law_heard" = true) (k32 : PySem.W.keepIn K (.ref f32) = true)
    (tnd : [qp30].Nodup)
    (z0 : PySem.W.nsIn K mainGlobals "tuple" = some none)
    (z1 : PySem.W.nsIn K mainGlobals "abs" = some none)
    (z2 : PySem.W.nsIn K mainGlobals "any" = some none)
    (z3 : PySem.W.nsIn K mainGlobals "len" = some none)
    (z4 : PySem.W.nsIn K mainGlobals "dict" = some none)
    (z5 : PySem.W.nsIn K mainGlobals "zip" = some none)
    (z6 : PySem.W.nsIn K mainGlobals "int" = some none)
    (z7 : PySem.W.nsIn K mainGlobals "max" = some none)
    (z8 : PySem.W.nsIn K mainGlobals "range" = some none)
    (z9 : PySem.W.nsIn K mainGlobals "repr" = some none)
    (kx0 : PySem.W.nsIn K mainGlobals "ONE" = some (some (.ref kp0)))
    (ky0 : K.lookup kp0 = some ⟨.type "tuple", kpo0, .seq #[.str "one" kt0_0] kpn0, kps0⟩)
    (kx1 : PySem.W.nsIn K mainGlobals "LEAST" = some (some (.ref kp1)))
    (ky1 : K.lookup kp1 = some ⟨.type "tuple", kpo1, .seq #[.str "in" kt1_0, .int (0) kt1_1, .ref kp1_2] kpn1, kps1⟩)
    (ky1_2 : K.lookup kp1_2 = some ⟨.type "tuple", kpo1_2, .seq #[.int (0) kt1_2_0, .int (1) kt1_2_1] kpn1_2, kps1_2⟩)
    (ca0 : PySem.W.nsIn K mainGlobals "OutOfRange" = some (some (.ref C0))) (cb0 : K.lookup C0 = some (excClassObj u0 v0 C0 M0 w0 [.ref B0_0, .type "ValueError", .type "Exception", .type "BaseException", .type "object"] true y0 x0 r0 g0 h0 j0_0 j0_1 j0_2 j0_3 j0_5 "ValueError.__new__")) (cc0 : PySem.W.findIn K (.ref C0) "__setattr__" = some (some (.builtin "object.__setattr__"))) (cd0 : PySem.W.findIn K (.ref C0) "__getattribute__" = some (some (.builtin "BaseException.__getattribute__"))) (ce0 : PySem.W.findIn K (.ref C0) "__getattr__" = some none) (cf0 : PySem.W.findIn K (.ref C0) "value" = some none) (cg0 : PySem.W.findIn K (.ref C0) "__init__" = some (some (.ref I0))) (ch0 : PySem.W.typeIn K (.ref I0) = some (.type "function")) (ci0 : K.lookup I0 = some ⟨ic0, io0, .func (PySem.W.fnOf "__init__" "OutOfRange.__init__" (defArgs (clsInit (top 3))) (defBody (clsInit (top 3))) (defScope (clsInit (top 3))) .none ik0 id0 ip0 ia0 iq0 it0), il0⟩) (cj0 : PySem.W.codeIn K iq0 "OutOfRange.__init__" = true) (ck0 : PySem.W.keepIn K (.ref I0) = true) (cl0 : PySem.W.keepIn K (.ref C0) = true) (cm0 : PySem.W.subIn K (.ref C0) (.type "BaseException") = some true) (cn0 : PySem.W.typeIn K (.ref C0) = some (.type "type")) (co0 : PySem.W.hasDictIn K C0 = true) (cp0 : PySem.W.isClsIn K C0 = true)
    (ca1 : PySem.W.nsIn K mainGlobals "WrongMark" = some (some (.ref C1))) (cb1 : K.lookup C1 = some (excClassObj u1 v1 C1 M1 w1 [.ref B1_0, .type "ValueError", .type "Exception", .type "BaseException", .type "object"] true y1 x1 r1 g1 h1 j1_0 j1_1 j1_2 j1_3 j1_5 "ValueError.__new__")) (cc1 : PySem.W.findIn K (.ref C1) "__setattr__" = some (some (.builtin "object.__setattr__"))) (cd1 : PySem.W.findIn K (.ref C1) "__getattribute__" = some (some (.builtin "BaseException.__getattribute__"))) (ce1 : PySem.W.findIn K (.ref C1) "__getattr__" = some none) (cf1 : PySem.W.findIn K (.ref C1) "mark" = some none) (cg1 : PySem.W.findIn K (.ref C1) "__init__" = some (some (.ref I1))) (ch1 : PySem.W.typeIn K (.ref I1) = some (.type "function")) (ci1 : K.lookup I1 = some ⟨ic1, io1, .func (PySem.W.fnOf "__init__" "WrongMark.__init__" (defArgs (clsInit (top 4))) (defBody (clsInit (top 4))) (defScope (clsInit (top 4))) .none ik1 id1 ip1 ia1 iq1 it1), il1⟩) (cj1 : PySem.W.codeIn K iq1 "WrongMark.__init__" = true) (ck1 : PySem.W.keepIn K (.ref I1) = true) (cl1 : PySem.W.keepIn K (.ref C1) = true) (cm1 : PySem.W.subIn K (.ref C1) (.type "BaseException") = some true) (cn1 : PySem.W.typeIn K (.ref C1) = some (.type "type")) (co1 : PySem.W.hasDictIn K C1 = true) (cp1 : PySem.W.isClsIn K C1 = true)
    (ca2 : PySem.W.nsIn K mainGlobals "UnknownName" = some (some (.ref C2))) (cb2 : K.lookup C2 = some (excClassObj u2 v2 C2 M2 w2 [.ref B2_0, .type "ValueError", .type "Exception", .type "BaseException", .type "object"] true y2 x2 r2 g2 h2 j2_0 j2_1 j2_2 j2_3 j2_5 "ValueError.__new__")) (cc2 : PySem.W.findIn K (.ref C2) "__setattr__" = some (some (.builtin "object.__setattr__"))) (cd2 : PySem.W.findIn K (.ref C2) "__getattribute__" = some (some (.builtin "BaseException.__getattribute__"))) (ce2 : PySem.W.findIn K (.ref C2) "__getattr__" = some none) (cf2 : PySem.W.findIn K (.ref C2) "name" = some none) (cg2 : PySem.W.findIn K (.ref C2) "__init__" = some (some (.ref I2))) (ch2 : PySem.W.typeIn K (.ref I2) = some (.type "function")) (ci2 : K.lookup I2 = some ⟨ic2, io2, .func (PySem.W.fnOf "__init__" "UnknownName.__init__" (defArgs (clsInit (top 2))) (defBody (clsInit (top 2))) (defScope (clsInit (top 2))) .none ik2 id2 ip2 ia2 iq2 it2), il2⟩) (cj2 : PySem.W.codeIn K iq2 "UnknownName.__init__" = true) (ck2 : PySem.W.keepIn K (.ref I2) = true) (cl2 : PySem.W.keepIn K (.ref C2) = true) (cm2 : PySem.W.subIn K (.ref C2) (.type "BaseException") = some true) (cn2 : PySem.W.typeIn K (.ref C2) = some (.type "type")) (co2 : PySem.W.hasDictIn K C2 = true) (cp2 : PySem.W.isClsIn K C2 = true)
    (cs0_0 : PySem.W.subIn K (.ref C0) (.ref C0) = some true)
    (cs0_1 : PySem.W.subIn K (.ref C0) (.ref C1) = some false)
    (cs0_2 : PySem.W.subIn K (.ref C0) (.ref C2) = some false)
    (cs1_0 : PySem.W.subIn K (.ref C1) (.ref C0) = some false)
    (cs1_1 : PySem.W.subIn K (.ref C1) (.ref C1) = some true)
    (cs1_2 : PySem.W.subIn K (.ref C1) (.ref C2) = some false)
    (cs2_0 : PySem.W.subIn K (.ref C2) (.ref C0) = some false)
    (cs2_1 : PySem.W.subIn K (.ref C2) (.ref C1) = some false)
    (cs2_2 : PySem.W.subIn K (.ref C2) (.ref C2) = some true) : ∃ T, Glob K mg G TB con T ∧ T.tabs.map (·.2) = qs.map lamN ∧ ∀ p ∈ T.tabs, (∃ x ∈ qs, p.2 = lamN x ∧ ∃ c, PySem.W.tabIn K x = some (c, p.1)) ∧ K.lookup p.1 = none := by
  have hb : ∀ x : Str, G.blts.contains x = true → mg x = none := fun x hx => by
    have hx : x ∈ G.blts := by simpa using hx
    have hx : x ∈ (["tuple", "abs", "any", "len", "dict", "zip", "int", "max", "range", "repr"] : List Str) := hx
    simp only [List.mem_cons, List.not_mem_nil, or_false] at hx
    rcases hx with rfl | rfl | rfl | rfl | rfl | rfl | rfl | rfl | rfl | rfl
    · exact PySem.W.mg_none_of X G0 z0
    · exact PySem.W.mg_none_of X G0 z1
    · exact PySem.W.mg_none_of X G0 z2
    · exact PySem.W.mg_none_of X G0 z3
    · exact PySem.W.mg_none_of X G0 z4
    · exact PySem.W.mg_none_of X G0 z5
    · exact PySem.W.mg_none_of X G0 z6
    · exact PySem.W.mg_none_of X G0 z7
    · exact PySem.W.mg_none_of X G0 z8
    · exact PySem.W.mg_none_of X G0 z9
  have tt30 : PySem.W.tabIn K "_law_errors_right" = some (qc30, qp30) := tab_in_of a30 l30 rfl tc30 tv30
  refine ⟨⟨[(C0, some "value"), (C1, some "mark"), (C2, some "name")], [(qp30, lamN "_law_errors_right")]⟩, ⟨hb, fun k x h => ?_, fun k x h => ?_, fun P w c x f h => ?_, fun k x Nl st h => ?_, tnd⟩, rfl, fun p hp => ?_⟩
  · revert h
    exact match k, x with
    | 0, x => fun h => by
      cases (Option.some.inj h)
      exact ⟨_, _, .ref kp0, rfl, PySem.W.mg_of X G0 kx0, rfl, fun H => .tup (xs := [V.str "one"]) (.inr ⟨_, _, _, ky0, rfl, rfl, (by show (1 : Nat) ≤ sizeLine; decide), (.cons ⟨_, rfl⟩ .nil)⟩) (.cons (.str _) .nil)⟩
    | 1, x => fun h => by
      cases (Option.some.inj h)
      exact ⟨_, _, .ref kp1, rfl, PySem.W.mg_of X G0 kx1, rfl, fun H => .tup (xs := [V.str "in", V.int (0), V.ref kp1_2]) (.inr ⟨_, _, _, ky1, rfl, rfl, (by show (3 : Nat) ≤ sizeLine; decide), (.cons ⟨_, rfl⟩ (.cons ⟨_, rfl⟩ (.cons rfl .nil)))⟩) (.cons (.str _) (.cons (.int _) (.cons (.tup (xs := [V.int (0), V.int (1)]) (.inr ⟨_, _, _, ky1_2, rfl, rfl, (by show (2 : Nat) ≤ sizeLine; decide), (.cons ⟨_, rfl⟩ (.cons ⟨_, rfl⟩ .nil))⟩) (.cons (.int _) (.cons (.int _) .nil))) .nil)))⟩
    | n + 2, x => fun h => by simp [G] at h
  · revert h
    exact match k, x with
    | 0, x => fun h => by
      cases (Option.some.inj h)
      exact ⟨f0, F0, PySem.W.mg_of X G0 a0, rfl, ⟨top 6, _, N0, ["saying"], _, fun_mk l0 e0 k0, s0, fun _ _ _ _ _ _ us hl => match us, hl with | [_], _ => rfl, rfl, rfl, q0, .inl rfl⟩⟩
    | 1, x => fun h => by
      cases (Option.some.inj h)
      exact ⟨f1, F1, PySem.W.mg_of X G0 a1, rfl, ⟨top 7, _, N1, ["saying", "found"], _, fun_mk l1 e1 k1, s1, fun _ _ _ _ _ _ us hl => match us, hl with | [_, _], _ => rfl, rfl, rfl, q1, .inl rfl⟩⟩
    | 2, x => fun h => by
      cases (Option.some.inj h)
      exact ⟨f2, F2, PySem.W.mg_of X G0 a2, rfl, ⟨top 8, _, N2, ["sayings"], _, fun_mk l2 e2 k2, s2, fun _ _ _ _ _ _ us hl => match us, hl with | [_], _ => rfl, rfl, rfl, q2, .inl rfl⟩⟩
    | 3, x => fun h => by
      cases (Option.some.inj h)
      exact ⟨f3, F3, PySem.W.mg_of X G0 a3, rfl, ⟨top 10, _, N3, ["first", "second"], _, fun_mk l3 e3 k3, s3, fun _ _ _ _ _ _ us hl => match us, hl with | [_, _], _ => rfl, rfl, rfl, q3, .inl rfl⟩⟩
    | 4, x => fun h => by
      cases (Option.some.inj h)
      exact ⟨f4, F4, PySem.W.mg_of X G0 a4, rfl, ⟨top 11, _, N4, ["above", "below"], _, fun_mk l4 e4 k4, s4, fun _ _ _ _ _ _ us hl => match us, hl with | [_, _], _ => rfl, rfl, rfl, q4, .inl rfl⟩⟩
    | 5, x => fun h => by
      cases (Option.some.inj h)
      exact ⟨f5, F5, PySem.W.mg_of X G0 a5, rfl, ⟨top 12, _, N5, ["above", "below"], _, fun_mk l5 e5 k5, s5, fun _ _ _ _ _ _ us hl => match us, hl with | [_, _], _ => rfl, rfl, rfl, q5, .inl rfl⟩⟩
    | 6, x => fun h => by
      cases (Option.some.inj h)
      exact ⟨f6, F6, PySem.W.mg_of X G0 a6, rfl, ⟨top 13, _, N6, ["first", "second"], _, fun_mk l6 e6 k6, s6, fun _ _ _ _ _ _ us hl => match us, hl with | [_, _], _ => rfl, rfl, rfl, q6, .inl rfl⟩⟩
    | 7, x => fun h => by
      cases (Option.some.inj h)
      exact ⟨f7, F7, PySem.W.mg_of X G0 a7, rfl, ⟨top 14, _, N7, ["first", "second"], _, fun_mk l7 e7 k7, s7, fun _ _ _ _ _ _ us hl => match us, hl with | [_, _], _ => rfl, rfl, rfl, q7, .inl rfl⟩⟩
    | 8, x => fun h => by
      cases (Option.some.inj h)
      exact ⟨f8, F8, PySem.W.mg_of X G0 a8, rfl, ⟨top 15, _, N8, ["value"], _, fun_mk l8 e8 k8, s8, fun _ _ _ _ _ _ us hl => match us, hl with | [_], _ => rfl, rfl, rfl, q8, .inl rfl⟩⟩
    | 9, x => fun h => by
      cases (Option.some.inj h)
      exact ⟨f9, F9, PySem.W.mg_of X G0 a9, rfl, ⟨top 16, _, N9, ["pair"], _, fun_mk l9 e9 k9, s9, fun _ _ _ _ _ _ us hl => match us, hl with | [_], _ => rfl, rfl, rfl, q9, .inl rfl⟩⟩
    | 10, x => fun h => by
      cases (Option.some.inj h)
      exact ⟨f10, F10, PySem.W.mg_of X G0 a10, rfl, ⟨top 17, _, N10, ["mark", "first", "second"], _, fun_mk l10 e10 k10, s10, fun _ _ _ _ _ _ us hl => match us, hl with | [_, _, _], _ => rfl, rfl, rfl, q10, .inl rfl⟩⟩
    | 11, x => fun h => by
      cases (Option.some.inj h)
      exact ⟨f11, F11, PySem.W.mg_of X G0 a11, rfl, ⟨top 19, _, N11, ["saying"], _, fun_mk l11 e11 k11, s11, fun _ _ _ _ _ _ us hl => match us, hl with | [_], _ => rfl, rfl, rfl, q11, .inl rfl⟩⟩
    | 12, x => fun h => by
      cases (Option.some.inj h)
      exact ⟨f12, F12, PySem.W.mg_of X G0 a12, rfl, ⟨top 23, _, N12, ["first", "second"], _, fun_mk l12 e12 k12, s12, fun _ _ _ _ _ _ us hl => match us, hl with | [_, _], _ => rfl, rfl, rfl, q12, .inl rfl⟩⟩
    | 13, x => fun h => by
      cases (Option.some.inj h)
      exact ⟨f13, F13, PySem.W.mg_of X G0 a13, rfl, ⟨top 24, _, N13, ["mark", "kind", "first", "second"], _, fun_mk l13 e13 k13, s13, fun _ _ _ _ _ _ us hl => match us, hl with | [_, _, _, _], _ => rfl, rfl, rfl, q13, .inl rfl⟩⟩
    | 14, x => fun h => by
      cases (Option.some.inj h)
      exact ⟨f14, F14, PySem.W.mg_of X G0 a14, rfl, ⟨top 25, _, N14, ["mark", "kinds", "first", "second"], _, fun_mk l14 e14 k14, s14, fun _ _ _ _ _ _ us hl => match us, hl with | [_, _, _, _], _ => rfl, rfl, rfl, q14, .inl rfl⟩⟩
    | 15, x => fun h => by
      cases (Option.some.inj h)
      exact ⟨f15, F15, PySem.W.mg_of X G0 a15, rfl, ⟨top 26, _, N15, ["saying", "kinds", "table"], _, fun_mk l15 e15 k15, s15, fun _ _ _ _ _ _ us hl => match us, hl with | [_, _, _], _ => rfl, rfl, rfl, q15, .inl rfl⟩⟩
    | 16, x => fun h => by
      cases (Option.some.inj h)
      exact ⟨f16, F16, PySem.W.mg_of X G0 a16, rfl, ⟨top 27, _, N16, ["saying"], _, fun_mk l16 e16 k16, s16, fun _ _ _ _ _ _ us hl => match us, hl with | [_], _ => rfl, rfl, rfl, q16, .inl rfl⟩⟩
    | 17, x => fun h => by
      cases (Option.some.inj h)
      exact ⟨f17, F17, PySem.W.mg_of X G0 a17, rfl, ⟨top 28, _, N17, ["kinds", "grades"], _, fun_mk l17 e17 k17, s17, fun _ _ _ _ _ _ us hl => match us, hl with | [_, _], _ => rfl, rfl, rfl, q17, .inl rfl⟩⟩
    | 18, x => fun h => by
      cases (Option.some.inj h)
      exact ⟨f18, F18, PySem.W.mg_of X G0 a18, rfl, ⟨top 29, _, N18, ["saying", "kinds", "names", "grades"], _, fun_mk l18 e18 k18, s18, fun _ _ _ _ _ _ us hl => match us, hl with | [_, _, _, _], _ => rfl, rfl, rfl, q18, .inl rfl⟩⟩
    | 19, x => fun h => by
      cases (Option.some.inj h)
      exact ⟨f19, F19, PySem.W.mg_of X G0 a19, rfl, ⟨top 31, _, N19, ["_law_script", "_law_k"], _, fun_mk l19 e19 k19, s19, fun _ _ _ _ _ _ us hl => match us, hl with | [_, _], _ => rfl, rfl, rfl, q19, .inl rfl⟩⟩
    | 20, x => fun h => by
      cases (Option.some.inj h)
      exact ⟨f20, F20, PySem.W.mg_of X G0 a20, rfl, ⟨top 32, _, N20, ["_law_m", "_law_below"], _, fun_mk l20 e20 k20, s20, fun _ _ _ _ _ _ us hl => match us, hl with | [_, _], _ => rfl, rfl, rfl, q20, .inl rfl⟩⟩
    | 21, x => fun h => by
      cases (Option.some.inj h)
      exact ⟨f21, F21, PySem.W.mg_of X G0 a21, rfl, ⟨top 33, _, N21, ["_law_m", "_law_some"], _, fun_mk l21 e21 k21, s21, fun _ _ _ _ _ _ us hl => match us, hl with | [_, _], _ => rfl, rfl, rfl, q21, .inl rfl⟩⟩
    | 22, x => fun h => by
      cases (Option.some.inj h)
      exact ⟨f22, F22, PySem.W.mg_of X G0 a22, rfl, ⟨top 34, _, N22, ["_law_above", "_law_below"], _, fun_mk l22 e22 k22, s22, fun _ _ _ _ _ _ us hl => match us, hl with | [_, _], _ => rfl, rfl, rfl, q22, .inl rfl⟩⟩
    | 23, x => fun h => by
      cases (Option.some.inj h)
      exact ⟨f23, F23, PySem.W.mg_of X G0 a23, rfl, ⟨top 35, _, N23, ["_law_m", "_law_names", "_law_size"], _, fun_mk l23 e23 k23, s23, fun _ _ _ _ _ _ us hl => match us, hl with | [_, _, _], _ => rfl, rfl, rfl, q23, .inl rfl⟩⟩
    | 24, x => fun h => by
      cases (Option.some.inj h)
      exact ⟨f24, F24, PySem.W.mg_of X G0 a24, rfl, ⟨top 36, _, N24, ["_law_one", "_law_two"], _, fun_mk l24 e24 k24, s24, fun _ _ _ _ _ _ us hl => match us, hl with | [_, _], _ => rfl, rfl, rfl, q24, .inl rfl⟩⟩
    | 25, x => fun h => by
      cases (Option.some.inj h)
      exact ⟨f25, F25, PySem.W.mg_of X G0 a25, rfl, ⟨top 37, _, N25, ["_law_mark", "_law_kinds_here", "_law_one", "_law_two"], _, fun_mk l25 e25 k25, s25, fun _ _ _ _ _ _ us hl => match us, hl with | [_, _, _, _], _ => rfl, rfl, rfl, q25, .inl rfl⟩⟩
    | 26, x => fun h => by
      cases (Option.some.inj h)
      exact ⟨f26, F26, PySem.W.mg_of X G0 a26, rfl, ⟨top 38, _, N26, ["_law_saying", "_law_kinds_here", "_law_table"], _, fun_mk l26 e26 k26, s26, fun _ _ _ _ _ _ us hl => match us, hl with | [_, _, _], _ => rfl, rfl, rfl, q26, .inl rfl⟩⟩
    | 27, x => fun h => by
      cases (Option.some.inj h)
      exact ⟨f27, F27, PySem.W.mg_of X G0 a27, rfl, ⟨top 39, _, N27, ["_law_m", "_law_pieces"], _, fun_mk l27 e27 k27, s27, fun _ _ _ _ _ _ us hl => match us, hl with | [_, _], _ => rfl, rfl, rfl, q27, .inl rfl⟩⟩
    | 28, x => fun h => by
      cases (Option.some.inj h)
      exact ⟨f28, F28, PySem.W.mg_of X G0 a28, rfl, ⟨top 40, _, N28, ["_law_m", "_law_most"], _, fun_mk l28 e28 k28, s28, fun _ _ _ _ _ _ us hl => match us, hl with | [_, _], _ => rfl, rfl, rfl, q28, .inl rfl⟩⟩
    | 29, x => fun h => by
      cases (Option.some.inj h)
      exact ⟨f29, F29, PySem.W.mg_of X G0 a29, rfl, ⟨top 42, _, N29, ["_law_m", "_law_saying", "_law_kinds_here", "_law_names", "_law_grades"], _, fun_mk l29 e29 k29, s29, fun _ _ _ _ _ _ us hl => match us, hl with | [_, _, _, _, _], _ => rfl, rfl, rfl, q29, .inl rfl⟩⟩
    | 30, x => fun h => by
      cases (Option.some.inj h)
      exact ⟨f30, F30, PySem.W.mg_of X G0 a30, rfl, ⟨top 43, _, N30, ["_law_m", "_law_saying", "_law_kinds_here", "_law_names", "_law_grades"], _, fun_mk l30 e30 k30, s30, fun _ _ _ _ _ _ us hl => match us, hl with | [_, _, _, _, _], _ => rfl, rfl, rfl, q30, .inr ⟨rfl, _, _, tt30, by simp⟩⟩⟩
    | 31, x => fun h => by
      cases (Option.some.inj h)
      exact ⟨f31, F31, PySem.W.mg_of X G0 a31, rfl, ⟨top 44, _, N31, ["_law_script"], _, fun_mk l31 e31 k31, s31, fun _ _ _ _ _ _ us hl => match us, hl with | [_], _ => rfl, rfl, rfl, q31, .inl rfl⟩⟩
    | n + 32, x => fun h => by simp [G] at h
  · revert h
    exact match c, x, f with
    | 0, x, f => fun h => by
      cases (Option.some.inj h)
      refine ⟨C0, rfl, PySem.W.mg_of X G0 ca0, ⟨⟨_, _, _, _, _, _, _, _, _, _, _, _, _, _, _, cb0, by first | rfl | decide +kernel⟩, cc0, cm0, cn0, cl0⟩, cd0, ce0, cf0, co0, fun c2 C2 f2 h2 => ?_, ⟨I0, _, _, clsInit (top 3), _, _, _, _, cg0, ch0, fun_mk ci0 cj0 ck0, ei0, rfl, by decide, by decide, fun _ _ _ _ _ _ us hl => match us, hl with | [_, _], _ => rfl⟩⟩
      revert h2
      exact match c2, C2, f2 with
      | 0, C2, f2 => fun h2 => by
        cases (Option.some.inj h2)
        exact exm_of cm0 cp0 cn0 cs0_0
      | 1, C2, f2 => fun h2 => by
        cases (Option.some.inj h2)
        exact exm_of cm0 cp0 cn0 cs1_0
      | 2, C2, f2 => fun h2 => by
        cases (Option.some.inj h2)
        exact exm_of cm0 cp0 cn0 cs2_0
      | n + 3, C2, f2 => fun h2 => by simp at h2
    | 1, x, f => fun h => by
      cases (Option.some.inj h)
      refine ⟨C1, rfl, PySem.W.mg_of X G0 ca1, ⟨⟨_, _, _, _, _, _, _, _, _, _, _, _, _, _, _, cb1, by first | rfl | decide +kernel⟩, cc1, cm1, cn1, cl1⟩, cd1, ce1, cf1, co1, fun c2 C2 f2 h2 => ?_, ⟨I1, _, _, clsInit (top 4), _, _, _, _, cg1, ch1, fun_mk ci1 cj1 ck1, ei1, rfl, by decide, by decide, fun _ _ _ _ _ _ us hl => match us, hl with | [_, _], _ => rfl⟩⟩
      revert h2
      exact match c2, C2, f2 with
      | 0, C2, f2 => fun h2 => by
        cases (Option.some.inj h2)
        exact exm_of cm1 cp1 cn1 cs0_1
      | 1, C2, f2 => fun h2 => by
        cases (Option.some.inj h2)
        exact exm_of cm1 cp1 cn1 cs1_1
      | 2, C2, f2 => fun h2 => by
        cases (Option.some.inj h2)
        exact exm_of cm1 cp1 cn1 cs2_1
      | n + 3, C2, f2 => fun h2 => by simp at h2
    | 2, x, f => fun h => by
      cases (Option.some.inj h)
      refine ⟨C2, rfl, PySem.W.mg_of X G0 ca2, ⟨⟨_, _, _, _, _, _, _, _, _, _, _, _, _, _, _, cb2, by first | rfl | decide +kernel⟩, cc2, cm2, cn2, cl2⟩, cd2, ce2, cf2, co2, fun c2 C2 f2 h2 => ?_, ⟨I2, _, _, clsInit (top 2), _, _, _, _, cg2, ch2, fun_mk ci2 cj2 ck2, ei2, rfl, by decide, by decide, fun _ _ _ _ _ _ us hl => match us, hl with | [_, _], _ => rfl⟩⟩
      revert h2
      exact match c2, C2, f2 with
      | 0, C2, f2 => fun h2 => by
        cases (Option.some.inj h2)
        exact exm_of cm2 cp2 cn2 cs0_2
      | 1, C2, f2 => fun h2 => by
        cases (Option.some.inj h2)
        exact exm_of cm2 cp2 cn2 cs1_2
      | 2, C2, f2 => fun h2 => by
        cases (Option.some.inj h2)
        exact exm_of cm2 cp2 cn2 cs2_2
      | n + 3, C2, f2 => fun h2 => by simp at h2
    | n + 3, x, f => fun h => by simp [G] at h
  · revert h
    exact match k, x, Nl, st with
    | 0, x, Nl, st => fun h => by
      cases (Option.some.inj h)
      exact ⟨f32, _, "_law_call", PySem.W.mg_of X G0 a32, fun_mk l32 e32 k32, s32, fun _ _ _ _ _ _ us hl => match us, hl with | [_], _ => rfl⟩
    | n + 1, x, Nl, st => fun h => by simp [G] at h
  · simp only [List.mem_cons, List.not_mem_nil, or_false] at hp
    rcases hp with rfl
    · exact ⟨⟨_, by simp [qs], rfl, _, tt30⟩, tn30⟩
end K50

set_option maxRecDepth 100000
set_option maxHeartbeats 16000000
namespace K50
open PySem L2 Ht PyProof.Rows
noncomputable abbrev Pm (m : Nat) : Ph := ⟨callF TB 1000 con m, 1000, con⟩
theorem VC : ChT TB con 0 1 2 0 1 0 1 2 3 4 5 6 7 8 9 10 13 12 14 15 11 16 17 18 := ⟨⟨rfl, rfl, rfl, rfl, rfl, rfl, rfl, rfl, rfl, rfl, rfl, rfl⟩, rfl, rfl, rfl, rfl, rfl, rfl, rfl, rfl, rfl⟩
theorem t19 : TB[19]? = some begunF := rfl
theorem t20 : TB[20]? = some drawF := rfl
theorem t21 : TB[21]? = some (ofF 20) := rfl
theorem t22 : TB[22]? = some lowF := rfl
theorem t23 : TB[23]? = some (sayGF ["times", "leads", "and", "or", "same", "times", "leads", "leads"] 20 21 23 6) := rfl
theorem t24 : TB[24]? = some lbefF := rfl
theorem t25 : TB[25]? = some (lgivF 24 25 22) := rfl
theorem t26 : TB[26]? = some (lgrofF 26 25) := rfl
theorem t27 : TB[27]? = some (lgrdF 20 21 22) := rfl
theorem t28 : TB[28]? = some (lkndF 21 20) := rfl
def tg (names : List Str) (gs : List Gd) : Str → Gd := fun x => (zt names gs x).getD .one
structure Sit (kinds names : List Str) (gs : List Gd) (s : Say) : Prop where
  kv : KV kinds
  k0 : 0 < kinds.length
  k6 : kinds.length ≤ 6
  nd : names.Nodup
  n4 : names.length ≤ 4
  gl : gs.length = names.length
  gb : ∀ g ∈ gs, GB kinds 1 g
  im : s.inm pmarks
  ov : s.over names
  de : s.deep ≤ 17
  wo : s.words ≤ 34
  lv : s.leaves.length ≤ 9
theorem nd_rev {l : List Str} (h : l.Nodup) : l.reverse.Nodup := List.pairwise_reverse.mpr (h.imp Ne.symm)
theorem zt_at {α : Type} {x : Str} : ∀ {ks : List Str} {l : List α}, x ∈ ks → l.length = ks.length → ∃ a, zt ks l x = some a ∧ (x, a) ∈ ks.zip l
  | k :: ks, [], _, h => by simp at h
  | k :: ks, a :: l, hx, h => by
    unfold zt
    rw [List.zip_cons_cons, List.lookup_cons]
    by_cases q : x = k
    · subst q
      exact ⟨a, by simp, List.mem_cons_self⟩
    · have q' : (x == k) = false := by simpa using q
      rw [q']
      obtain ⟨b, h1, h2⟩ := zt_at (ks := ks) (l := l) ((List.mem_cons.mp hx).resolve_left q) (by simpa using h)
      exact ⟨b, h1, List.mem_cons_of_mem _ h2⟩
theorem lookup_mem {α : Type} {x : Str} {v : α} : ∀ {l : List (Str × α)}, (l.map Prod.fst).Nodup → (x, v) ∈ l → l.lookup x = some v
  | (k, a) :: l, hn, h => by
    rw [List.map_cons, List.nodup_cons] at hn
    rw [List.lookup_cons]
    rcases List.mem_cons.mp h with q | q
    · cases q
      simp
    · have q' : (x == k) = false := by
        refine beq_eq_false_iff_ne.mpr fun z => ?_
        subst z
        exact hn.1 (List.mem_map.mpr ⟨_, q, rfl⟩)
      rw [q']
      exact lookup_mem hn.2 q
theorem zip_fst {α : Type} : ∀ {ks : List Str} {l : List α}, l.length = ks.length → (ks.zip l).map Prod.fst = ks
  | [], [], _ => rfl
  | k :: ks, [], h => by simp at h
  | [], a :: l, h => by simp at h
  | k :: ks, a :: l, h => by
    rw [List.zip_cons_cons, List.map_cons, zip_fst (by simpa using h)]
theorem zt_rev {α : Type} {ks : List Str} {l : List α} {k x : Str} {g : α} (hn : ks.Nodup) (hl : l.length = ks.length) (hx : x ∈ ks) (hk : x ≠ k) : zt (k :: ks.reverse) (g :: l.reverse) x = zt ks l x := by
  obtain ⟨a, h1, h2⟩ := zt_at hx hl
  rw [h1]
  unfold zt
  rw [List.zip_cons_cons, List.lookup_cons]
  have q' : (x == k) = false := beq_eq_false_iff_ne.mpr hk
  rw [q']
  refine lookup_mem ?_ ?_
  · rw [zip_fst (by simpa using hl)]
    exact nd_rev hn
  · obtain ⟨i, hi, e⟩ := List.mem_iff_getElem.mp h2
    rw [List.getElem_zip] at e
    have hi2 : i < ks.length := by simp at hi; omega
    have hi3 : i < l.length := by omega
    cases e
    refine List.mem_iff_getElem.mpr ⟨ks.length - 1 - i, by simp; omega, ?_⟩
    rw [List.getElem_zip, List.getElem_reverse, List.getElem_reverse]
    congr 2 <;> omega
theorem gr_congr {kinds V : List Str} {t t' : Str → Gd} (h : ∀ x ∈ V, t x = t' x) : ∀ {s : Say}, s.over V → s.gr kinds t = s.gr kinds t'
  | .yes, _ => rfl
  | .no, _ => rfl
  | .unk x, ho => h x ho
  | .not a, ho => by simp only [Say.gr]; rw [gr_congr h (s := a) ho]
  | .two m a b, ho => by simp only [Say.gr]; rw [gr_congr h ho.1, gr_congr h ho.2]
theorem gb_far {kinds : List Str} {e : Nat} {g : Gd} (h : GB kinds e g) : farG kinds.length g = false := by
  cases g with
  | one => rfl
  | at' k a b =>
    have := h.1
    simp only [farG, decide_eq_false_iff_not]
    omega
theorem gd_neat {kinds : List Str} {e : Nat} {g : Gd} (h : GB kinds e g) (he : e ≤ 10) (hk : kinds.length ≤ 1000) : Neat g.d 3 200 := by
  cases g with
  | one => exact (neat_tup (neatL_cons (b1 := 8) (neat_str (by decide)) (neatL_nil (n := 1) (b := 0)))).mono (by omega) (by omega)
  | at' k a b =>
    obtain ⟨h1, h2, h3, h4, h5, h6⟩ := h
    have q1 := qq_mono he
    have q2 : qq ^ 10 < 10 ^ 99 := by decide
    have n2 : Neat (.tuple [.int a, .int b]) 2 2 := neat_tup (neatL_cons (b1 := 0) (neat_big (by omega)) (neatL_cons (b1 := 0) (neat_big (by omega)) (neatL_nil (b := 0))))
    exact (neat_tup (neatL_cons (b1 := 8) (neat_str (by decide)) (neatL_cons (b1 := 0) (neat_int (by omega) (by omega)) (neatL_cons n2 (neatL_nil (b := 0)))))).mono (by omega) (by omega)
section
variable {kinds names : List Str} {gs : List Gd} {s : Say} {S : Sto}
theorem Sit.in' (V : Sit kinds names gs s) : ∀ x ∈ namesL [] [s], x ∈ names := fun x hx => names_sub s V.ov (l := []) (by simp) x hx
theorem Sit.gx (V : Sit kinds names gs s) : ∀ x ∈ names, ∃ z, zt names gs x = some z ∧ GB kinds 1 z := fun x hx => by
  obtain ⟨a, h1, h2⟩ := zt_at hx V.gl
  exact ⟨a, h1, V.gb a (List.of_mem_zip h2).2⟩
theorem Sit.gt (V : Sit kinds names gs s) : ∀ x ∈ names, GB kinds 1 (tg names gs x) := fun x hx => by
  obtain ⟨z, h1, h2⟩ := V.gx x hx
  unfold tg
  rw [h1]
  exact h2
theorem Sit.gr (V : Sit kinds names gs s) : GB kinds 9 (s.gr kinds (tg names gs)) := (gr_GB V.k0 V.gt V.ov).mono V.lv
theorem find_none {α : Type} {p : α → Bool} {l : List α} (h : ∀ x ∈ l, p x = false) : l.find? p = none := List.find?_eq_none.mpr fun x hx => by rw [h x hx]; simp
theorem val_ok (V : Sit kinds names gs s) {n : Nat} (hn : 31 < n) : callF TB 1000 con n 18 [.d s.d, .d (.tuple (txs kinds)), .d (.tuple (txs names)), .d (.tuple (gs.map Gd.d))] S = .ok (.d (s.gr kinds (tg names gs)).d) S := by
  have := V.de
  have := V.wo
  have e := chain_ok (n := n) (kinds := kinds) (names := names) (gs := gs) (s := s) (S := S) VC (inm_ok pm_marks V.im) (by omega) (by omega) fun _ _ _ => ⟨V.kv, V.k0, V.nd, V.gx, V.im, V.ov, by have := V.lv; omega⟩
  rw [e]
  unfold chR
  rw [inm_hp V.im, find_none fun x hx => by simpa using V.in' x hx, find_none fun g hg => gb_far (V.gb g hg)]
  rfl
theorem Sit.turn (V : Sit kinds names gs s) {g : Gd} {k : Str} (hk : k ∉ names) (hg : GB kinds 1 g) (h3 : names.length ≤ 3) : Sit kinds (k :: names.reverse) (g :: gs.reverse) s ∧ s.gr kinds (tg (k :: names.reverse) (g :: gs.reverse)) = s.gr kinds (tg names gs) := by
  refine ⟨⟨V.kv, V.k0, V.k6, ?_, by simp; omega, by simp [V.gl], ?_, V.im, over_mono (fun x hx => by simp [hx]) V.ov, V.de, V.wo, V.lv⟩, gr_congr (V := names) (fun x hx => ?_) V.ov⟩
  · exact List.nodup_cons.mpr ⟨by simpa using hk, nd_rev V.nd⟩
  · intro z hz
    rcases List.mem_cons.mp hz with rfl | hz
    · exact hg
    · exact V.gb z (by simpa using hz)
  · unfold tg
    rw [zt_rev V.nd V.gl hx (fun z => by subst z; exact hk hx)]
theorem c29_ok {n c p : Nat} {d : Cell} (V : Sit kinds names gs s) (h3 : names.length ≤ 3) (ho : Str.ofString "other1" ∉ names) (hn : 40 < n) (hS : S[c]? = some d) (hd : Dr p d) (hp : p + 10 ≤ 2 ^ 40) :
    Wp (callF TB 1000 con n 29 [.c c, .d s.d, .d (.tuple (txs kinds)), .d (.list (txs names)), .d (.list (gs.map Gd.d))] S) (Dq c (p + 5) S (· = .bool true)) xNo := by
  obtain ⟨m, rfl⟩ : ∃ m, n = m + 1 := ⟨n - 1, by omega⟩
  refine wp_body (F := F29) rfl rfl ?_
  show Wp (svs (Pm m) c29 [some (.c c), some (.d s.d), some (.d (.tuple (txs kinds))), some (.d (.list (txs names))), some (.d (.list (gs.map Gd.d))), none, none, none, none, none, none] S) _ _
  obtain ⟨o6, o7, e1⟩ := dz_loop (w := ((txs names).zip (gs.map Gd.d)).map fun p => .tuple [p.1, p.2]) (c := S.length) (f := lp1 (Pm m) (.tup (.cons (.nam 6) (.cons (.nam 7) .nil))) (.cons (.sub (.var 5) (.var 6) (.var 7)) .nil)) (Γf := fun o6 o7 => [some (.c c), some (.d s.d), some (.d (.tuple (txs kinds))), some (.d (.list (txs names))), some (.d (.list (gs.map Gd.d))), some (.c S.length), o6, o7, none, none, none]) (fun o1 o2 k v kvs S hS hl => by
    have := sub_dct (k := k) (x := v) hS hl
    simp [lp1, this]) names (gs.map Gd.d) [] none none (S ++ [.dct []]) (by simp) (by have := V.n4; simp; omega)
  rw [set_last rfl] at e1
  generalize hK : mergeS [] (names.zip (gs.map Gd.d)) = kvs at *
  have hk : ∀ x ∈ names, kvs.lookup x = some (tg names gs x).d := fun x hx => by
    obtain ⟨z, hz, _⟩ := V.gx x hx
    rw [← hK, mergeS_nodup V.nd, zip_lookup]
    unfold tg
    rw [hz]
    unfold zt at hz
    rw [hz]
    rfl
  have := V.de
  have := V.k6
  have hc := lt_at hS
  have e2 := lgrof_ok (con := con) (c := S.length) (V := names) (t := tg names gs) t24 t25 t22 t26 V.kv V.k0 V.gt hk (s := s) (n := m) (S := S ++ [.dct kvs]) (by simp) V.im V.ov (by have := V.lv; omega) (by omega)
  have e3 := val_ok V (n := m) (S := S ++ [.dct kvs]) (by omega)
  have gn := gd_neat V.gr (by omega) (by omega)
  have r1 := repr_ok (gn.mono (n' := 180) (b' := 2 ^ 17) (by omega) (by omega))
  obtain ⟨g, d1, hg1, hg2, hd1, e4⟩ := lgrade_ok (con := con) (n := m) (b := kinds.length) t20 t21 t22 t27 V.k0 (by omega) (by omega) (S := S ++ [.dct kvs]) (at_app hS) hd (by omega)
  rw [set_app' hc] at e4
  obtain ⟨V2, hV2⟩ := V.turn (g := g) ho (hg1 kinds (Nat.le_refl _)) h3
  have e5 := val_ok V2 (n := m) (S := S.set c d1 ++ [.dct kvs]) (by omega)
  rw [hV2] at e5
  generalize (s.gr kinds (tg names gs)).d = G at *
  have hrv : revD (.list (txs names)) = some (.list (txs names).reverse) := rfl
  have hrg : revD (.list (gs.map Gd.d)) = some (.list (gs.map Gd.d).reverse) := rfl
  have a1 : binD .Add (.list [.str "other1"]) (.list (txs names).reverse) = some (.list (txs ("other1" :: names.reverse))) := by
    rw [add_l, if_pos (by rw [sizeLine_eq]; simp; omega)]
    simp [txs]
  have a2 : binD .Add (.list [g.d]) (.list (gs.map Gd.d).reverse) = some (.list ((g :: gs.reverse).map Gd.d)) := by
    rw [add_l, if_pos (by rw [sizeLine_eq]; simp; have := V.gl; omega)]
    simp
  have hdct : dctR [] [] S = .ok (.c S.length) (S ++ [.dct []]) := rfl
  simp only [tk_set, tk_app, tk_sapp, tk_self, List.set_set, R.bind_ok, R.bind_err, R.calm_ok, opt_some, varR_0, varR_s, setG_0, setG_s, wipeG_nil, wipeG_cons, ev_var, ev_con, ev_glo, ev_bin, ev_neg, ev_cmp, ev_not, andR_t, andR_f, orR_t, orR_f, ev_and, ev_or, ev_ife, ev_tup, ev_lst, ev_dct, ev_idx, ev_slc, callR_ok, ev_call, bltR_1, bltR_2, ev_blt, ev_app, ev_dzip, ev_ext, ev_mk, evM_lst, lisR_l, lisR_t, evM_lis, ev_rev, ev_isi, ev_pop, ev_popi, itN_none, putT_nam, putT_tup, putTs_nil, putTs_cons, dat_d, evs_nil, evs_cons, evD_nil, evD_cons, evO_none, intO_int, evO_some, evC_none, evC_some, evI_seq, seqI_str, seqI_list, seqI_tuple, opt1_d, opt2_d, optB_some, opt_map_b, tev_not, tev_and, tev_or, cmpE_d, cmpR_d, tev_cmp, chB_s, cmp0_d, chnR_d, tev_chain, chE_ok, ev_chain, truR_ok, truE_d, truD_bool, truD_int, tev_var, tev_call, tev_blt, isiR_d, tev_isi, tev_idx, putR_some, sv_asg, sv_own, augI_add, augI_sub, sv_aug, augR_int, ownE_list, sv_par, subR_some, sv_sub, sv_exp, sv_ret, sv_ret0, sv_ite, sv_loop, sv_pass, sv_brk, sv_cnt, sv_par3, sv_rais, raisR_d, sv_tryx, catR_ok, catR_err, catC_hit, lamR_ok, lamR_err, lamC_hit, callR_err, evI_zip, zipR_tt, zipR_ll, thenR_nxt, thenR_ret, thenR_err, thenR_brk, thenR_cnt, svs_nil, svs_cons, atI_0, atI_1, atI_2, idxE_d, idxD_t, idxD_l, slcD_t, slcD_l, cut_1, cut_2, add_i, sub_i, lt_i, le_i, gt_i, ge_i, eq_i, ne_i, eq_ss, eq_s_refl, ne_s_refl, len_l, len_t, int_i, tuple_l, tuple_t, list_l, list_t, max2_i, min2_i, finR_d, finR_set, finR_err, finR_app, blt_abs, wp_ok, kf_d, kf_nxt, still_none, finR_nxt, finR_nset, List.length_cons, List.length_nil, List.length_map, Nat.zero_add, Nat.reduceAdd, Nat.reduceLeDiff, Nat.reduceLT, sizeLine_eq, reduceIte, if_true, if_false, Bool.false_eq_true, Bool.not_true, Bool.not_false, decide_true, decide_false, Option.map_some, Bool.true_or, Bool.or_true, Bool.and_true, Bool.true_and, c29, c29_0, c29_1, c29_2, c29_3, c29_4, c29_5, c29_6, hdct, e1, e2, e3, r1, hrv, hrg, a1, a2, e4, e5]
  exact ⟨_, d1, rfl, rfl, rfl, hd1⟩
end
end K50

set_option maxRecDepth 100000
set_option maxHeartbeats 16000000
namespace K50
open PySem L2 Ht PyProof.Rows
section
variable {kinds names : List Str} {gs : List Gd} {s : Say} {S : Sto}
abbrev uD : Say := .two "and" (.unk "other1") (.unk "other2")
abbrev sA (s : Say) : Say := .two "or" uD s
abbrev sB (s : Say) : Say := .two "or" (.not (.two "plus" s uD)) s
theorem err_ok {n : Nat} {z : Say} (hz : z.ok) (hn : z.deep + 13 < n) (hw : z.words ≤ 1000) {gs' : List Gd} {names' : List Str} {x : Exn} (hx : ∀ r : R E, chR 0 1 2 z kinds.length names' gs' S r = .err x [] S) : callF TB 1000 con n 18 [.d z.d, .d (.tuple (txs kinds)), .d (.tuple (txs names')), .d (.tuple (gs'.map Gd.d))] S = .err x [] S := by
  have e := chain_ok (n := n) (kinds := kinds) (names := names') (gs := gs') (s := z) (S := S) VC hz hn hw fun h1 h2 h3 => by
    have h4 := hx (.no)
    unfold chR at h4
    rw [h1, find_none fun y hy => by simpa using h2 y hy, h3] at h4
    simp at h4
  rw [e, hx]
abbrev LL : LD := ⟨54, 0, 2, 1, .lst, [.fld], [(1, .tup, [.con (.str "mark"), .fld]), (2, .tup, [.con (.str "name"), .fld]), (0, .tup, [.con (.str "range"), .fld])]⟩
theorem lam_err {m k : Nat} {e : CE} {Γ Γ' : Gm} {w y : PyData} (hm : 54 < m) (he : ev (Pm m) e Γ S = .err ⟨k, some y⟩ Γ' S) (hk : k = 0 ∧ w = .str "range" ∨ k = 1 ∧ w = .str "mark" ∨ k = 2 ∧ w = .str "name") : ev (Pm m) (.lam LL e) Γ S = .ok (.d (.tuple [w, y])) S := by
  have hl : lvlOk (Pm m) 54 S = true := lvl_ok rfl hm
  rw [ev_lam, he, lamR_err]
  rcases hk with ⟨rfl, rfl⟩ | ⟨rfl, rfl⟩ | ⟨rfl, rfl⟩ <;> simp [LL, hl, lamC, suD, flatX, flatD, sxD, sizeLine_eq]
theorem c30_ok {n c p : Nat} {d : Cell} (V : Sit kinds names gs s) (h3 : names.length ≤ 3) (h1 : names ≠ []) (ho : Str.ofString "other1" ∉ names) (hn : 56 < n) (hS : S[c]? = some d) (hd : Dr p d) (hp : p + 10 ≤ 2 ^ 40) :
    Wp (callF TB 1000 con n 30 [.c c, .d s.d, .d (.tuple (txs kinds)), .d (.list (txs names)), .d (.list (gs.map Gd.d))] S) (Dq c (p + 5) S (· = .bool true)) xNo := by
  obtain ⟨m, rfl⟩ : ∃ m, n = m + 1 := ⟨n - 1, by omega⟩
  refine wp_body (F := F30) rfl rfl ?_
  show Wp (svs (Pm m) c30 [some (.c c), some (.d s.d), some (.d (.tuple (txs kinds))), some (.d (.list (txs names))), some (.d (.list (gs.map Gd.d))), none, none, none, none, none, none, none] S) _ _
  have := V.de
  have := V.k6
  have := V.wo
  have := V.gl
  have hc := lt_at hS
  obtain ⟨r, d1, r0, r1, hd1, hS1, e1⟩ := draw_at (n := m) (fuel := 1000) (con := con) (b := 3) (by omega) t20 hS hd (by omega) (by decide) (by decide)
  obtain ⟨j, rfl⟩ := Int.eq_ofNat_of_zero_le r0
  obtain ⟨far, hfar⟩ : ∃ g : Gd, g = .at' (kinds.length + j) 0 1 := ⟨_, rfl⟩
  have hfd : PyData.tuple [.str "in", .int ((kinds.length : Int) + (j : Int)), .tuple [.int 0, .int 1]] = far.d := by rw [hfar]; simp [Gd.d]
  obtain ⟨fr2, hfr2⟩ : ∃ g : Gd, g = .at' kinds.length 1 2 := ⟨_, rfl⟩
  have hfd2 : PyData.tuple [.str "in", .int (kinds.length : Int), .tuple [.int 1, .int 2]] = fr2.d := by rw [hfr2]; simp [Gd.d]
  have ff : farG kinds.length far = true := by rw [hfar]; simp [farG]
  obtain ⟨ws, hws⟩ : ∃ ws : List Gd, ws = if 1 < names.length then far :: fr2 :: gs.drop 2 else [far] := ⟨_, rfl⟩
  have hw1 : ∃ t, ws = far :: t := by rw [hws]; split <;> exact ⟨_, rfl⟩
  have hso := inm_ok pm_marks V.im
  have oA : (sA s).ok := ⟨by decide +kernel, ⟨by decide +kernel, trivial, trivial⟩, hso⟩
  have oB : (sB s).ok := ⟨by decide +kernel, ⟨by decide +kernel, hso, ⟨by decide +kernel, trivial, trivial⟩⟩, hso⟩
  have hhp := inm_hp V.im
  have gA : ∀ S' : Sto, callF TB 1000 con m 18 [.d (sA s).d, .d (.tuple (txs kinds)), .d (.tuple (txs names)), .d (.tuple (ws.map Gd.d))] S' = .err ⟨2, some (.str "other1")⟩ [] S' := fun S' => err_ok oA (by simp only [Say.deep]; omega) (by simp only [Say.words]; omega) fun r => by
    unfold chR
    have h0 : (sA s).hp = false := by simp [Say.hp, hhp]
    have h2 : (namesL [] [sA s]).find? (fun x => decide (x ∉ names)) = some (Str.ofString "other1") := by
      obtain ⟨t, ht⟩ := names_pre s [Str.ofString "other1", Str.ofString "other2"]
      have : namesL [] [sA s] = Str.ofString "other1" :: Str.ofString "other2" :: t := by
        simp [namesL, Say.names, ht]
      rw [this]
      simp [ho]
    rw [h0, h2]
    rfl
  have gB : ∀ S' : Sto, callF TB 1000 con m 18 [.d (sB s).d, .d (.tuple (txs kinds)), .d (.tuple (txs names)), .d (.tuple (ws.map Gd.d))] S' = .err ⟨1, some (.str "plus")⟩ [] S' := fun S' => err_ok oB (by simp only [Say.deep]; omega) (by simp only [Say.words]; omega) fun r => by
    unfold chR
    have h0 : (sB s).hp = true := by simp [Say.hp]
    rw [h0]
    rfl
  have hin : (namesL [] [s]).find? (fun x => decide (x ∉ names)) = none := find_none fun x hx => by simpa using V.in' x hx
  have gC : ∀ S' : Sto, callF TB 1000 con m 18 [.d s.d, .d (.tuple (txs kinds)), .d (.tuple (txs names)), .d (.tuple (ws.map Gd.d))] S' = .err ⟨0, some far.d⟩ [] S' := fun S' => err_ok hso (by omega) (by omega) fun r => by
    unfold chR
    obtain ⟨t, ht⟩ := hw1
    rw [hhp, hin, ht, List.find?_cons, ff]
    rfl
  have gD : ∀ S' : Sto, callF TB 1000 con m 18 [.d s.d, .d (.tuple (txs kinds)), .d (.tuple (txs (names ++ [Str.ofString "t"]))), .d (.tuple ((gs ++ [far]).map Gd.d))] S' = .err ⟨0, some far.d⟩ [] S' := fun S' => err_ok hso (by omega) (by omega) fun r => by
    unfold chR
    have h2 : (namesL [] [s]).find? (fun x => decide (x ∉ names ++ [Str.ofString "t"])) = none := find_none fun x hx => by
      have := V.in' x hx
      simp [this]
    have h4 : (gs ++ [far]).find? (farG kinds.length) = some far := by
      rw [List.find?_append, find_none fun g hg => gb_far (V.gb g hg)]
      simp [ff]
    rw [hhp, h2, h4]
    rfl
  generalize hFD : far.d = FD at *
  have hA : (sA s).d = .tuple [.str "or", .tuple [.str "and", .tuple [.str "unknown", .str "other1"], .tuple [.str "unknown", .str "other2"]], s.d] := rfl
  have hB : (sB s).d = .tuple [.str "or", .tuple [.str "not", .tuple [.str "plus", s.d, .tuple [.str "and", .tuple [.str "unknown", .str "other1"], .tuple [.str "unknown", .str "other2"]]]], s.d] := rfl
  rw [hA] at gA
  rw [hB] at gB
  have hwd : ws.map Gd.d = if 1 < names.length then FD :: fr2.d :: (gs.map Gd.d).drop 2 else [FD] := by
    rw [hws]
    split
    · simp [hFD]
    · simp [hFD]
  have hne : 0 < names.length := List.length_pos_iff.mpr h1
  have a1 : binD .Add (.list (txs names)) (.list [.str "t"]) = some (.list (txs (names ++ [Str.ofString "t"]))) := by
    rw [add_l, if_pos (by rw [sizeLine_eq]; simp; omega)]
    simp [txs]
  have a2 : binD .Add (.list (gs.map Gd.d)) (.list [FD]) = some (.list ((gs ++ [far]).map Gd.d)) := by
    rw [add_l, if_pos (by rw [sizeLine_eq]; simp; omega)]
    simp [hFD]
  have nFD : Neat FD 3 200 := by
    rw [← hFD, hfar]
    have n2 : Neat (.tuple [.int 0, .int 1]) 2 2 := neat_tup (neatL_cons (b1 := 0) (neat_int (by omega) (by omega)) (neatL_cons (b1 := 0) (neat_int (by omega) (by omega)) (neatL_nil (b := 0))))
    exact (neat_tup (neatL_cons (b1 := 8) (neat_str (by decide)) (neatL_cons (b1 := 0) (neat_int (by omega) (by omega)) (neatL_cons n2 (neatL_nil (b := 0)))))).mono (by omega) (by omega)
  have nR : Neat (.tuple [.str "range", FD]) 4 300 := (neat_tup (neatL_cons (b1 := 8) (neat_str (by decide)) (neatL_cons nFD (neatL_nil (b := 0))))).mono (by omega) (by omega)
  have nN : Neat (.tuple [.str "name", .str "other1"]) 4 300 := (neat_tup (neatL_cons (b1 := 8) (neat_str (by decide)) (neatL_cons (b1 := 8) (neat_str (by decide)) (neatL_nil (n := 2) (b := 0))))).mono (by omega) (by omega)
  have nM : Neat (.tuple [.str "mark", .str "plus"]) 4 300 := (neat_tup (neatL_cons (b1 := 8) (neat_str (by decide)) (neatL_cons (b1 := 8) (neat_str (by decide)) (neatL_nil (n := 2) (b := 0))))).mono (by omega) (by omega)
  have rp := repr_ok ((neat_lst (neatL_cons nN (neatL_cons nM (neatL_cons nR (neatL_cons nR (neatL_nil (b := 0))))))).mono (n' := 180) (b' := 2 ^ 17) (by omega) (by omega))
  have hl : ∀ S', lvlOk (Pm m) 54 S' = true := fun S' => lvl_ok rfl (by omega)
  have hL0 : ∀ y S', lamC [(1, Mk.tup, [SX.con (.str "mark"), SX.fld]), (2, Mk.tup, [SX.con (.str "name"), SX.fld]), (0, Mk.tup, [SX.con (.str "range"), SX.fld])] ⟨0, some y⟩ S' = .ok (.d (.tuple [.str "range", y])) S' := fun y S' => by simp [lamC, suD, flatX, flatD, sxD, sizeLine_eq]
  have hL1 : ∀ y S', lamC [(1, Mk.tup, [SX.con (.str "mark"), SX.fld]), (2, Mk.tup, [SX.con (.str "name"), SX.fld]), (0, Mk.tup, [SX.con (.str "range"), SX.fld])] ⟨1, some y⟩ S' = .ok (.d (.tuple [.str "mark", y])) S' := fun y S' => by simp [lamC, suD, flatX, flatD, sxD, sizeLine_eq]
  have hL2 : ∀ y S', lamC [(1, Mk.tup, [SX.con (.str "mark"), SX.fld]), (2, Mk.tup, [SX.con (.str "name"), SX.fld]), (0, Mk.tup, [SX.con (.str "range"), SX.fld])] ⟨2, some y⟩ S' = .ok (.d (.tuple [.str "name", y])) S' := fun y S' => by simp [lamC, suD, flatX, flatD, sxD, sizeLine_eq]
  have hlen : (S.set c d1).length = S.length := by simp
  have hi : ∀ xs, isLst (.c S.length) (S.set c d1 ++ [.lst xs]) = true := fun xs => isLst_at (get_last hlen.symm)
  have ha : ∀ xs y, xs.length < 1000 → appE (.c S.length) (.d y) (S.set c d1 ++ [.lst xs]) = .ok (.d .none) (S.set c d1 ++ [.lst (xs ++ [y])]) := fun xs y h => by
    rw [app_at (get_last hlen.symm) (by rw [sizeLine_eq]; omega), set_last hlen.symm]
  have hb : ∀ xs, bltR .repr [.c S.length] (S.set c d1 ++ [.lst xs]) = opt (bltD .repr [.list xs]) (S.set c d1 ++ [.lst xs]) := fun xs => blt_c (get_last hlen.symm)
  have hcut : cutA (gs.map Gd.d) (some 2) none = (gs.map Gd.d).drop 2 := cut_lo (by decide)
  by_cases hq : 1 < names.length
  · have hq1 : (1 : Int) < (gs.length : Int) := by omega
    have a3 : binD .Add (.list [FD, fr2.d]) (.list ((gs.map Gd.d).drop 2)) = some (.list (ws.map Gd.d)) := by
      rw [add_l, if_pos (by rw [sizeLine_eq]; simp; omega), hwd, if_pos hq]
      rfl
    simp only [tk_set, tk_app, tk_sapp, tk_self, List.set_set, R.bind_ok, R.bind_err, R.calm_ok, opt_some, varR_0, varR_s, setG_0, setG_s, wipeG_nil, wipeG_cons, ev_var, ev_con, ev_glo, ev_bin, ev_neg, ev_cmp, ev_not, andR_t, andR_f, orR_t, orR_f, ev_and, ev_or, ev_ife, ev_tup, ev_lst, ev_dct, ev_idx, ev_slc, callR_ok, ev_call, bltR_1, bltR_2, ev_blt, ev_app, ev_dzip, ev_ext, ev_mk, evM_lst, lisR_l, lisR_t, evM_lis, ev_rev, ev_isi, ev_pop, ev_popi, itN_none, putT_nam, putT_tup, putTs_nil, putTs_cons, dat_d, evs_nil, evs_cons, evD_nil, evD_cons, evO_none, intO_int, evO_some, evC_none, evC_some, evI_seq, seqI_str, seqI_list, seqI_tuple, opt1_d, opt2_d, optB_some, opt_map_b, tev_not, tev_and, tev_or, cmpE_d, cmpR_d, tev_cmp, chB_s, cmp0_d, chnR_d, tev_chain, chE_ok, ev_chain, truR_ok, truE_d, truD_bool, truD_int, tev_var, tev_call, tev_blt, isiR_d, tev_isi, tev_idx, putR_some, sv_asg, sv_own, augI_add, augI_sub, sv_aug, augR_int, ownE_list, sv_par, subR_some, sv_sub, sv_exp, sv_ret, sv_ret0, sv_ite, sv_loop, sv_pass, sv_brk, sv_cnt, sv_par3, sv_rais, raisR_d, sv_tryx, catR_ok, catR_err, catC_hit, lamR_ok, lamR_err, lamC_hit, callR_err, evI_zip, zipR_tt, zipR_ll, thenR_nxt, thenR_ret, thenR_err, thenR_brk, thenR_cnt, svs_nil, svs_cons, atI_0, atI_1, atI_2, idxE_d, idxD_t, idxD_l, slcD_t, slcD_l, cut_1, cut_2, add_i, sub_i, lt_i, le_i, gt_i, ge_i, eq_i, ne_i, eq_ss, eq_s_refl, ne_s_refl, len_l, len_t, int_i, tuple_l, tuple_t, list_l, list_t, max2_i, min2_i, finR_d, finR_set, finR_err, finR_app, blt_abs, wp_ok, kf_d, kf_nxt, still_none, finR_nxt, finR_nset, List.length_cons, List.length_nil, List.set_cons_succ, List.set_cons_zero, List.length_map, List.length_set, List.nil_append, List.cons_append, List.append_nil, Nat.zero_add, Nat.reduceAdd, Nat.reduceLeDiff, Nat.reduceLT, sizeLine_eq, reduceIte, if_true, if_false, Bool.false_eq_true, Bool.not_true, Bool.not_false, decide_true, decide_false, Option.map_some, Bool.true_or, Bool.or_true, Bool.and_true, Bool.true_and, c30, c30_0, c30_1, c30_2, c30_3, c30_4, c30_5, c30_6, c30_7, e1, hfd, hfd2, hq1, hcut, a3, ev_lam, evM_lc, lcR, lc1, hl, hL0, hL1, hL2, gA, gB, gC, gD, a1, a2, hi, ha, hb, rp]
    exact ⟨_, d1, rfl, rfl, rfl, hd1.mono (by omega)⟩
  · have hq1 : ¬ (1 : Int) < (gs.length : Int) := by omega
    have a3 : ws.map Gd.d = [FD] := by rw [hwd, if_neg hq]
    rw [a3] at gA gB gC
    simp only [tk_set, tk_app, tk_sapp, tk_self, List.set_set, R.bind_ok, R.bind_err, R.calm_ok, opt_some, varR_0, varR_s, setG_0, setG_s, wipeG_nil, wipeG_cons, ev_var, ev_con, ev_glo, ev_bin, ev_neg, ev_cmp, ev_not, andR_t, andR_f, orR_t, orR_f, ev_and, ev_or, ev_ife, ev_tup, ev_lst, ev_dct, ev_idx, ev_slc, callR_ok, ev_call, bltR_1, bltR_2, ev_blt, ev_app, ev_dzip, ev_ext, ev_mk, evM_lst, lisR_l, lisR_t, evM_lis, ev_rev, ev_isi, ev_pop, ev_popi, itN_none, putT_nam, putT_tup, putTs_nil, putTs_cons, dat_d, evs_nil, evs_cons, evD_nil, evD_cons, evO_none, intO_int, evO_some, evC_none, evC_some, evI_seq, seqI_str, seqI_list, seqI_tuple, opt1_d, opt2_d, optB_some, opt_map_b, tev_not, tev_and, tev_or, cmpE_d, cmpR_d, tev_cmp, chB_s, cmp0_d, chnR_d, tev_chain, chE_ok, ev_chain, truR_ok, truE_d, truD_bool, truD_int, tev_var, tev_call, tev_blt, isiR_d, tev_isi, tev_idx, putR_some, sv_asg, sv_own, augI_add, augI_sub, sv_aug, augR_int, ownE_list, sv_par, subR_some, sv_sub, sv_exp, sv_ret, sv_ret0, sv_ite, sv_loop, sv_pass, sv_brk, sv_cnt, sv_par3, sv_rais, raisR_d, sv_tryx, catR_ok, catR_err, catC_hit, lamR_ok, lamR_err, lamC_hit, callR_err, evI_zip, zipR_tt, zipR_ll, thenR_nxt, thenR_ret, thenR_err, thenR_brk, thenR_cnt, svs_nil, svs_cons, atI_0, atI_1, atI_2, idxE_d, idxD_t, idxD_l, slcD_t, slcD_l, cut_1, cut_2, add_i, sub_i, lt_i, le_i, gt_i, ge_i, eq_i, ne_i, eq_ss, eq_s_refl, ne_s_refl, len_l, len_t, int_i, tuple_l, tuple_t, list_l, list_t, max2_i, min2_i, finR_d, finR_set, finR_err, finR_app, blt_abs, wp_ok, kf_d, kf_nxt, still_none, finR_nxt, finR_nset, List.length_cons, List.length_nil, List.set_cons_succ, List.set_cons_zero, List.length_map, List.length_set, List.nil_append, List.cons_append, List.append_nil, Nat.zero_add, Nat.reduceAdd, Nat.reduceLeDiff, Nat.reduceLT, sizeLine_eq, reduceIte, if_true, if_false, Bool.false_eq_true, Bool.not_true, Bool.not_false, decide_true, decide_false, Option.map_some, Bool.true_or, Bool.or_true, Bool.and_true, Bool.true_and, c30, c30_0, c30_1, c30_2, c30_3, c30_4, c30_5, c30_6, c30_7, e1, hfd, hfd2, hq1, ev_lam, evM_lc, lcR, lc1, hl, hL0, hL1, hL2, gA, gB, gC, gD, a1, a2, hi, ha, hb, rp]
    exact ⟨_, d1, rfl, rfl, rfl, hd1.mono (by omega)⟩
end
end K50

set_option maxRecDepth 100000
set_option maxHeartbeats 16000000
namespace K50
open PySem L2 Ht PyProof.Rows
abbrev inb : CSs := (.cons (.asg (.tup (.cons (.nam 5) (.cons (.nam 6) .nil))) (.tup (.cons (.call 23 (.cons (.var 2) (.cons (.var 3) (.cons (.call 20 (.cons (.var 2) (.cons (.con (.int 9)) .nil))) .nil)))) (.cons (.call 28 (.cons (.var 2) (.cons (.con (.int 6)) .nil))) .nil)))) (.cons (.asg (.nam 7) (.lc (.call 27 (.cons (.var 2) (.cons (.ife (.cmp .Eq (.call 20 (.cons (.var 2) (.cons (.con (.int 2)) .nil))) (.con (.int 0))) (.blt .len (.cons (.var 6) .nil)) (.con (.int 1))) .nil))) (.nam 8) (.seq (.var 3)) .none [8])) (.cons (.ite (.not (.call 29 (.cons (.var 2) (.cons (.var 5) (.cons (.var 6) (.cons (.var 3) (.cons (.var 7) .nil))))))) (.cons (.ret (.con (.bool false))) .nil) .nil) (.cons (.ite (.not (.call 30 (.cons (.var 2) (.cons (.var 5) (.cons (.var 6) (.cons (.var 3) (.cons (.var 7) .nil))))))) (.cons (.ret (.con (.bool false))) .nil) .nil) .nil))))
abbrev otb : CSs := (.cons (.asg (.nam 2) (.call 19 (.cons (.var 0) (.cons (.var 1) .nil)))) (.cons (.asg (.nam 3) (.slc (.call 21 (.cons (.var 2) (.cons (.lst (.cons (.lst (.cons (.con (.str "x")) (.cons (.con (.str "y")) (.cons (.con (.str "z")) .nil)))) (.cons (.lst (.cons (.con (.str "q7")) (.cons (.con (.str "b")) (.cons (.con (.str "abcdefgh")) .nil)))) .nil))) .nil))) .none (.some (.bin .Add (.con (.int 1)) (.call 20 (.cons (.var 2) (.cons (.con (.int 3)) .nil))))))) (.cons (.loop (.nam 4) (.rng1 (.con (.int 3))) inb) .nil)))
theorem inm_mono {M M' : List Str} (h : ∀ x ∈ M, x ∈ M') : ∀ {s : Say}, s.inm M → s.inm M'
  | .yes, _ => trivial
  | .no, _ => trivial
  | .unk _, _ => trivial
  | .not a, q => inm_mono h (s := a) q
  | .two m a b, q => ⟨h _ q.1, inm_mono h q.2.1, inm_mono h q.2.2⟩
theorem gds_of {kinds : List Str} {ys : List PyData} (h : ∀ y ∈ ys, ∃ g : Gd, y = g.d ∧ GB kinds 1 g) : ∃ gs : List Gd, ys = gs.map Gd.d ∧ ∀ g ∈ gs, GB kinds 1 g := by
  induction ys with
  | nil => exact ⟨[], rfl, by simp⟩
  | cons y ys ih =>
    obtain ⟨g, rfl, hg⟩ := h y List.mem_cons_self
    obtain ⟨gs, rfl, hgs⟩ := ih fun z hz => h z (List.mem_cons_of_mem _ hz)
    exact ⟨g :: gs, rfl, fun z hz => by
      rcases List.mem_cons.mp hz with rfl | hz
      · exact hg
      · exact hgs z hz⟩
theorem in_turn {c p : Nat} {d : Cell} {S : Sto} {names : List Str} {x : PyData} {a0 a1 o4 o5 o6 o7 o8 : Option E} (nd : names.Nodup) (h3 : names.length ≤ 3) (h1 : names ≠ []) (ho : Str.ofString "other1" ∉ names) (hS : S[c]? = some d) (hd : Dr p d) (hp : p + 200 ≤ 2 ^ 40) :
    Wp (lp1 (Pm 59) (.nam 4) inb x [a0, a1, some (.c c), some (.d (.list (txs names))), o4, o5, o6, o7, o8] S) (fun fl S' => ∃ o4 o5 o6 o7 o8 d', fl = .nxt [a0, a1, some (.c c), some (.d (.list (txs names))), o4, o5, o6, o7, o8] ∧ S' = S.set c d' ∧ Dr (p + 200) d') xNo := by
  obtain ⟨r, d1, r0, r1, hd1, hS1, e1⟩ := draw_at (n := 59) (fuel := 1000) (con := con) (b := 9) (by omega) t20 hS hd (by omega) (by decide) (by decide)
  obtain ⟨j, rfl⟩ := Int.eq_ofNat_of_zero_le r0
  obtain ⟨s, d2, im, ov, de, wo, cn, lv, hd2, e2⟩ := sayG_ok (T := TB) (fuel := 1000) (con := con) (mk := .list) (.inl rfl) (by simp) (by simp) t20 t21 t23 (by decide) (by decide) j (n := 59) (names := names) (by omega) (by omega) hS1 hd1 (by omega) h1 (by omega)
  obtain ⟨kinds, d3, kv, k0, k6, hd3, e3⟩ := kinds_ok (T := TB) (fuel := 1000) (con := con) (b := 6) (n := 59) t20 t21 t28 (by omega) (by omega) (by omega) (set_at (z' := d2) hS1) hd2 (by omega)
  simp only [List.set_set, Int.cast_ofNat_Int] at e2 e3
  have hI : ∀ o5 o6, evI (Pm 59) (.seq (.var 3)) [a0, a1, some (.c c), some (.d (.list (txs names))), some (.d x), o5, o6, o7, o8] (S.set c d3) = .ok ⟨txs names, none⟩ (S.set c d3) := fun o5 o6 => by simp
  obtain ⟨ys, d4, q1, q2, hd4, e4⟩ := lcR_draw (f := lc1 (Pm 59) (.call 27 (.cons (.var 2) (.cons (.ife (.cmp .Eq (.call 20 (.cons (.var 2) (.cons (.con (.int 2)) .nil))) (.con (.int 0))) (.blt .len (.cons (.var 6) .nil)) (.con (.int 1))) .nil))) (.nam 8) .none [a0, a1, some (.c c), some (.d (.list (txs names))), some (.d x), some (.d s.d), some (.d (.tuple (txs kinds))), o7, none]) (Gd := fun y => ∃ g : Gd, y = g.d ∧ GB kinds 1 g) (c := c) (k := 6) (B := 1099511627700) (txs names) [] (S.set c d3) d3 (p + 100) (by
    intro y hy S d p hS hd hp
    obtain ⟨r, d1, r0, r1, hd1, hS1, e1⟩ := draw_at (n := 59) (fuel := 1000) (con := con) (b := 2) (by omega) t20 hS hd (by omega) (by decide) (by decide)
    have main : ∀ b : Nat, 0 < b → b ≤ kinds.length → ∃ (g : Gd) (d' : Cell), GB kinds 1 g ∧ Dr (p + 6) d' ∧ callF TB 1000 con 59 27 [.c c, .d (.int b)] (S.set c d1) = .ok (.d g.d) (S.set c d') := fun b h0 h1 => by
      obtain ⟨g, d2, g1, g2, hd2, e2⟩ := lgrade_ok (con := con) (n := 59) (b := b) t20 t21 t22 t27 h0 (by omega) (by omega) hS1 hd1 (by omega)
      rw [List.set_set] at e2
      exact ⟨g, d2, g1 kinds h1, hd2.mono (by omega), e2⟩
    by_cases q : r = 0
    · subst q
      obtain ⟨g, d2, g1, hd2, e2⟩ := main kinds.length k0 (Nat.le_refl _)
      exact ⟨g.d, d2, ⟨g, rfl, g1⟩, hd2, by simp [lc1, e1, e2]⟩
    · obtain ⟨g, d2, g1, hd2, e2⟩ := main 1 (by omega) k0
      simp only [Int.natCast_one] at e2
      exact ⟨g.d, d2, ⟨g, rfl, g1⟩, hd2, by simp [lc1, e1, e2, q]⟩) (set_at hS) (hd3.mono (by omega)) (by simp; omega) (by rw [sizeLine_eq]; simp; omega)
  obtain ⟨gs, rfl, gb⟩ := gds_of q1
  rw [List.nil_append, List.set_set] at e4
  have V : Sit kinds names gs s := ⟨kv, k0, k6, nd, by omega, by simpa using q2, gb, inm_mono (by decide +kernel) im, ov, by omega, by omega, by omega⟩
  have hd4' : Dr (p + 120) d4 := hd4.mono (by simp; omega)
  have e5 := c29_ok V h3 ho (n := 59) (by omega) (set_at (z' := d4) hS) hd4' (by omega)
  have e6 := fun d' (h : Dr (p + 120 + 5) d') => c30_ok V h3 h1 ho (n := 59) (by omega) (set_at (z' := d') hS) h (by omega)
  have hlc := lc_ev (own := [8]) (hI (some (.d s.d)) (some (.d (.tuple (txs kinds))))) e4
  simp only [tk_set, tk_app, tk_sapp, tk_self, List.set_set, R.bind_ok, R.bind_err, R.calm_ok, opt_some, varR_0, varR_s, setG_0, setG_s, wipeG_nil, wipeG_cons, ev_var, ev_con, ev_glo, ev_bin, ev_neg, ev_cmp, ev_not, andR_t, andR_f, orR_t, orR_f, ev_and, ev_or, ev_ife, ev_tup, ev_lst, ev_dct, ev_idx, ev_slc, callR_ok, ev_call, bltR_1, bltR_2, ev_blt, ev_app, ev_dzip, ev_ext, ev_mk, evM_lst, lisR_l, lisR_t, evM_lis, ev_rev, ev_isi, ev_pop, ev_popi, itN_none, putT_nam, putT_tup, putTs_nil, putTs_cons, dat_d, evs_nil, evs_cons, evD_nil, evD_cons, evO_none, intO_int, evO_some, evC_none, evC_some, evI_seq, seqI_str, seqI_list, seqI_tuple, opt1_d, opt2_d, optB_some, opt_map_b, tev_not, tev_and, tev_or, cmpE_d, cmpR_d, tev_cmp, chB_s, cmp0_d, chnR_d, tev_chain, chE_ok, ev_chain, truR_ok, truE_d, truD_bool, truD_int, tev_var, tev_call, tev_blt, isiR_d, tev_isi, tev_idx, putR_some, sv_asg, sv_own, augI_add, augI_sub, sv_aug, augR_int, ownE_list, sv_par, subR_some, sv_sub, sv_exp, sv_ret, sv_ret0, sv_ite, sv_loop, sv_pass, sv_brk, sv_cnt, sv_par3, sv_rais, raisR_d, sv_tryx, catR_ok, catR_err, catC_hit, lamR_ok, lamR_err, lamC_hit, callR_err, evI_zip, zipR_tt, zipR_ll, thenR_nxt, thenR_ret, thenR_err, thenR_brk, thenR_cnt, svs_nil, svs_cons, atI_0, atI_1, atI_2, idxE_d, idxD_t, idxD_l, slcD_t, slcD_l, cut_1, cut_2, add_i, sub_i, lt_i, le_i, gt_i, ge_i, eq_i, ne_i, eq_ss, eq_s_refl, ne_s_refl, len_l, len_t, int_i, tuple_l, tuple_t, list_l, list_t, max2_i, min2_i, finR_d, finR_set, finR_err, finR_app, blt_abs, wp_ok, kf_d, kf_nxt, still_none, finR_nxt, finR_nset, List.length_cons, List.length_nil, List.set_cons_succ, List.set_cons_zero, List.length_map, List.length_set, List.nil_append, List.cons_append, List.append_nil, Nat.zero_add, Nat.reduceAdd, Nat.reduceLeDiff, Nat.reduceLT, sizeLine_eq, reduceIte, if_true, if_false, Bool.false_eq_true, Bool.not_true, Bool.not_false, decide_true, decide_false, Option.map_some, Option.bind_some, Bool.true_or, Bool.or_true, Bool.and_true, Bool.true_and, lp1, inb, e1, e2, e3, hlc]
  repeat (first | rw [wp_then_eq] | rw [wp_bind_eq] | rw [wp_call_eq] | rw [wp_tru_eq])
  refine wp_dq e5 fun v d5 hv hd5 => ?_
  subst hv
  simp only [tk_set, tk_app, tk_sapp, tk_self, List.set_set, R.bind_ok, R.bind_err, R.calm_ok, opt_some, varR_0, varR_s, setG_0, setG_s, wipeG_nil, wipeG_cons, ev_var, ev_con, ev_glo, ev_bin, ev_neg, ev_cmp, ev_not, andR_t, andR_f, orR_t, orR_f, ev_and, ev_or, ev_ife, ev_tup, ev_lst, ev_dct, ev_idx, ev_slc, callR_ok, ev_call, bltR_1, bltR_2, ev_blt, ev_app, ev_dzip, ev_ext, ev_mk, evM_lst, lisR_l, lisR_t, evM_lis, ev_rev, ev_isi, ev_pop, ev_popi, itN_none, putT_nam, putT_tup, putTs_nil, putTs_cons, dat_d, evs_nil, evs_cons, evD_nil, evD_cons, evO_none, intO_int, evO_some, evC_none, evC_some, evI_seq, seqI_str, seqI_list, seqI_tuple, opt1_d, opt2_d, optB_some, opt_map_b, tev_not, tev_and, tev_or, cmpE_d, cmpR_d, tev_cmp, chB_s, cmp0_d, chnR_d, tev_chain, chE_ok, ev_chain, truR_ok, truE_d, truD_bool, truD_int, tev_var, tev_call, tev_blt, isiR_d, tev_isi, tev_idx, putR_some, sv_asg, sv_own, augI_add, augI_sub, sv_aug, augR_int, ownE_list, sv_par, subR_some, sv_sub, sv_exp, sv_ret, sv_ret0, sv_ite, sv_loop, sv_pass, sv_brk, sv_cnt, sv_par3, sv_rais, raisR_d, sv_tryx, catR_ok, catR_err, catC_hit, lamR_ok, lamR_err, lamC_hit, callR_err, evI_zip, zipR_tt, zipR_ll, thenR_nxt, thenR_ret, thenR_err, thenR_brk, thenR_cnt, svs_nil, svs_cons, atI_0, atI_1, atI_2, idxE_d, idxD_t, idxD_l, slcD_t, slcD_l, cut_1, cut_2, add_i, sub_i, lt_i, le_i, gt_i, ge_i, eq_i, ne_i, eq_ss, eq_s_refl, ne_s_refl, len_l, len_t, int_i, tuple_l, tuple_t, list_l, list_t, max2_i, min2_i, finR_d, finR_set, finR_err, finR_app, blt_abs, wp_ok, kf_d, kf_nxt, still_none, finR_nxt, finR_nset, List.length_cons, List.length_nil, List.set_cons_succ, List.set_cons_zero, List.length_map, List.length_set, List.nil_append, List.cons_append, List.append_nil, Nat.zero_add, Nat.reduceAdd, Nat.reduceLeDiff, Nat.reduceLT, sizeLine_eq, reduceIte, if_true, if_false, Bool.false_eq_true, Bool.not_true, Bool.not_false, decide_true, decide_false, Option.map_some, Option.bind_some, Bool.true_or, Bool.or_true, Bool.and_true, Bool.true_and]
  repeat (first | rw [wp_then_eq] | rw [wp_bind_eq] | rw [wp_call_eq] | rw [wp_tru_eq])
  refine wp_dq (e6 d5 hd5) fun v d6 hv hd6 => ?_
  subst hv
  simp only [tk_set, tk_app, tk_sapp, tk_self, List.set_set, R.bind_ok, R.bind_err, R.calm_ok, opt_some, varR_0, varR_s, setG_0, setG_s, wipeG_nil, wipeG_cons, ev_var, ev_con, ev_glo, ev_bin, ev_neg, ev_cmp, ev_not, andR_t, andR_f, orR_t, orR_f, ev_and, ev_or, ev_ife, ev_tup, ev_lst, ev_dct, ev_idx, ev_slc, callR_ok, ev_call, bltR_1, bltR_2, ev_blt, ev_app, ev_dzip, ev_ext, ev_mk, evM_lst, lisR_l, lisR_t, evM_lis, ev_rev, ev_isi, ev_pop, ev_popi, itN_none, putT_nam, putT_tup, putTs_nil, putTs_cons, dat_d, evs_nil, evs_cons, evD_nil, evD_cons, evO_none, intO_int, evO_some, evC_none, evC_some, evI_seq, seqI_str, seqI_list, seqI_tuple, opt1_d, opt2_d, optB_some, opt_map_b, tev_not, tev_and, tev_or, cmpE_d, cmpR_d, tev_cmp, chB_s, cmp0_d, chnR_d, tev_chain, chE_ok, ev_chain, truR_ok, truE_d, truD_bool, truD_int, tev_var, tev_call, tev_blt, isiR_d, tev_isi, tev_idx, putR_some, sv_asg, sv_own, augI_add, augI_sub, sv_aug, augR_int, ownE_list, sv_par, subR_some, sv_sub, sv_exp, sv_ret, sv_ret0, sv_ite, sv_loop, sv_pass, sv_brk, sv_cnt, sv_par3, sv_rais, raisR_d, sv_tryx, catR_ok, catR_err, catC_hit, lamR_ok, lamR_err, lamC_hit, callR_err, evI_zip, zipR_tt, zipR_ll, thenR_nxt, thenR_ret, thenR_err, thenR_brk, thenR_cnt, svs_nil, svs_cons, atI_0, atI_1, atI_2, idxE_d, idxD_t, idxD_l, slcD_t, slcD_l, cut_1, cut_2, add_i, sub_i, lt_i, le_i, gt_i, ge_i, eq_i, ne_i, eq_ss, eq_s_refl, ne_s_refl, len_l, len_t, int_i, tuple_l, tuple_t, list_l, list_t, max2_i, min2_i, finR_d, finR_set, finR_err, finR_app, blt_abs, wp_ok, kf_d, kf_nxt, still_none, finR_nxt, finR_nset, List.length_cons, List.length_nil, List.set_cons_succ, List.set_cons_zero, List.length_map, List.length_set, List.nil_append, List.cons_append, List.append_nil, Nat.zero_add, Nat.reduceAdd, Nat.reduceLeDiff, Nat.reduceLT, sizeLine_eq, reduceIte, if_true, if_false, Bool.false_eq_true, Bool.not_true, Bool.not_false, decide_true, decide_false, Option.map_some, Option.bind_some, Bool.true_or, Bool.or_true, Bool.and_true, Bool.true_and]
  exact ⟨_, _, _, _, _, d6, rfl, rfl, hd6.mono (by omega)⟩
theorem rg_at {k : Nat} {n : Nat} {x : PyData} (h : (rangeD 0 n)[k]? = some x) : k < n ∧ x = .int k := by
  unfold rangeD at h
  rw [List.getElem?_map, Option.map_eq_some_iff] at h
  obtain ⟨j, h1, h2⟩ := h
  have hl := (List.getElem?_eq_some_iff.mp h1).1
  rw [List.length_range] at hl
  rw [List.getElem?_range hl] at h1
  cases h1
  exact ⟨hl, by rw [← h2]; simp⟩
abbrev nmA : List Str := ["x", "y", "z"]
abbrev nmB : List Str := ["q7", "b", "abcdefgh"]
theorem nm_ok {z : Nat} (h0 : 0 < z) (h3 : z ≤ 3) {N : List Str} (h : N = nmA ∨ N = nmB) : (N.take z).Nodup ∧ (N.take z).length ≤ 3 ∧ N.take z ≠ [] ∧ Str.ofString "other1" ∉ N.take z := by
  rcases h with rfl | rfl
  · rcases (by omega : z = 1 ∨ z = 2 ∨ z = 3) with rfl | rfl | rfl <;> exact ⟨by decide +kernel, by simp, by simp, by decide +kernel⟩
  · rcases (by omega : z = 1 ∨ z = 2 ∨ z = 3) with rfl | rfl | rfl <;> exact ⟨by decide +kernel, by simp, by simp, by decide +kernel⟩
theorem law_turn {k : Nat} {ns : List Int} {S : Sto} {o1 o2 o3 o4 o5 o6 o7 o8 : Option E} (hl : ns.length ≤ 63) (hk : k < 2) :
    Wp (lp1 (Pm 59) (.nam 1) otb (.int k) [some (.d (.list (ns.map .int))), o1, o2, o3, o4, o5, o6, o7, o8] S) (fun fl S' => ∃ o1 o2 o3 o4 o5 o6 o7 o8 more, fl = .nxt [some (.d (.list (ns.map .int))), o1, o2, o3, o4, o5, o6, o7, o8] ∧ S' = S ++ more) xNo := by
  obtain ⟨d0, hd0, e0⟩ := begun_at (T := TB) (fuel := 1000) (con := con) (n := 59) (kb := 19) (S := S) (ns := ns) (k := k) (by omega) t19 hl (by omega)
  have g0 : (S ++ [d0])[S.length]? = some d0 := get_last rfl
  obtain ⟨N, hN, d1, hd1, g1, e1⟩ : ∃ N : List Str, (N = nmA ∨ N = nmB) ∧ ∃ d1, Dr 1 d1 ∧ (S ++ [d1])[S.length]? = some d1 ∧ callF TB 1000 con 59 21 [.c S.length, .d (.list [.list [.str "x", .str "y", .str "z"], .list [.str "q7", .str "b", .str "abcdefgh"]])] (S ++ [d0]) = .ok (.d (.list (txs N))) (S ++ [d1]) := by
    obtain ⟨x, hx, d1, hd1, hS1, e1⟩ := of_at (n := 59) (fuel := 1000) (con := con) (mk := .list) (xs := [.list (txs nmA), .list (txs nmB)]) (.inl rfl) (by omega) t20 t21 g0 hd0 (by omega) (by simp) (by simp)
    rw [set_last rfl] at e1 hS1
    simp only [List.mem_cons, List.not_mem_nil, or_false] at hx
    rcases hx with rfl | rfl
    · exact ⟨nmA, .inl rfl, d1, hd1, hS1, e1⟩
    · exact ⟨nmB, .inr rfl, d1, hd1, hS1, e1⟩
  obtain ⟨r, d2, r0, r1, hd2, hS2, e2⟩ := draw_at (n := 59) (fuel := 1000) (con := con) (b := 3) (by omega) t20 g1 hd1 (by omega) (by decide) (by decide)
  rw [set_last rfl] at e2 hS2
  obtain ⟨j, rfl⟩ := Int.eq_ofNat_of_zero_le r0
  have ej : (1 : Int) + (j : Int) = ((j + 1 : Nat) : Int) := by omega
  have hcut : cutA (txs N) none (some ((j + 1 : Nat) : Int)) = txs (N.take (j + 1)) := by
    rw [cut_hi (by omega), Int.toNat_natCast]
    simp [txs]
  obtain ⟨nd, h3, h1, ho⟩ := nm_ok (z := j + 1) (by omega) (by omega) hN
  have hI : ∀ Γ S', evI (Pm 59) (.rng1 (.con (.int 3))) Γ S' = .ok ⟨rangeD 0 3, none⟩ S' := fun Γ S' => rng_ev rfl (by omega)
  generalize hn : N.take (j + 1) = names at *
  simp only [tk_set, tk_app, tk_sapp, tk_self, List.set_set, R.bind_ok, R.bind_err, R.calm_ok, opt_some, varR_0, varR_s, setG_0, setG_s, wipeG_nil, wipeG_cons, ev_var, ev_con, ev_glo, ev_bin, ev_neg, ev_cmp, ev_not, andR_t, andR_f, orR_t, orR_f, ev_and, ev_or, ev_ife, ev_tup, ev_lst, ev_dct, ev_idx, ev_slc, callR_ok, ev_call, bltR_1, bltR_2, ev_blt, ev_app, ev_dzip, ev_ext, ev_mk, evM_lst, lisR_l, lisR_t, evM_lis, ev_rev, ev_isi, ev_pop, ev_popi, itN_none, putT_nam, putT_tup, putTs_nil, putTs_cons, dat_d, evs_nil, evs_cons, evD_nil, evD_cons, evO_none, intO_int, evO_some, evC_none, evC_some, evI_seq, seqI_str, seqI_list, seqI_tuple, opt1_d, opt2_d, optB_some, opt_map_b, tev_not, tev_and, tev_or, cmpE_d, cmpR_d, tev_cmp, chB_s, cmp0_d, chnR_d, tev_chain, chE_ok, ev_chain, truR_ok, truE_d, truD_bool, truD_int, tev_var, tev_call, tev_blt, isiR_d, tev_isi, tev_idx, putR_some, sv_asg, sv_own, augI_add, augI_sub, sv_aug, augR_int, ownE_list, sv_par, subR_some, sv_sub, sv_exp, sv_ret, sv_ret0, sv_ite, sv_loop, sv_pass, sv_brk, sv_cnt, sv_par3, sv_rais, raisR_d, sv_tryx, catR_ok, catR_err, catC_hit, lamR_ok, lamR_err, lamC_hit, callR_err, evI_zip, zipR_tt, zipR_ll, thenR_nxt, thenR_ret, thenR_err, thenR_brk, thenR_cnt, svs_nil, svs_cons, atI_0, atI_1, atI_2, idxE_d, idxD_t, idxD_l, slcD_t, slcD_l, cut_1, cut_2, add_i, sub_i, lt_i, le_i, gt_i, ge_i, eq_i, ne_i, eq_ss, eq_s_refl, ne_s_refl, len_l, len_t, int_i, tuple_l, tuple_t, list_l, list_t, max2_i, min2_i, finR_d, finR_set, finR_err, finR_app, blt_abs, wp_ok, kf_d, kf_nxt, still_none, finR_nxt, finR_nset, List.length_cons, List.length_nil, List.set_cons_succ, List.set_cons_zero, List.length_map, List.length_set, List.nil_append, List.cons_append, List.append_nil, Nat.zero_add, Nat.reduceAdd, Nat.reduceLeDiff, Nat.reduceLT, sizeLine_eq, reduceIte, if_true, if_false, Bool.false_eq_true, Bool.not_true, Bool.not_false, decide_true, decide_false, Option.map_some, Option.bind_some, Bool.true_or, Bool.or_true, Bool.and_true, Bool.true_and, lp1, otb, e0, e1, e2, ej, hcut, hI]
  repeat (first | rw [wp_then_eq] | rw [wp_bind_eq] | rw [wp_call_eq] | rw [wp_tru_eq])
  refine wp_use (wp_for (fun i Γ S' => ∃ o4 o5 o6 o7 o8 d', Γ = [some (.d (.list (ns.map .int))), some (.d (.int k)), some (.c S.length), some (.d (.list (txs names))), o4, o5, o6, o7, o8] ∧ S' = S ++ [d'] ∧ Dr (2 + 200 * i) d') (QF := fun fl S' => ∃ o4 o5 o6 o7 o8 d', fl = .nxt [some (.d (.list (ns.map .int))), some (.d (.int k)), some (.c S.length), some (.d (.list (txs names))), o4, o5, o6, o7, o8] ∧ S' = S ++ [d']) (rangeD 0 3) 0 ⟨_, _, _, _, _, d2, rfl, rfl, hd2⟩ ?_ ?_) ?_
  · rintro i x Γ S' hx ⟨o4, o5, o6, o7, o8, d', rfl, rfl, hd'⟩
    obtain ⟨hi, rfl⟩ := rg_at hx
    refine wp_imp (in_turn nd h3 h1 ho (get_last rfl) hd' (by omega)) ?_
    rintro fl S' ⟨o4, o5, o6, o7, o8, d'', rfl, rfl, hd''⟩
    rw [set_last rfl]
    exact ⟨trivial, _, _, _, _, _, d'', rfl, rfl, hd''.mono (by omega)⟩
  · rintro Γ S' ⟨o4, o5, o6, o7, o8, d', rfl, rfl, hd'⟩
    exact ⟨_, _, _, _, _, d', rfl, rfl⟩
  · rintro fl S' ⟨o4, o5, o6, o7, o8, d', rfl, rfl⟩
    simp only [tk_set, tk_app, tk_sapp, tk_self, List.set_set, R.bind_ok, R.bind_err, R.calm_ok, opt_some, varR_0, varR_s, setG_0, setG_s, wipeG_nil, wipeG_cons, ev_var, ev_con, ev_glo, ev_bin, ev_neg, ev_cmp, ev_not, andR_t, andR_f, orR_t, orR_f, ev_and, ev_or, ev_ife, ev_tup, ev_lst, ev_dct, ev_idx, ev_slc, callR_ok, ev_call, bltR_1, bltR_2, ev_blt, ev_app, ev_dzip, ev_ext, ev_mk, evM_lst, lisR_l, lisR_t, evM_lis, ev_rev, ev_isi, ev_pop, ev_popi, itN_none, putT_nam, putT_tup, putTs_nil, putTs_cons, dat_d, evs_nil, evs_cons, evD_nil, evD_cons, evO_none, intO_int, evO_some, evC_none, evC_some, evI_seq, seqI_str, seqI_list, seqI_tuple, opt1_d, opt2_d, optB_some, opt_map_b, tev_not, tev_and, tev_or, cmpE_d, cmpR_d, tev_cmp, chB_s, cmp0_d, chnR_d, tev_chain, chE_ok, ev_chain, truR_ok, truE_d, truD_bool, truD_int, tev_var, tev_call, tev_blt, isiR_d, tev_isi, tev_idx, putR_some, sv_asg, sv_own, augI_add, augI_sub, sv_aug, augR_int, ownE_list, sv_par, subR_some, sv_sub, sv_exp, sv_ret, sv_ret0, sv_ite, sv_loop, sv_pass, sv_brk, sv_cnt, sv_par3, sv_rais, raisR_d, sv_tryx, catR_ok, catR_err, catC_hit, lamR_ok, lamR_err, lamC_hit, callR_err, evI_zip, zipR_tt, zipR_ll, thenR_nxt, thenR_ret, thenR_err, thenR_brk, thenR_cnt, svs_nil, svs_cons, atI_0, atI_1, atI_2, idxE_d, idxD_t, idxD_l, slcD_t, slcD_l, cut_1, cut_2, add_i, sub_i, lt_i, le_i, gt_i, ge_i, eq_i, ne_i, eq_ss, eq_s_refl, ne_s_refl, len_l, len_t, int_i, tuple_l, tuple_t, list_l, list_t, max2_i, min2_i, finR_d, finR_set, finR_err, finR_app, blt_abs, wp_ok, kf_d, kf_nxt, still_none, finR_nxt, finR_nset, List.length_cons, List.length_nil, List.set_cons_succ, List.set_cons_zero, List.length_map, List.length_set, List.nil_append, List.cons_append, List.append_nil, Nat.zero_add, Nat.reduceAdd, Nat.reduceLeDiff, Nat.reduceLT, sizeLine_eq, reduceIte, if_true, if_false, Bool.false_eq_true, Bool.not_true, Bool.not_false, decide_true, decide_false, Option.map_some, Option.bind_some, Bool.true_or, Bool.or_true, Bool.and_true, Bool.true_and]
    exact ⟨_, _, _, _, _, _, _, _, _, rfl, rfl⟩
theorem main_law (ns : List Int) (hl : ns.length ≤ 63) (hb : ∀ z ∈ ns, Builtin.Int.intBits z ≤ 1048576) : callF TB 1000 con 60 31 [.d (.list (ns.map PyData.int))] (qs.map fun x => .tab (lamN x)) = .ok (.d (.bool true)) (qs.map fun x => .tab (lamN x)) := by
  generalize (qs.map fun x => Cell.tab (lamN x)) = S0
  rw [call_eq (F := F31) rfl rfl]
  show finR S0.length (svs (Pm 59) c31 [some (.d (.list (ns.map .int))), none, none, none, none, none, none, none, none] S0) = _
  obtain ⟨j, hj, hI⟩ : ∃ j : Nat, j ≤ 2 ∧ evI (Pm 59) (.rng1 (.bin .Add (.con (.int 1)) (.blt .int (.cons (.cmp .Gt (.blt .len (.cons (.var 0) .nil)) (.con (.int 2))) .nil)))) [some (.d (.list (ns.map .int))), none, none, none, none, none, none, none, none] S0 = .ok ⟨rangeD 0 j, none⟩ S0 := by
    by_cases h : 2 < ns.length
    · refine ⟨2, by omega, rng_ev ?_ (by omega)⟩
      have h' : (2 : Int) < ns.length := by omega
      simp [h', bltD]
    · refine ⟨1, by omega, rng_ev ?_ (by omega)⟩
      have h' : ¬ (2 : Int) < ns.length := by omega
      simp [h', bltD]
  have hw : Wp (forR none (rangeD 0 j) (lp1 (Pm 59) (.nam 1) otb) (rangeD 0 j) [some (.d (.list (ns.map .int))), none, none, none, none, none, none, none, none] S0) (fun fl S' => ∃ Γ more, fl = .nxt Γ ∧ S' = S0 ++ more) xNo := by
    refine wp_for (fun i Γ S' => ∃ o1 o2 o3 o4 o5 o6 o7 o8 more, Γ = [some (.d (.list (ns.map .int))), o1, o2, o3, o4, o5, o6, o7, o8] ∧ S' = S0 ++ more) (rangeD 0 j) 0 ⟨none, none, none, none, none, none, none, none, [], rfl, by simp⟩ ?_ ?_
    · rintro k x Γ S' hx ⟨o1, o2, o3, o4, o5, o6, o7, o8, more, rfl, rfl⟩
      obtain ⟨hk, rfl⟩ := rg_at hx
      refine wp_imp (law_turn hl (by omega)) ?_
      rintro fl S' ⟨o1, o2, o3, o4, o5, o6, o7, o8, more', rfl, rfl⟩
      exact ⟨trivial, _, _, _, _, _, _, _, _, more ++ more', rfl, by simp⟩
    · rintro Γ S' ⟨o1, o2, o3, o4, o5, o6, o7, o8, more, rfl, rfl⟩
      exact ⟨_, more, rfl, rfl⟩
  obtain ⟨fl, S', e, Γ, more, rfl, rfl⟩ := wp_get hw
  have s0 : sv (Pm 59) c31_0 [some (.d (.list (ns.map .int))), none, none, none, none, none, none, none, none] S0 = .ok (.nxt Γ) (S0 ++ more) := by
    rw [c31_0, sv_loop, hI, R.bind_ok]
    exact e
  rw [c31, svs_cons, s0, thenR_nxt]
  simp [c31_1]
end K50

open PySem PySem.W PyProof.Rows
set_option maxRecDepth 100000 in
set_option maxHeartbeats 0 in
theorem PySem.Challenge.cw_halftruths_k50_chain_values_holds : PySem.Challenge.rw_halftruths_k50_chain_values.Holds := by
  w_on; o_law; k_head; (case hw => w_witness2)
  k_fill
  refine Ht.law_end (l := PySem.Challenge.rw_halftruths_k50_chain_values) (n := 63) (k := 60) (qs := K50.qs) (G := K50.G) (TB := K50.TB) (con := K50.con) (fuel := 1000) (kl := 31) rfl (by decide) rfl ⟨rfl, by decide, by decide⟩ rfl (fun w h Y => PySem.W.km_in_of Y) ?F (by intro x hx; simp only [K50.qs, List.mem_cons, List.not_mem_nil, or_false] at hx; rcases hx with rfl <;> exact Option.isSome_iff_exists.mp (by decide +kernel)) rfl K50.main_law
  case F =>
    intro w mg h KX G0
    refine' K50.glob KX G0 ?a0 ?l0 ?e0 ?k0 ?a1 ?l1 ?e1 ?k1 ?a2 ?l2 ?e2 ?k2 ?a3 ?l3 ?e3 ?k3 ?a4 ?l4 ?e4 ?k4 ?a5 ?l5 ?e5 ?k5 ?a6 ?l6 ?e6 ?k6 ?a7 ?l7 ?e7 ?k7 ?a8 ?l8 ?e8 ?k8 ?a9 ?l9 ?e9 ?k9 ?a10 ?l10 ?e10 ?k10 ?a11 ?l11 ?e11 ?k11 ?a12 ?l12 ?e12 ?k12 ?a13 ?l13 ?e13 ?k13 ?a14 ?l14 ?e14 ?k14 ?a15 ?l15 ?e15 ?k15 ?a16 ?l16 ?e16 ?k16 ?a17 ?l17 ?e17 ?k17 ?a18 ?l18 ?e18 ?k18 ?a19 ?l19 ?e19 ?k19 ?a20 ?l20 ?e20 ?k20 ?a21 ?l21 ?e21 ?k21 ?a22 ?l22 ?e22 ?k22 ?a23 ?l23 ?e23 ?k23 ?a24 ?l24 ?e24 ?k24 ?a25 ?l25 ?e25 ?k25 ?a26 ?l26 ?e26 ?k26 ?a27 ?l27 ?e27 ?k27 ?a28 ?l28 ?e28 ?k28 ?a29 ?l29 ?e29 ?k29 ?a30 ?l30 ?e30 ?k30 ?tc30 ?tv30 ?tn30 ?a31 ?l31 ?e31 ?k31 ?a32 ?l32 ?e32 ?k32 ?tnd ?z0 ?z1 ?z2 ?z3 ?z4 ?z5 ?z6 ?z7 ?z8 ?z9 ?kx0 ?ky0 ?kx1 ?ky1 ?ky1_2 ?ca0 ?cb0 ?cc0 ?cd0 ?ce0 ?cf0 ?cg0 ?ch0 ?ci0 ?cj0 ?ck0 ?cl0 ?cm0 ?cn0 ?co0 ?cp0 ?ca1 ?cb1 ?cc1 ?cd1 ?ce1 ?cf1 ?cg1 ?ch1 ?ci1 ?cj1 ?ck1 ?cl1 ?cm1 ?cn1 ?co1 ?cp1 ?ca2 ?cb2 ?cc2 ?cd2 ?ce2 ?cf2 ?cg2 ?ch2 ?ci2 ?cj2 ?ck2 ?cl2 ?cm2 ?cn2 ?co2 ?cp2 ?cs0_0 ?cs0_1 ?cs0_2 ?cs1_0 ?cs1_1 ?cs1_2 ?cs2_0 ?cs2_1 ?cs2_2
    (case a0 => k_is)
    (case l0 => k_is)
    (case e0 => k_is)
    (case k0 => k_is)
    (case a1 => k_is)
    (case l1 => k_is)
    (case e1 => k_is)
    (case k1 => k_is)
    (case a2 => k_is)
    (case l2 => k_is)
    (case e2 => k_is)
    (case k2 => k_is)
    (case a3 => k_is)
    (case l3 => k_is)
    (case e3 => k_is)
    (case k3 => k_is)
    (case a4 => k_is)
    (case l4 => k_is)
    (case e4 => k_is)
    (case k4 => k_is)
    (case a5 => k_is)
    (case l5 => k_is)
    (case e5 => k_is)
    (case k5 => k_is)
    (case a6 => k_is)
    (case l6 => k_is)
    (case e6 => k_is)
    (case k6 => k_is)
    (case a7 => k_is)
    (case l7 => k_is)
    (case e7 => k_is)
    (case k7 => k_is)
    (case a8 => k_is)
    (case l8 => k_is)
    (case e8 => k_is)
    (case k8 => k_is)
    (case a9 => k_is)
    (case l9 => k_is)
    (case e9 => k_is)
    (case k9 => k_is)
    (case a10 => k_is)
    (case l10 => k_is)
    (case e10 => k_is)
    (case k10 => k_is)
    (case a11 => k_is)
    (case l11 => k_is)
    (case e11 => k_is)
    (case k11 => k_is)
    (case a12 => k_is)
    (case l12 => k_is)
    (case e12 => k_is)
    (case k12 => k_is)
    (case a13 => k_is)
    (case l13 => k_is)
    (case e13 => k_is)
    (case k13 => k_is)
    (case a14 => k_is)
    (case l14 => k_is)
    (case e14 => k_is)
    (case k14 => k_is)
    (case a15 => k_is)
    (case l15 => k_is)
    (case e15 => k_is)
    (case k15 => k_is)
    (case a16 => k_is)
    (case l16 => k_is)
    (case e16 => k_is)
    (case k16 => k_is)
    (case a17 => k_is)
    (case l17 => k_is)
    (case e17 => k_is)
    (case k17 => k_is)
    (case a18 => k_is)
    (case l18 => k_is)
    (case e18 => k_is)
    (case k18 => k_is)
    (case a19 => k_is)
    (case l19 => k_is)
    (case e19 => k_is)
    (case k19 => k_is)
    (case a20 => k_is)
    (case l20 => k_is)
    (case e20 => k_is)
    (case k20 => k_is)
    (case a21 => k_is)
    (case l21 => k_is)
    (case e21 => k_is)
    (case k21 => k_is)
    (case a22 => k_is)
    (case l22 => k_is)
    (case e22 => k_is)
    (case k22 => k_is)
    (case a23 => k_is)
    (case l23 => k_is)
    (case e23 => k_is)
    (case k23 => k_is)
    (case a24 => k_is)
    (case l24 => k_is)
    (case e24 => k_is)
    (case k24 => k_is)
    (case a25 => k_is)
    (case l25 => k_is)
    (case e25 => k_is)
    (case k25 => k_is)
    (case a26 => k_is)
    (case l26 => k_is)
    (case e26 => k_is)
    (case k26 => k_is)
    (case a27 => k_is)
    (case l27 => k_is)
    (case e27 => k_is)
    (case k27 => k_is)
    (case a28 => k_is)
    (case l28 => k_is)
    (case e28 => k_is)
    (case k28 => k_is)
    (case a29 => k_is)
    (case l29 => k_is)
    (case e29 => k_is)
    (case k29 => k_is)
    (case a30 => k_is)
    (case l30 => k_is)
    (case e30 => k_is)
    (case k30 => k_is)
    (case tc30 => k_is)
    (case tv30 => first | rfl | with_unfolding_all rfl)
    (case tn30 => kernel_rfl)
    (case a31 => k_is)
    (case l31 => k_is)
    (case e31 => k_is)
    (case k31 => k_is)
    (case a32 => k_is)
    (case l32 => k_is)
    (case e32 => k_is)
    (case k32 => k_is)
    (case tnd => decide)
    (case z0 => k_is)
    (case z1 => k_is)
    (case z2 => k_is)
    (case z3 => k_is)
    (case z4 => k_is)
    (case z5 => k_is)
    (case z6 => k_is)
    (case z7 => k_is)
    (case z8 => k_is)
    (case z9 => k_is)
    (case kx0 => k_is)
    (case ky0 => k_is)
    (case kx1 => k_is)
    (case ky1 => k_is)
    (case ky1_2 => k_is)
    (case ca0 => k_is)
    (case cb0 => k_is)
    (case cc0 => k_is)
    (case cd0 => k_is)
    (case ce0 => k_is)
    (case cf0 => k_is)
    (case cg0 => k_is)
    (case ch0 => k_is)
    (case ci0 => k_is)
    (case cj0 => k_is)
    (case ck0 => k_is)
    (case cl0 => k_is)
    (case cm0 => k_is)
    (case cn0 => k_is)
    (case co0 => k_is)
    (case cp0 => k_is)
    (case ca1 => k_is)
    (case cb1 => k_is)
    (case cc1 => k_is)
    (case cd1 => k_is)
    (case ce1 => k_is)
    (case cf1 => k_is)
    (case cg1 => k_is)
    (case ch1 => k_is)
    (case ci1 => k_is)
    (case cj1 => k_is)
    (case ck1 => k_is)
    (case cl1 => k_is)
    (case cm1 => k_is)
    (case cn1 => k_is)
    (case co1 => k_is)
    (case cp1 => k_is)
    (case ca2 => k_is)
    (case cb2 => k_is)
    (case cc2 => k_is)
    (case cd2 => k_is)
    (case ce2 => k_is)
    (case cf2 => k_is)
    (case cg2 => k_is)
    (case ch2 => k_is)
    (case ci2 => k_is)
    (case cj2 => k_is)
    (case ck2 => k_is)
    (case cl2 => k_is)
    (case cm2 => k_is)
    (case cn2 => k_is)
    (case co2 => k_is)
    (case cp2 => k_is)
    (case cs0_0 => k_is)
    (case cs0_1 => k_is)
    (case cs0_2 => k_is)
    (case cs1_0 => k_is)
    (case cs1_1 => k_is)
    (case cs1_2 => k_is)
    (case cs2_0 => k_is)
    (case cs2_1 => k_is)
    (case cs2_2 => k_is)
#print axioms PySem.Challenge.cw_halftruths_k50_chain_values_holds
