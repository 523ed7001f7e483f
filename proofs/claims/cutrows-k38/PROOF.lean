import PyProof.Rows.All
import Wide.All
import OpenK.AllK
import Wide.FinOn
import HandS.ForMost
import KE.SortData
import KE.KDictKeyed
import KE.KeyNested
import HandS.TupAny
import HandS.TupMul
import HandS.Deep
import HandS.Style
import HandS.Flow
import HandS.Rev
import HandS.RevRange
import HandS.Zip
import HandS.Conv
import HandS.TupLe
import HandS.IsInst
import HandS.SortInts
import HandS.TupLen
import HandS.More
import HandS.SetFor
import HandS.SetKeys
import KE.DataMinMax
import KE.GoesEnum
import PyProof.DictStraight
import HandS.Words
import HandS.Ends
import PySem.Challenge.RW_cutrows_k38_matters_by_hand
set_option Elab.async false
section -- Mn1
set_option linter.all false
set_option maxRecDepth 100000
/-! A small evaluator for the part of Python that the program uses: values, store, expressions, statements. -/
namespace Mn
open PySem

inductive Val where
  | non | bl (b : Bool) | int (i : Int) | str (s : Str) | tup (vs : List Val) | ref (n : Nat) | ty (n : String) | glo (x : Str)

inductive Obj where
  | lst (vs : List Val) | rol (vs : List Val) | dct (kvs : List (Val × Val)) | ins (C : Str) (fs : List (Str × Val))

abbrev Mem := List Obj
abbrev Env := List (Option Val)

inductive Res (α : Type) where
  | ok (a : α) (M : Mem) | exc (C : Str) (fs : List (Str × Val)) (M : Mem) | stuck

def Res.bind {α β : Type} (r : Res α) (f : α → Mem → Res β) : Res β :=
  match r with
  | .ok a M => f a M
  | .exc C fs M => .exc C fs M
  | .stuck => .stuck

/-! ### data -/
mutual
/-- a value as data, its references read by rd -/
def dat (rd : Nat → Option PyData) : Val → Option PyData
  | .non => some .none
  | .bl b => some (.bool b)
  | .int i => some (.int i)
  | .str s => some (.str s)
  | .tup vs => (dats rd vs).map .tuple
  | .ref n => rd n
  | .ty _ => none
  | .glo _ => none
def dats (rd : Nat → Option PyData) : List Val → Option (List PyData)
  | [] => some []
  | v :: vs => match dat rd v, dats rd vs with
    | some d, some ds => some (d :: ds)
    | _, _ => none
end
/-- a reference read in the store: lists, to some depth -/
def rdM (M : Mem) : Nat → Nat → Option PyData
  | 0, _ => none
  | k + 1, n => match M[n]? with
    | some (.lst vs) => (dats (rdM M k) vs).map .list
    | some (.rol vs) => (dats (rdM M k) vs).map .list
    | _ => none
def datM (M : Mem) (v : Val) : Option PyData := dat (rdM M 6) v
def datsM (M : Mem) (vs : List Val) : Option (List PyData) := dats (rdM M 6) vs

/-- x == y, by data -/
def veqD (M : Mem) (x y : Val) : Option Bool :=
  match datM M x, datM M y with
  | some d, some e => if SeqAt.shaped d && SeqAt.shaped e then some (PyData.eqv d e) else none
  | _, _ => none
/-- x == y -/
def veq (M : Mem) (x y : Val) : Option Bool :=
  match x, y with
  | .str a, .str b => some (decide (a = b))
  | x, y => veqD M x y
/-- x < y for what isn't two intsOf -/
def vlt (M : Mem) (x y : Val) : Option Bool :=
  match datM M x, datM M y with
  | some (.tuple ds), some (.tuple es) => if PySem.W.alike (.tuple ds) (.tuple es) && SeqAt.shaped (.tuple ds) && SeqAt.shaped (.tuple es) then some (PySem.W.dataLt (.tuple ds) (.tuple es)) else none
  | some (.str a), some (.str b) => some (PySem.W.dataLt (.str a) (.str b))
  | _, _ => none

/-- the items of a list or tuple -/
def seqOf (M : Mem) : Val → Option (List Val)
  | .tup vs => some vs
  | .ref n => match M[n]? with
    | some (.lst vs) => some vs
    | some (.rol vs) => some vs
    | _ => none
  | _ => none
/-! ### dicts -/
mutual
def isKey : Val → Bool
  | .non => true
  | .int _ => true
  | .str _ => true
  | .tup vs => areKeys vs
  | _ => false
def areKeys : List Val → Bool
  | [] => true
  | v :: vs => isKey v && areKeys vs
end
mutual
def kdepth : Val → Nat
  | .tup vs => kdepths vs + 1
  | _ => 0
def kdepths : List Val → Nat
  | [] => 0
  | v :: vs => max (kdepth v) (kdepths vs)
end
mutual
/-- equality of keys (no truth values, no references) -/
def keq : Val → Val → Bool
  | .non, .non => true
  | .int i, .int j => decide (i = j)
  | .str a, .str b => decide (a = b)
  | .tup vs, .tup ws => keqs vs ws
  | _, _ => false
def keqs : List Val → List Val → Bool
  | [], [] => true
  | v :: vs, w :: ws => keq v w && keqs vs ws
  | _, _ => false
end
/-- a key that a dict with the keys of kvs takes: an int or a text, or a tuple, as those that are there -/
def leafK : Val → Bool
  | .int _ => true
  | .str _ => true
  | _ => false
def tupK : Val → Bool
  | .tup vs => areKeys vs && decide (kdepths vs < 8)
  | _ => false
def fits (kvs : List (Val × Val)) (k : Val) : Bool :=
  (leafK k && kvs.all fun p => leafK p.1) || (tupK k && kvs.all fun p => tupK p.1)
def dget (kvs : List (Val × Val)) (k : Val) : Option Val := (kvs.find? fun p => keq p.1 k).map (·.2)
def dput : List (Val × Val) → Val → Val → List (Val × Val)
  | [], k, v => [(k, v)]
  | p :: r, k, v => if keq p.1 k then (p.1, v) :: r else p :: dput r k v

/-- the items of a list -/
def lstOf (M : Mem) : Val → Option (List Val)
  | .ref n => match M[n]? with
    | some (.lst vs) => some vs
    | some (.rol vs) => some vs
    | _ => none
  | _ => none
/-- truth -/
def truth (M : Mem) : Val → Option Bool
  | .non => some false
  | .bl b => some b
  | .int i => some (i != 0)
  | .str s => if s.length ≤ sizeLine then some ((s.length : Int) != 0) else none
  | .tup vs => some (!vs.isEmpty)
  | .ref n => match M[n]? with
    | some (.lst vs) => some (!vs.isEmpty)
    | some (.rol vs) => some (!vs.isEmpty)
    | some (.dct kvs) => if kvs.all fun p => leafK p.1 then some (!kvs.isEmpty) else none
    | _ => none
  | _ => none

def new (o : Obj) (M : Mem) : Res Val := .ok (.ref M.length) (M ++ [o])
def ofO {α : Type} (o : Option α) (M : Mem) : Res α := match o with | some a => .ok a M | none => .stuck
def chk {α : Type} (b : Bool) (r : Res α) : Res α := if b then r else .stuck

/-! ### operators -/
def binop (op : Operator) (x y : Val) (M : Mem) : Res Val :=
  match op, x, y with
  | .Add, .int i, .int j => .ok (.int (i + j)) M
  | .Add, .str a, .str b => chk (decide (a.length + b.length ≤ sizeLine)) (.ok (.str (a ++ b)) M)
  | .Add, .tup a, .tup b => chk (decide (a.length + b.length ≤ sizeLine)) (.ok (.tup (a ++ b)) M)
  | .Add, .ref a, .ref b => match M[a]?, M[b]? with
    | some (.lst xs), some (.lst ys) => chk (decide (xs.length + ys.length ≤ sizeLine)) (new (.lst (xs ++ ys)) M)
    | _, _ => .stuck
  | .Sub, .int i, .int j => .ok (.int (i - j)) M
  | .Mult, .int i, .int j => chk (decide ((-(2 ^ 64) < i ∧ i < 2 ^ 64) ∨ (-(2 ^ 64) < j ∧ j < 2 ^ 64))) (.ok (.int (i * j)) M)
  | .Mult, .ref a, .int j => match M[a]? with
    | some (.lst xs) => chk (decide (-(2 ^ 63) ≤ j ∧ j < 2 ^ 63 ∧ xs.length * j.toNat ≤ sizeLine)) (new (.lst (List.replicate j.toNat xs).flatten) M)
    | _ => .stuck
  | .Mult, .tup xs, .int j => chk (decide (xs.length ≠ 0 ∧ 2 ≤ j ∧ j ≤ 1000 ∧ xs.length ≤ 1000)) (.ok (.tup (List.replicate j.toNat xs).flatten) M)
  | .FloorDiv, .int i, .int j => chk (decide (0 < j ∧ j < 1073741824)) (.ok (.int (i / j)) M)
  | .Mod, .int i, .int j => chk (decide (0 < j)) (.ok (.int (i % j)) M)
  | .Pow, .int i, .int j => chk (decide (0 ≤ j ∧ j ≤ 1000000 ∧ i.natAbs < 2 ^ 64)) (.ok (.int (i ^ j.toNat)) M)
  | _, _, _ => .stuck

/-- x in ys -/
def vin (M : Mem) (x : Val) (ys : List Val) : Option Bool :=
  match datM M x, datsM M ys with
  | some d, some ds => if SeqAt.shaped d && SeqAt.shaped (.list ds) then some (ds.any fun z => PyData.eqv z d) else none
  | _, _ => none
def cin (x y : Val) (M : Mem) : Option Bool :=
  match y with
  | .tup ys => vin M x ys
  | .str b => match x with
    | .str a => some (!(Builtin.Str.occurrences b a 0 b.length 1).isEmpty)
    | _ => none
  | .ref n => match M[n]? with
    | some (.lst ys) => vin M x ys
    | some (.rol ys) => vin M x ys
    | some (.dct kvs) => if fits kvs x then some (dget kvs x).isSome else none
    | _ => none
  | _ => none
def cis : Val → Val → Option Bool
  | x, .non => some (match x with | .non => true | _ => false)
  | .bl a, .bl b => some (a == b)
  | _, _ => none
def cmpop (op : CmpOp) (x y : Val) (M : Mem) : Option Bool :=
  match op with
  | .Eq => veq M x y
  | .NotEq => (veq M x y).map (!·)
  | .Lt => match x, y with
    | .int i, .int j => some (decide (i < j))
    | _, _ => vlt M x y
  | .LtE => match x, y with
    | .int i, .int j => some (decide (i ≤ j))
    | _, _ => none
  | .Gt => match x, y with
    | .int i, .int j => some (decide (j < i))
    | _, _ => none
  | .GtE => match x, y with
    | .int i, .int j => some (decide (j ≤ i))
    | _, _ => none
  | .Is => cis x y
  | .IsNot => (cis x y).map (!·)
  | .In => cin x y M
  | .NotIn => (cin x y M).map (!·)

/-- the place of an index -/
def ixOf (i : Int) (n : Nat) : Option Nat := if 0 ≤ i then (if i < n then some i.toNat else none) else (if -(n : Int) ≤ i then some (i + n).toNat else none)
def ixV (vs : List Val) (j : Int) (M : Mem) : Res Val := match ixOf j vs.length with
  | some k => ofO vs[k]? M
  | none => .stuck
def subs (x i : Val) (M : Mem) : Res Val :=
  match x, i with
  | .tup vs, .int j => ixV vs j M
  | .str s, .int j => match if s.length ≤ sizeLine then ixOf j s.length else none with | some k => ofO (s.cps[k]?.map fun c => .str ⟨#[c]⟩) M | none => .stuck
  | .ref n, i => match M[n]? with
    | some (.lst vs) => match i with | .int j => ixV vs j M | _ => .stuck
    | some (.rol vs) => match i with | .int j => ixV vs j M | _ => .stuck
    | some (.dct kvs) => chk (fits kvs i) (ofO (dget kvs i) M)
    | _ => .stuck
  | _, _ => .stuck
def cut {α : Type} (xs : List α) (lo hi : Option Int) : List α := (xs.drop (HT.sIx xs.length 0 lo)).take (HT.sIx xs.length xs.length hi - HT.sIx xs.length 0 lo)

/-- x[lo:hi], its bounds known -/
def sliceB (x : Val) (l h : Option Int) (M : Mem) : Res Val :=
  match x with
  | .tup vs => .ok (.tup (cut vs l h)) M
  | .ref n => match M[n]? with
    | some (.lst vs) => new (.lst (cut vs l h)) M
    | some (.rol vs) => new (.lst (cut vs l h)) M
    | _ => .stuck
  | _ => .stuck
def sliceRev (x : Val) (M : Mem) : Res Val :=
  match x with
  | .ref n => match M[n]? with
    | some (.lst vs) => new (.lst vs.reverse) M
    | _ => .stuck
  | _ => .stuck

/-! ### built-in functions, by values -/
def intsOf : List Val → Option (List Int)
  | [] => some []
  | .int i :: vs => (intsOf vs).map (i :: ·)
  | _ => none
def boolsOf : List Val → Option (List Bool)
  | [] => some []
  | .bl b :: vs => (boolsOf vs).map (b :: ·)
  | _ => none
/-- data of which every two are alike, tuples or none of them -/
def sortable (ds : List PyData) : Bool :=
  (ds.all fun d => ds.all fun e => PySem.W.alike d e) && ds.all SeqAt.shaped &&
  ((ds.all fun d => match d with | .tuple (_ :: _) => true | _ => false) || ds.all fun d => match d with | .none => false | .tuple _ => false | .list _ => false | _ => true)
def pd (v : Val) : PyData := (dat (fun _ => none) v).getD .none
/-- the order of values by their data -/
def vle (x y : Val) : Bool := PySem.W.dataLe false pd x y
section
variable {α : Type}
def mrg (le : α → α → Bool) : Nat → List α → List α → List α
  | _, [], ys => ys
  | _, xs, [] => xs
  | 0, xs, ys => xs ++ ys
  | n + 1, x :: xs, y :: ys => if le x y then x :: mrg le n xs (y :: ys) else y :: mrg le n (x :: xs) ys
theorem mrg_eq (le : α → α → Bool) : ∀ (n : Nat) (xs ys : List α), xs.length + ys.length ≤ n → mrg le n xs ys = List.merge xs ys le
  | n, [], ys, _ => by cases n <;> simp [mrg]
  | n, x :: xs, [], _ => by cases n <;> simp [mrg]
  | 0, x :: xs, y :: ys, h => by simp at h
  | n + 1, x :: xs, y :: ys, h => by
    simp only [List.length_cons] at h
    rw [mrg, List.cons_merge_cons]
    rw [mrg_eq le n xs (y :: ys) (by simp only [List.length_cons]; omega), mrg_eq le n (x :: xs) ys (by simp only [List.length_cons]; omega)]
def msrt (le : α → α → Bool) : Nat → List α → List α
  | _, [] => []
  | _, [a] => [a]
  | 0, xs => xs
  | n + 1, a :: b :: xs => mrg le (xs.length + 2) (msrt le n ((a :: b :: xs).take ((xs.length + 2 + 1) / 2))) (msrt le n ((a :: b :: xs).drop ((xs.length + 2 + 1) / 2)))
theorem msrt_eq (le : α → α → Bool) : ∀ (n : Nat) (xs : List α), xs.length ≤ n → msrt le n xs = xs.mergeSort le
  | n, [], _ => by cases n <;> simp [msrt]
  | n, [a], _ => by cases n <;> simp [msrt]
  | 0, a :: b :: xs, h => by simp at h
  | n + 1, a :: b :: xs, h => by
    simp only [List.length_cons] at h
    rw [msrt, List.mergeSort]
    rw [msrt_eq le n _ (by rw [List.length_take]; simp only [List.length_cons]; omega), msrt_eq le n _ (by rw [List.length_drop]; simp only [List.length_cons]; omega)]
    rw [mrg_eq]
    · simp [List.MergeSort.Internal.splitInTwo, List.splitAt_eq]
    · rw [List.length_mergeSort, List.length_mergeSort, List.length_take, List.length_drop]
      simp only [List.length_cons]
      omega
end
def vsort (vs : List Val) : Option (List Val) :=
  match dats (fun _ => none) vs with
  | some ds => if sortable ds && decide (vs.length ≤ sizeLine) then some (msrt vle vs.length vs) else none
  | none => none
theorem vsort_def (vs : List Val) : vsort vs = match dats (fun _ => none) vs with
  | some ds => if sortable ds && decide (vs.length ≤ sizeLine) then some (vs.mergeSort vle) else none
  | none => none := by
  unfold vsort
  rw [msrt_eq vle _ vs (Nat.le_refl _)]
/-- the first of the least -/
def vmin : List Val → Option Val
  | [] => none
  | v :: vs => some (vs.foldl (fun m x => if PySem.W.dataLt (pd x) (pd m) then x else m) v)
def vmax : List Val → Option Val
  | [] => none
  | v :: vs => some (vs.foldl (fun m x => if PySem.W.dataLt (pd m) (pd x) then x else m) v)
def alikes (vs : List Val) : Bool :=
  match dats (fun _ => none) vs with
  | some ds => sortable ds
  | none => false
/-- the items that list(x), tuple(x) take -/
def itemsOf (M : Mem) : Val → Option (List Val)
  | .tup vs => some vs
  | .ref n => match M[n]? with
    | some (.lst vs) => some vs
    | some (.rol vs) => some vs
    | some (.dct kvs) => some (kvs.map (·.1))
    | _ => none
  | _ => none
/-- a list or a tuple (no dict) -/
def lenOf (M : Mem) : Val → Option Nat
  | .tup vs => some vs.length
  | .str s => if s.length ≤ sizeLine then some s.length else none
  | .ref n => match M[n]? with
    | some (.lst vs) => some vs.length
    | some (.rol vs) => some vs.length
    | some (.dct kvs) => some kvs.length
    | _ => none
  | _ => none
def shownOk (d : PyData) : Bool := d.showable && decide (d.shown.length + 64 ≤ sizeLine) && SeqAt.shaped d
def tyName (M : Mem) (v : Val) : Option String :=
  match v with
  | .non => some "NoneType"
  | .bl _ => some "bool"
  | .int _ => some "int"
  | .str _ => some "str"
  | .tup _ => some "tuple"
  | .ref n => match M[n]? with
    | some (.lst _) => some "list"
    | some (.rol _) => some "list"
    | some (.dct _) => some "dict"
    | _ => none
  | _ => none
def isTy (a t : String) : Option Bool :=
  if t = "int" then some (a == "int" || a == "bool") else if t = "bool" then some (a == "bool") else if t = "str" then some (a == "str") else
  if t = "tuple" then some (a == "tuple") else if t = "list" then some (a == "list") else if t = "dict" then some (a == "dict") else none
def isA (M : Mem) (v : Val) (t : String) : Option Bool := (tyName M v).bind fun a => isTy a t
def pairsOf : List Val → Option (List (Val × Val))
  | [] => some []
  | .tup [k, v] :: r => (pairsOf r).map ((k, v) :: ·)
  | _ => none
def dputs : List (Val × Val) → List (Val × Val) → Option (List (Val × Val))
  | kvs, [] => some kvs
  | kvs, (k, v) :: r => if fits kvs k then dputs (dput kvs k v) r else none
inductive BF where
  | len | min | max | sum | all | any | sorted | list | tuple | int | str | repr | abs | dict | isinstance
  deriving DecidableEq
def bmin (xs : List Val) (M : Mem) : Res Val :=
  match xs with
  | [x] => match seqOf M x with
    | some vs => chk (alikes vs) (ofO (vmin vs) M)
    | none => .stuck
  | [x, y] => match x, y with
    | .int i, .int j => .ok (.int (if j < i then j else i)) M
    | _, _ => .stuck
  | _ => .stuck
def bmax (xs : List Val) (M : Mem) : Res Val :=
  match xs with
  | [x] => match seqOf M x with
    | some vs => chk (alikes vs) (ofO (vmax vs) M)
    | none => .stuck
  | [x, y] => match x, y with
    | .int i, .int j => .ok (.int (if j > i then j else i)) M
    | _, _ => .stuck
  | _ => .stuck
def bcall (f : BF) (xs : List Val) (M : Mem) : Res Val :=
  match f, xs with
  | .len, [x] => ofO ((lenOf M x).map fun n => .int n) M
  | .abs, [.int i] => .ok (.int (if i < 0 then -i else i)) M
  | .int, [.int i] => .ok (.int i) M
  | .int, [.bl b] => .ok (.int (if b then 1 else 0)) M
  | .min, xs => bmin xs M
  | .max, xs => bmax xs M
  | .sum, [x] => match lstOf M x with
    | some vs => ofO ((intsOf vs).map fun is => .int is.sum) M
    | none => .stuck
  | .all, [x] => match lstOf M x with
    | some vs => ofO ((boolsOf vs).map fun bs => .bl (bs.all id)) M
    | none => .stuck
  | .any, [x] => match lstOf M x with
    | some vs => ofO ((boolsOf vs).map fun bs => .bl (bs.any id)) M
    | none => .stuck
  | .sorted, [x] => match lstOf M x with
    | some vs => match vsort vs with | some ws => new (.lst ws) M | none => .stuck
    | none => .stuck
  | .list, [x] => match itemsOf M x with
    | some vs => new (.lst vs) M
    | none => .stuck
  | .tuple, [x] => match seqOf M x with
    | some vs => .ok (.tup vs) M
    | none => .stuck
  | .str, [.int i] => chk (decide (i.natAbs.log2 < 1920)) (.ok (.str (toString i)) M)
  | .repr, [x] => match datM M x with
    | some d => chk (shownOk d) (.ok (.str d.shown) M)
    | none => .stuck
  | .dict, [x] => match seqOf M x with
    | some vs => match (pairsOf vs).bind (dputs []) with | some kvs => new (.dct kvs) M | none => .stuck
    | none => .stuck
  | .isinstance, xs => match xs with
    | [x, y] => match y with | .ty t => ofO ((isA M x t).map .bl) M | _ => .stuck
    | _ => .stuck
  | _, _ => .stuck

/-! ### methods of built-in types -/
inductive BM where
  | append | extend | pop | insert | count | get | setdefault | index | values | items | update | clear | join | split
  deriving DecidableEq
def setO (n : Nat) (o : Obj) (v : Val) (M : Mem) : Res Val := .ok v (M.set n o)
/-- the list that a method changes; the dict -/
def ownL (M : Mem) : Val → Option (Nat × List Val)
  | .ref n => match M[n]? with
    | some (.lst vs) => some (n, vs)
    | _ => none
  | _ => none
def ownD (M : Mem) : Val → Option (Nat × List (Val × Val))
  | .ref n => match M[n]? with
    | some (.dct kvs) => some (n, kvs)
    | _ => none
  | _ => none
/-- is the receiver of the type that has the method -/
def recvOk (m : BM) (M : Mem) (x : Val) : Bool :=
  match m with
  | .append => (ownL M x).isSome
  | .extend => (ownL M x).isSome
  | .pop => (ownL M x).isSome
  | .insert => (ownL M x).isSome
  | .count => (lstOf M x).isSome
  | .index => (lstOf M x).isSome
  | .get => (ownD M x).isSome
  | .setdefault => (ownD M x).isSome
  | _ => false
def mList (m : BM) (n : Nat) (vs : List Val) (xs : List Val) (M : Mem) : Res Val :=
  match m with
  | .append => match xs with
    | [v] => chk (decide (vs.length < sizeLine)) (setO n (.lst (vs ++ [v])) .non M)
    | _ => .stuck
  | .extend => match xs with
    | [y] => match ownL M y with
      | some q => chk (decide (vs.length + q.2.length ≤ sizeLine)) (setO n (.lst (vs ++ q.2)) .non M)
      | none => match y with
        | .tup ws => chk (decide (vs.length + ws.length ≤ sizeLine)) (setO n (.lst (vs ++ ws)) .non M)
        | _ => .stuck
    | _ => .stuck
  | .pop => match xs with
    | [] => match vs[vs.length - 1]? with | some v => setO n (.lst vs.dropLast) v M | none => .stuck
    | [y] => match y with
      | .int j => match ixOf j vs.length with
        | some k => match vs[k]? with | some v => setO n (.lst (vs.eraseIdx k)) v M | none => .stuck
        | none => .stuck
      | _ => .stuck
    | _ => .stuck
  | .insert => match xs with
    | [y, v] => match y with
      | .int j => chk (decide (j = 0) && decide (vs.length < sizeLine)) (setO n (.lst (v :: vs)) .non M)
      | _ => .stuck
    | _ => .stuck
  | _ => .stuck
def mDict (m : BM) (n : Nat) (kvs : List (Val × Val)) (xs : List Val) (M : Mem) : Res Val :=
  match m with
  | .get => match xs with
    | [k, d] => chk (fits kvs k) (.ok ((dget kvs k).getD d) M)
    | _ => .stuck
  | .setdefault => match xs with
    | [k, d] => chk (fits kvs k && decide (kvs.length < sizeLine)) (match dget kvs k with
        | some v => .ok v M
        | none => setO n (.dct (dput kvs k d)) d M)
    | _ => .stuck
  | _ => .stuck
def mRead (m : BM) (vs : List Val) (xs : List Val) (M : Mem) : Res Val :=
  match m with
  | .count => match xs with
    | [y] => match intsOf vs, y with
      | some is, .int i => .ok (.int (is.count i)) M
      | _, _ => .stuck
    | _ => .stuck
  | _ => .stuck
def bmeth (m : BM) (x : Val) (xs : List Val) (M : Mem) : Res Val :=
  match m with
  | .append => match ownL M x with | some p => mList .append p.1 p.2 xs M | none => .stuck
  | .extend => match ownL M x with | some p => mList .extend p.1 p.2 xs M | none => .stuck
  | .pop => match ownL M x with | some p => mList .pop p.1 p.2 xs M | none => .stuck
  | .insert => match ownL M x with | some p => mList .insert p.1 p.2 xs M | none => .stuck
  | .count => match lstOf M x with | some vs => mRead .count vs xs M | none => .stuck
  | .get => match ownD M x with | some p => mDict .get p.1 p.2 xs M | none => .stuck
  | .setdefault => match ownD M x with | some p => mDict .setdefault p.1 p.2 xs M | none => .stuck
  | _ => .stuck
end Mn
end -- Mn1
section -- Mn2
set_option linter.all false
set_option maxRecDepth 100000
namespace Mn
open PySem

/-- what a for walks -/
inductive IK where | ex | range | rev | enum | zip
  deriving DecidableEq
/-- a target -/
inductive T where
  | nm (i : Nat) | tp (ts : List T)
inductive E where
  | var (i : Nat) | glob (x : Str) | non | bl (b : Bool) | int (i : Int) | str (s : Str) | ty (t : String)
  | tup (es : List E) | lst (es : List E) | dct (ks vs : List E)
  | bin (op : Operator) (a b : E) | neg (a : E) | not (a : E) | and (a b : E) | or (a b : E) | ite (c a b : E)
  | cmp (op : CmpOp) (a b : E) | chain (o1 o2 : CmpOp) (a b c : E)
  | idx (a i : E) | sl (a lo hi : E) | slr (a : E)
  | attr (o : E) (f : Str)
  | call (f : Str) (es : List E) (kns : List Str) (kes : List E)
  | make (C : Str) (es : List E) (kns : List Str) (kes : List E)
  | meth (C m : Str) (o : E) (es : List E) (kns : List Str) (kes : List E)
  | bcall (f : BF) (es : List E)
  | bmeth (m : BM) (o : E) (es : List E)
  | rng (es : List E)      -- list(range(..)), tuple(range(..)): the items, wrapped
  | comp (k : IK) (its : List E) (tg : T) (own : List Nat) (cond : List E) (elt : E)
  | dcomp (k : IK) (its : List E) (tg : T) (own : List Nat) (cond : List E) (ke ve : E)
inductive S where
  | asg (t : T) (e : E) | setIdx (o i e : E) | setAttr (o : E) (f : Str) (e : E) | aug (i : Nat) (e : E)
  | expr (e : E) | ret (e : E) | ite (c : E) (a b : List S) | for (k : IK) (its : List E) (t : T) (body : List S)
  | while (c : E) (body : List S) | raise (C : Str) (es : List E) | brk | cnt | pass

/-- what calls do, and the module's names -/
structure Gam where
  glob : Str → Option Val
  call : Str → List Val → List (Str × Val) → Mem → Res Val
  make : Str → List Val → List (Str × Val) → Mem → Res Val
  fld : Str → Str → Bool
  fuel : Nat

/-! ### sources of loops -/
inductive Sq where | im (vs : List Val) | mu (n : Nat)
def Sq.get (M : Mem) : Sq → Option (List Val)
  | .im vs => some vs
  | .mu n => match M[n]? with
    | some (.lst vs) => some vs
    | some (.rol vs) => some vs
    | _ => none
inductive Src where | sq (s : Sq) | enum (s : Sq) | zip (s t : Sq) | rev (s : Sq)
def sqOf (M : Mem) : Val → Option Sq
  | .tup vs => some (.im vs)
  | .ref n => match M[n]? with
    | some (.lst _) => some (.mu n)
    | some (.rol _) => some (.mu n)
    | _ => none
  | _ => none
def irange (lo : Int) : Nat → List Val
  | 0 => []
  | n + 1 => .int lo :: irange (lo + 1) n
def irangeC (lo c : Int) : Nat → List Val
  | 0 => []
  | n + 1 => .int lo :: irangeC (lo + c) c n
def smallI (i : Int) : Bool := decide (-(2 ^ 62) ≤ i ∧ i < 2 ^ 62)
def rangeOf : List Val → Option (List Val)
  | [.int j] => if smallI j then some (irange 0 j.toNat) else none
  | [.int i, .int j] => if smallI i && smallI j then some (irange i (j - i).toNat) else none
  | [.int i, .int j, .int c] => if smallI i && smallI j && decide (c = -1) then some (irangeC i c (i - j).toNat) else none
  | _ => none
def srcOf (k : IK) (vs : List Val) (M : Mem) : Option Src :=
  match k, vs with
  | .ex, [.str s] => some (.sq (.im (s.cps.toList.map fun c => .str ⟨#[c]⟩)))
  | .ex, [v] => (sqOf M v).map .sq
  | .range, vs => (rangeOf vs).map fun l => .sq (.im l)
  | .rev, [v] => (sqOf M v).map .rev
  | .enum, [v] => (sqOf M v).map .enum
  | .zip, [v, w] => match sqOf M v, sqOf M w with
    | some (.im s), some (.im t) => some (.zip (.im s) (.im t))
    | some (.mu s), some (.mu t) => some (.zip (.mu s) (.mu t))
    | _, _ => none
  | _, _ => none
def Src.len (M : Mem) : Src → Option Nat
  | .sq s => (s.get M).map (·.length)
  | .enum s => (s.get M).map (·.length)
  | .rev s => (s.get M).map (·.length)
  | .zip s t => match s.get M, t.get M with | some a, some b => if a.length = b.length then some a.length else none | _, _ => none
def Src.at (M : Mem) (len i : Nat) : Src → Option Val
  | .sq s => (s.get M).bind (·[i]?)
  | .enum s => ((s.get M).bind (·[i]?)).map fun v => .tup [.int i, v]
  | .rev s => (s.get M).bind (·[len - 1 - i]?)
  | .zip s t => match (s.get M).bind (·[i]?), (t.get M).bind (·[i]?) with | some a, some b => some (.tup [a, b]) | _, _ => none

/-! ### targets -/
mutual
def asgT (M : Mem) : T → Val → Env → Option Env
  | .nm i, v, ρ => if i < ρ.length then some (ρ.set i (some v)) else none
  | .tp ts, v, ρ => match v with
    | .tup vs => asgTs M ts vs ρ
    | _ => none
def asgTs (M : Mem) : List T → List Val → Env → Option Env
  | [], [], ρ => some ρ
  | t :: ts, v :: vs, ρ => match asgT M t v ρ with
    | some ρ' => asgTs M ts vs ρ'
    | none => none
  | _, _, _ => none
end
def wipeE (ρ : Env) : List Nat → Env
  | [] => ρ
  | v :: vs => (wipeE ρ vs).set v none

/-- the turns of a comprehension: f gives a turn's item, or none -/
def compL (f : Env → Mem → Res (Option Val)) (src : Src) (tg : T) (ρ : Env) (len : Nat) : Nat → List Val → Mem → Res (List Val)
  | 0, acc, M => if src.len M = some len then .ok acc.reverse M else .stuck
  | n + 1, acc, M => match src.at M len (len - (n + 1)) with
    | none => .stuck
    | some v => match asgT M tg v ρ with
      | none => .stuck
      | some ρ' => match f ρ' M with
        | .ok none M' => compL f src tg ρ len n acc M'
        | .ok (some w) M' => compL f src tg ρ len n (w :: acc) M'
        | _ => .stuck
def dcompL (f : Env → Mem → Res (Option (Val × Val))) (src : Src) (tg : T) (ρ : Env) (len : Nat) : Nat → List (Val × Val) → Mem → Res (List (Val × Val))
  | 0, acc, M => if src.len M = some len then .ok acc M else .stuck
  | n + 1, acc, M => match src.at M len (len - (n + 1)) with
    | none => .stuck
    | some v => match asgT M tg v ρ with
      | none => .stuck
      | some ρ' => match f ρ' M with
        | .ok none M' => dcompL f src tg ρ len n acc M'
        | .ok (some (k, w)) M' => if fits acc k then dcompL f src tg ρ len n (dput acc k w) M' else .stuck
        | _ => .stuck

def E.isNon : E → Bool
  | .non => true
  | _ => false
/-- a part of a slice: left out, or an int -/
def part (b : Bool) (r : Res Val) (M : Mem) : Res (Option Int) := if b then .ok none M else r.bind fun v M => match v with | .int i => .ok (some i) M | _ => .stuck
mutual
def evE (Γ : Gam) : E → Env → Mem → Res Val
  | .var i, ρ, M => match ρ[i]? with | some (some v) => .ok v M | _ => .stuck
  | .glob x, _, M => ofO (Γ.glob x) M
  | .non, _, M => .ok .non M
  | .bl b, _, M => .ok (.bl b) M
  | .int i, _, M => .ok (.int i) M
  | .str s, _, M => .ok (.str s) M
  | .ty t, _, M => .ok (.ty t) M
  | .tup es, ρ, M => (evEs Γ es ρ M).bind fun vs M => .ok (.tup vs) M
  | .lst es, ρ, M => (evEs Γ es ρ M).bind fun vs M => new (.lst vs) M
  | .dct ks vs, ρ, M => (evEs Γ ks ρ M).bind fun ks M => (evEs Γ vs ρ M).bind fun vs M => match dputs [] (ks.zip vs) with | some kvs => new (.dct kvs) M | none => .stuck
  | .bin op a b, ρ, M => (evE Γ a ρ M).bind fun x M => (evE Γ b ρ M).bind fun y M => binop op x y M
  | .neg a, ρ, M => (evE Γ a ρ M).bind fun x M => match x with | .int i => .ok (.int (-i)) M | _ => .stuck
  | .not a, ρ, M => (evE Γ a ρ M).bind fun x M => ofO ((truth M x).map fun b => .bl (!b)) M
  | .and a b, ρ, M => (evE Γ a ρ M).bind fun x M => match truth M x with | some true => evE Γ b ρ M | some false => .ok x M | none => .stuck
  | .or a b, ρ, M => (evE Γ a ρ M).bind fun x M => match truth M x with | some false => evE Γ b ρ M | some true => .ok x M | none => .stuck
  | .ite c a b, ρ, M => (evE Γ c ρ M).bind fun x M => match truth M x with | some true => evE Γ a ρ M | some false => evE Γ b ρ M | none => .stuck
  | .cmp op a b, ρ, M => (evE Γ a ρ M).bind fun x M => (evE Γ b ρ M).bind fun y M => ofO ((cmpop op x y M).map .bl) M
  | .chain o1 o2 a b c, ρ, M => (evE Γ a ρ M).bind fun x M => (evE Γ b ρ M).bind fun y M => match cmpop o1 x y M with
    | some true => (evE Γ c ρ M).bind fun z M => ofO ((cmpop o2 y z M).map .bl) M
    | some false => .ok (.bl false) M
    | none => .stuck
  | .idx a i, ρ, M => (evE Γ a ρ M).bind fun x M => (evE Γ i ρ M).bind fun y M => subs x y M
  | .sl a lo hi, ρ, M => (evE Γ a ρ M).bind fun x M => (part lo.isNon (evE Γ lo ρ M) M).bind fun l M => (part hi.isNon (evE Γ hi ρ M) M).bind fun h M => sliceB x l h M
  | .slr a, ρ, M => (evE Γ a ρ M).bind fun x M => sliceRev x M
  | .attr o f, ρ, M => (evE Γ o ρ M).bind fun x M => match x with
    | .ref n => match M[n]? with
      | some (.ins C fs) => if Γ.fld C f then ofO (fs.lookup f) M else .stuck
      | _ => .stuck
    | _ => .stuck
  | .call f es kns kes, ρ, M => (evEs Γ es ρ M).bind fun vs M => (evEs Γ kes ρ M).bind fun ws M => Γ.call f vs (kns.zip ws) M
  | .make C es kns kes, ρ, M => (evEs Γ es ρ M).bind fun vs M => (evEs Γ kes ρ M).bind fun ws M => Γ.make C vs (kns.zip ws) M
  | .meth C m o es kns kes, ρ, M => (evE Γ o ρ M).bind fun x M => match x with
    | .ref n => match M[n]? with
      | some (.ins D fs) => if D = C ∧ fs.lookup m = none then (evEs Γ es ρ M).bind fun vs M => (evEs Γ kes ρ M).bind fun ws M => Γ.call (C ++ Str.ofString "." ++ m) (.ref n :: vs) (kns.zip ws) M else .stuck
      | _ => .stuck
    | _ => .stuck
  | .bcall f es, ρ, M => (evEs Γ es ρ M).bind fun vs M => bcall f vs M
  | .bmeth m o es, ρ, M => (evE Γ o ρ M).bind fun x M => if recvOk m M x then (evEs Γ es ρ M).bind fun vs M => bmeth m x vs M else .stuck
  | .rng es, ρ, M => (evEs Γ es ρ M).bind fun vs M => match rangeOf vs with | some l => chk (decide (vs.length ≤ 2 ∧ l.length ≤ sizeLine)) (.ok (.tup l) M) | none => .stuck
  | .comp k its tg own cond elt, ρ, M => (evEs Γ its ρ M).bind fun vs M => match srcOf k vs M with
    | none => .stuck
    | some src => match src.len M with
      | none => .stuck
      | some len => if len ≤ sizeLine then
          (compL (fun ρ M => (evC Γ cond ρ M).bind fun b M => if b then (evE Γ elt ρ M).bind fun v M => .ok (some v) M else .ok none M) src tg (wipeE ρ own) len len [] M).bind fun l M => new (.lst l) M
        else .stuck
  | .dcomp k its tg own cond ke ve, ρ, M => (evEs Γ its ρ M).bind fun vs M => match srcOf k vs M with
    | none => .stuck
    | some src => match src.len M with
      | none => .stuck
      | some len => if len ≤ sizeLine then
          (dcompL (fun ρ M => (evC Γ cond ρ M).bind fun b M => if b then (evE Γ ke ρ M).bind fun k M => (evE Γ ve ρ M).bind fun v M => .ok (some (k, v)) M else .ok none M) src tg (wipeE ρ own) len len [] M).bind fun l M => new (.dct l) M
        else .stuck
def evEs (Γ : Gam) : List E → Env → Mem → Res (List Val)
  | [], _, M => .ok [] M
  | e :: es, ρ, M => (evE Γ e ρ M).bind fun v M => (evEs Γ es ρ M).bind fun vs M => .ok (v :: vs) M
/-- the tests of a comprehension -/
def evC (Γ : Gam) : List E → Env → Mem → Res Bool
  | [], _, M => .ok true M
  | e :: es, ρ, M => (evE Γ e ρ M).bind fun v M => match truth M v with | some true => evC Γ es ρ M | some false => .ok false M | none => .stuck
end

/-! ### statements -/
inductive Fl where | nx | rt (v : Val) | bk | ct
/-- a statement's end: what comes, the names, the store -/
inductive SR where | ok (f : Fl) (ρ : Env) (M : Mem) | exc (C : Str) (fs : List (Str × Val)) (M : Mem) | stuck
def Res.st {α : Type} (r : Res α) (f : α → Mem → SR) : SR :=
  match r with
  | .ok a M => f a M
  | .exc C fs M => .exc C fs M
  | .stuck => .stuck
def forL (f : Env → Mem → SR) (src : Src) (tg : T) (len : Nat) : Nat → Env → Mem → SR
  | 0, ρ, M => if src.len M = some len then .ok .nx ρ M else .stuck
  | n + 1, ρ, M => match src.at M len (len - (n + 1)) with
    | none => .stuck
    | some v => match asgT M tg v ρ with
      | none => .stuck
      | some ρ' => match f ρ' M with
        | .ok .nx ρ2 M2 => forL f src tg len n ρ2 M2
        | .ok .ct ρ2 M2 => forL f src tg len n ρ2 M2
        | .ok .bk ρ2 M2 => .ok .nx ρ2 M2
        | r => r
def whileL (c : Env → Mem → Res Bool) (f : Env → Mem → SR) : Nat → Env → Mem → SR
  | 0, _, _ => .stuck
  | n + 1, ρ, M => (c ρ M).st fun b M => if b then
      (match f ρ M with
        | .ok .nx ρ2 M2 => whileL c f n ρ2 M2
        | .ok .ct ρ2 M2 => whileL c f n ρ2 M2
        | .ok .bk ρ2 M2 => .ok .nx ρ2 M2
        | r => r) else .ok .nx ρ M
def evT (Γ : Gam) (e : E) (ρ : Env) (M : Mem) : Res Bool := (evE Γ e ρ M).bind fun x M => ofO (truth M x) M
def SR.seq (r : SR) (f : Env → Mem → SR) : SR :=
  match r with
  | .ok .nx ρ M => f ρ M
  | r => r
/-- o[i] = v -/
def storeI (o i v : Val) (M : Mem) : Option Mem :=
  match o with
  | .ref n => match M[n]? with
    | some (.lst vs) => match i with | .int j => (match ixOf j vs.length with | some k => some (M.set n (.lst (vs.set k v))) | none => none) | _ => none
    | some (.dct kvs) => if fits kvs i && decide (kvs.length < sizeLine) then some (M.set n (.dct (dput kvs i v))) else none
    | _ => none
  | _ => none
def putFd (f : Str) (v : Val) : List (Str × Val) → List (Str × Val)
  | [] => [(f, v)]
  | (g, w) :: r => if g = f then (g, v) :: r else (g, w) :: putFd f v r
def storeA (fld : Str → Str → Bool) (o : Val) (f : Str) (v : Val) (M : Mem) : Option Mem :=
  match o with
  | .ref n => match M[n]? with
    | some (.ins C fs) => if fld C f && decide (fs.length < 1000) then some (M.set n (.ins C (putFd f v fs))) else none
    | _ => none
  | _ => none
mutual
def evS (Γ : Gam) : S → Env → Mem → SR
  | .asg t e, ρ, M => (evE Γ e ρ M).st fun v M => match asgT M t v ρ with | some ρ' => .ok .nx ρ' M | none => .stuck
  | .setIdx o i e, ρ, M => (evE Γ e ρ M).st fun v M => (evE Γ o ρ M).st fun x M => (evE Γ i ρ M).st fun y M => match storeI x y v M with | some M' => .ok .nx ρ M' | none => .stuck
  | .setAttr o f e, ρ, M => (evE Γ e ρ M).st fun v M => (evE Γ o ρ M).st fun x M => match storeA Γ.fld x f v M with | some M' => .ok .nx ρ M' | none => .stuck
  | .aug i e, ρ, M => match ρ[i]? with
    | some (some (.int a)) => (evE Γ e ρ M).st fun v M => match v with | .int b => .ok .nx (ρ.set i (some (.int (a + b)))) M | _ => .stuck
    | _ => .stuck
  | .expr e, ρ, M => (evE Γ e ρ M).st fun _ M => .ok .nx ρ M
  | .ret e, ρ, M => (evE Γ e ρ M).st fun v M => .ok (.rt v) ρ M
  | .ite c a b, ρ, M => (evT Γ c ρ M).st fun k M => if k then evSs Γ a ρ M else evSs Γ b ρ M
  | .for k its t body, ρ, M => (evEs Γ its ρ M).st fun vs M => match srcOf k vs M with
    | none => .stuck
    | some src => match src.len M with
      | none => .stuck
      | some len => forL (fun ρ M => evSs Γ body ρ M) src t len len ρ M
  | .while c body, ρ, M => whileL (fun ρ M => evT Γ c ρ M) (fun ρ M => evSs Γ body ρ M) Γ.fuel ρ M
  | .raise C es, ρ, M => .stuck
  | .brk, ρ, M => .ok .bk ρ M
  | .cnt, ρ, M => .ok .ct ρ M
  | .pass, ρ, M => .ok .nx ρ M
def evSs (Γ : Gam) : List S → Env → Mem → SR
  | [], ρ, M => .ok .nx ρ M
  | s :: ss, ρ, M => (evS Γ s ρ M).seq fun ρ M => evSs Γ ss ρ M
end

/-! ### defs -/
structure FD where
  ps : List Str
  dfl : List (Str × Val)
  n : Nat
  body : List S
structure Prg where
  fns : List (Str × FD)
  glb : List (Str × Val)
  cls : List (Str × List Str)
  fuel : Nat
def bindA (fd : FD) : List Str → List Val → List (Str × Val) → Option (List Val)
  | [], [], _ => some []
  | [], _ :: _, _ => none
  | p :: ps, v :: vs, kw => (bindA fd ps vs kw).map (v :: ·)
  | p :: ps, [], kw => match kw.lookup p with
    | some v => (bindA fd ps [] kw).map (v :: ·)
    | none => match fd.dfl.lookup p with
      | some v => (bindA fd ps [] kw).map (v :: ·)
      | none => none
def startE (n : Nat) (vs : List Val) : Env := vs.map some ++ List.replicate (n - vs.length) none
def retOf : SR → Res Val
  | .ok .nx _ M => .ok .non M
  | .ok (.rt v) _ M => .ok v M
  | .ok _ _ _ => .stuck
  | .exc C fs M => .exc C fs M
  | .stuck => .stuck
def fldIn (P : Prg) (C f : Str) : Bool := match P.cls.lookup C with | some fs => fs.contains f | none => false
abbrev CF := Str → List Val → List (Str × Val) → Mem → Res Val
/-- what a body calls: c1 is what defs do, c2 what __init__ does -/
def bodyG (P : Prg) (c1 c2 : CF) : Gam := ⟨fun x => P.glb.lookup x, c1, fun C vs kw M => if (P.cls.lookup C).isSome then (c2 (C ++ Str.ofString ".__init__") (.ref M.length :: vs) kw (M ++ [.ins C []])).bind fun v M' => match v with | .non => .ok (.ref M.length) M' | _ => .stuck else .stuck,
  fldIn P, P.fuel⟩
def runB (Γ : Gam) (fd : FD) (us : List Val) (M : Mem) : Res Val := retOf (evSs Γ fd.body (startE fd.n us) M)
def stepC (P : Prg) (Γ : Gam) : CF := fun f vs kw M => match P.fns.lookup f with
  | none => .stuck
  | some fd => match bindA fd fd.ps vs kw with
    | none => .stuck
    | some us => runB Γ fd us M
def callP (P : Prg) : Nat → CF × CF
  | 0 => (fun _ _ _ _ => .stuck, fun _ _ _ _ => .stuck)
  | k + 1 => let p := callP P k; (stepC P (bodyG P p.1 p.2), p.1)
def callAt (P : Prg) (k : Nat) : CF := (callP P k).1
/-- what a body calls that runs at level k -/
def gam (P : Prg) (k : Nat) : Gam := bodyG P (callP P k).1 (callP P k).2
theorem callAt_succ (P : Prg) (k : Nat) : callAt P (k + 1) = stepC P (gam P k) := rfl
end Mn
end -- Mn2
section -- Mn3
set_option linter.all false
set_option maxRecDepth 100000
namespace Mn
open PySem L2

inductive GK where | fn | cls | val
  deriving DecidableEq
/-- the module's names: what each is; which class has a method; how a def is called (positional values, keywords); the built-in names -/
structure GT where
  glb : List (Str × GK)
  mth : List (Str × Str)
  fsg : List (Str × Nat × List Str)
  csg : List (Str × Nat × List Str)
  msg : List (Str × Str × Nat × List Str)
  blt : List Str
structure CC where
  sc : Scope
  N : List Str
  fn : Str → Bool

def optAll {α : Type} : List (Option α) → Option (List α)
  | [] => some []
  | some a :: r => (optAll r).map (a :: ·)
  | none :: _ => none
def visB (sc : Scope) (x : Str) : Bool := match sc.names.lookup x with
  | some .local => true | some .cell => true | some .free => true | _ => false
def locB (c : CC) (x : Str) : Bool := match c.sc.names.lookup x with
  | some .local => true | some .cell => c.fn x | _ => false
def locL (c : CC) (x : Str) : Bool := match c.sc.names.lookup x with
  | some .local => true | _ => false
def glB (sc : Scope) (x : Str) : Bool := match sc.names.lookup x with
  | some .globalImplicit => true | _ => false
def okN (x : Str) : Bool := !(x == ("__debug__" : Str)) && !(x == ("__classdict__" : Str))
def slotOf (c : CC) (x : Str) : Option Nat := if okN x then c.N.findIdx? (· == x) else none
def bfTab : List (Str × BF) := [("len", .len), ("min", .min), ("max", .max), ("sum", .sum), ("all", .all), ("any", .any), ("sorted", .sorted), ("list", .list), ("tuple", .tuple), ("int", .int), ("str", .str), ("repr", .repr), ("abs", .abs), ("isinstance", .isinstance)]
def bfOf (x : Str) : Option BF := bfTab.lookup x
def tyOf (x : Str) : Option String :=
  if x = "int" then some "int" else if x = "bool" then some "bool" else if x = "str" then some "str" else if x = "tuple" then some "tuple" else
  if x = "list" then some "list" else if x = "dict" then some "dict" else none
def bmTab : List (Str × BM) := [("append", .append), ("pop", .pop), ("insert", .insert), ("count", .count), ("get", .get), ("setdefault", .setdefault), ("extend", .extend)]
def bmOf (x : Str) : Option BM := bmTab.lookup x
def kwOf : List Keyword → Option (List Str × List Expr)
  | [] => some ([], [])
  | ⟨some x, e, _⟩ :: r => (kwOf r).map fun p => (x :: p.1, e :: p.2)
  | ⟨none, _, _⟩ :: _ => none
def T.slots : Nat → T → List Nat
  | _, .nm i => [i]
  | 0, .tp _ => []
  | n + 1, .tp ts => (ts.map (T.slots n)).flatten
def tgC (c : CC) : Nat → Expr → Option T
  | _, .Name x _ => if locB c x then (slotOf c x).map .nm else none
  | n + 1, .Tuple ts _ _ => (optAll (ts.map (tgC c n))).map .tp
  | _, _ => none
def ownOf (N : List Str) (scope : Scope) : List (Str × Nat) :=
  scope.names.filterMap fun y => match y.2 with
    | .local => (N.findIdx? (· == y.1)).map fun i => (y.1, i)
    | .cell => (N.findIdx? (· == y.1)).map fun i => (y.1, i)
    | _ => none
def blkCC (c : CC) (scope : Scope) : CC := ⟨relS scope c.sc, c.N, fun x => scope.names.lookup x == some .cell⟩
def boolE : BoolOp → E → E → E
  | .And, a, b => .and a b
  | .Or, a, b => .or a b
def boolC (op : BoolOp) : List E → Option E
  | [] => none
  | [a] => some a
  | a :: r => (boolC op r).map (boolE op a)
/-- a global call's name that isn't the module's own -/
def bltB (G : GT) (c : CC) (x : Str) : Bool := glB c.sc x && G.blt.contains x && okN x && !(x == ("__name__" : Str))
def isComp : Expr → Bool
  | .ListComp .. => true | .DictComp .. => true | .SetComp .. => true | _ => false
/-- a call without arguments of a name -/
def isBare : Expr → Bool
  | .Call (.Name _ _) [] [] _ => true
  | _ => false
def isStar : Expr → Bool
  | .Starred .. => true
  | _ => false
def isSlice : Expr → Bool
  | .Slice .. => true
  | _ => false

section
variable (G : GT) (rec : CC → Expr → Option E) (c : CC)
def recs (es : List Expr) : Option (List E) := if es.length ≤ 1000 && !es.any isStar then optAll (es.map (rec c)) else none
def cName (x : Str) : Option E :=
  if visB c.sc x then (slotOf c x).map .var
  else if glB c.sc x && okN x then
    (if (G.glb.lookup x).isSome then some (.glob x)
    else if bltB G c x then (tyOf x).map .ty else none)
  else none
def cConst : Const → Option E
  | .none => some .non
  | .bool b => some (.bl b)
  | .int i => some (.int i)
  | .str s => some (.str s)
  | _ => none
def cCmp (a : Expr) : List CmpOp → List Expr → Option E
  | [op], [b] => if behindInMarks op b then none else (rec c a).bind fun x => (rec c b).map fun y => .cmp op x y
  | [op, op'], [b, d] => if behindInMarks op' d then none else (rec c a).bind fun x => (rec c b).bind fun y => (rec c d).map fun z => .chain op op' x y z
  | _, _ => none
/-- a part of a slice -/
def cPart : Option Expr → Option E
  | none => some .non
  | some e => (rec c e).bind fun x => if x.isNon then none else some x
def cSub (a : Expr) : Expr → Option E
  | .Slice lo hi none _ => (rec c a).bind fun x => (cPart rec c lo).bind fun l => (cPart rec c hi).map fun h => .sl x l h
  | .Slice none none (some (.UnaryOp .USub (.Constant (.int 1) _ _) _)) _ => (rec c a).map .slr
  | .Slice _ _ _ _ => none
  | i => (rec c a).bind fun x => (rec c i).map fun y => .idx x y
/-- how a def is called -/
def cSig (f : Str) (n : Nat) (ks : List Str) : Bool := G.fsg.contains (f, n, ks)
def cSigC (f : Str) (n : Nat) (ks : List Str) : Bool := G.csg.contains (f, n, ks)
def cSigM (C m : Str) (n : Nat) (ks : List Str) : Bool := G.msg.contains (C, m, n, ks)
def cKw (kws : List Keyword) : Option (List Str × List E) := (kwOf kws).bind fun p => (recs rec c p.2).map fun es => (p.1, es)
def cCall (f : Str) (args : List Expr) (kws : List Keyword) : Option E :=
  match G.glb.lookup f with
  | some .fn => (recs rec c args).bind fun as => (cKw rec c kws).bind fun p => if glB c.sc f && okN f && cSig G f args.length p.1 then some (.call f as p.1 p.2) else none
  | some .cls => (recs rec c args).bind fun as => (cKw rec c kws).bind fun p => if glB c.sc f && okN f && cSigC G f args.length p.1 then some (.make f as p.1 p.2) else none
  | _ => none
/-- list(range(..)), tuple(range(..)) -/
def cRng (f : Str) : List Expr → Option E
  | [.Call (.Name g _) gs [] _] => if (f = "list" || f = "tuple") && g = "range" && bltB G c g && (gs.length == 1 || gs.length == 2) then (recs rec c gs).bind fun gs' => (bfOf f).map fun b => .bcall b [.rng gs'] else none
  | _ => none
def cBlt (f : Str) (args : List Expr) : Option E :=
  if bltB G c f then
    (match cRng G rec c f args with
    | some x => some x
    | none => if args.length == 0 then none else (recs rec c args).bind fun as => (bfOf f).map fun b => .bcall b as)
  else none
def cMeth (o : Expr) (m : Str) (apos pos : Pos) (args : List Expr) (kws : List Keyword) : Option E :=
  if apos.endLine == pos.line && !isBare o && decide (args.length + kws.length < 28) then
    (match G.mth.lookup m with
    | some C => (rec c o).bind fun x => (recs rec c args).bind fun as => (cKw rec c kws).bind fun p => if cSigM G C m args.length p.1 then some (.meth C m x as p.1 p.2) else none
    | none => match kws with
      | [] => (rec c o).bind fun x => (recs rec c args).bind fun as => (bmOf m).map fun b => .bmeth b x as
      | _ => none)
  else none
/-- what a for walks -/
def cIt (tg iter : Expr) : Option (IK × List E) :=
  match iter with
  | .Call (.Name f p) args kws pos =>
    if bltB G c f then
      (if f = "range" then (match kws with | [] => if args.length == 1 || args.length == 2 || args.length == 3 then (recs rec c args).map fun as => (.range, as) else none | _ => none)
      else if f = "enumerate" then (match kws, args, tg with | [], [a], .Tuple _ _ _ => (recs rec c [a]).map fun x => (.enum, x) | _, _, _ => none)
      else if f = "reversed" then (match kws, args with
        | [], [.Call (.Name g _) gs [] _] => if g = "range" && bltB G c g && (gs.length == 1 || gs.length == 2) then (recs rec c gs).map fun gs' => (.rev, [.rng gs']) else (recs rec c args).map fun x => (.rev, x)
        | [], [a] => (recs rec c [a]).map fun x => (.rev, x)
        | _, _ => none)
      else if f = "zip" then (match kws, args, tg with
        | [], [a, b], .Tuple _ _ _ => (recs rec c [a, b]).map fun x => (.zip, x)
        | _, _, _ => none)
      else (recs rec c [.Call (.Name f p) args kws pos]).map fun x => (.ex, x))
    else (recs rec c [.Call (.Name f p) args kws pos]).map fun x => (.ex, x)
  | .Set .. => none
  | e => (recs rec c [e]).map fun x => (.ex, x)
def cComp (elt : Expr) (scope : Scope) : List Comprehension → Option E
  | [⟨tg, iter, ifs, 0⟩] =>
    if blkC c.N c.sc scope (ownOf c.N scope) && decide (ifs.length ≤ 1) then
      (cIt G rec c tg iter).bind fun p => (tgC (blkCC c scope) 8 tg).bind fun t => (recs rec (blkCC c scope) ifs).bind fun cs => (rec (blkCC c scope) elt).bind fun e =>
        if (t.slots 8).all fun i => ((ownOf c.N scope).map (·.2)).contains i then some (.comp p.1 p.2 t ((ownOf c.N scope).map (·.2)) cs e) else none
    else none
  | _ => none
def cDComp (ke ve : Expr) (scope : Scope) : List Comprehension → Option E
  | [⟨tg, iter, ifs, 0⟩] =>
    if blkC c.N c.sc scope (ownOf c.N scope) && decide (ifs.length ≤ 1) then
      (cIt G rec c tg iter).bind fun p => (tgC (blkCC c scope) 8 tg).bind fun t => (recs rec (blkCC c scope) ifs).bind fun cs => (rec (blkCC c scope) ke).bind fun e => (rec (blkCC c scope) ve).bind fun e' =>
        if (t.slots 8).all fun i => ((ownOf c.N scope).map (·.2)).contains i then some (.dcomp p.1 p.2 t ((ownOf c.N scope).map (·.2)) cs e e') else none
    else none
  | _ => none
def cE : Expr → Option E
  | .Name x _ => cName G c x
  | .Constant k _ _ => cConst k
  | .Tuple es _ _ => (recs rec c es).map .tup
  | .List es _ => (recs rec c es).map .lst
  | .Dict [] [] _ => some (.dct [] [])
  | .BinOp a op b _ => (rec c a).bind fun x => (rec c b).map fun y => .bin op x y
  | .UnaryOp .USub a _ => (rec c a).map .neg
  | .UnaryOp .Not a _ => (rec c a).map .not
  | .BoolOp op es _ => (recs rec c es).bind (boolC op)
  | .IfExp t a b _ => (rec c t).bind fun x => (rec c a).bind fun y => (rec c b).map fun z => .ite x y z
  | .Compare a ops bs _ => cCmp rec c a ops bs
  | .Attribute o f _ => if isBare o then none else (rec c o).map fun x => .attr x f
  | .Subscript a i _ => cSub rec c a i
  | .ListComp elt gens scope _ => cComp G rec c elt scope gens
  | .Call (.Name f _) args kws _ => match cCall G rec c f args kws with
    | some x => some x
    | none => match kws with | [] => cBlt G rec c f args | _ => none
  | .Call (.Attribute o m apos) args kws pos => cMeth G rec c o m apos pos args kws
  | _ => none
end
def convE (G : GT) : Nat → CC → Expr → Option E
  | 0 => fun _ _ => none
  | n + 1 => fun c e => cE G (convE G n) c e

def dropDoc : List Stmt → List Stmt
  | .Expr (.Constant (.str _) _ _) _ :: r => r
  | l => l
section
variable (G : GT) (recE : CC → Expr → Option E) (rec : CC → Stmt → Option S) (c : CC)
def recSs (l : List Stmt) : Option (List S) := optAll (l.map (rec c))
def nameOf : Expr → Option Str
  | .Name x _ => some x
  | _ => none
/-- may a comprehension be stored straight into the name -/
def swYes (x : Str) (px p : Pos) (scope : Scope) : Bool := locL c x && (px.line == p.line) && !(scope.names.any fun (n, k) => n == x && (k == .local || k == .cell))
def swOk (x : Str) (px : Pos) : Expr → Bool
  | .ListComp _ _ _ _ => true
  | .DictComp .. => false
  | .SetComp .. => false
  | _ => true
/-- a, b = x, y and a, b, c = x, y, z: plain local names on one line -/
def isPar : Expr → Bool
  | .Tuple .. => true
  | _ => false
def lineOf (ts : List Expr) : Nat := (ts.head?.map (·.pos.line)).getD 0
def plainTs (ts : List Expr) : Bool := ts.all fun t => match t with | .Name x p => locL c x && p.line == lineOf ts | _ => false
def parOk (ts vs : List Expr) : Bool :=
  (ts.length == 2 || ts.length == 3) && vs.length == ts.length && plainTs c ts && decide ((ts.filterMap nameOf).Nodup) && !vs.all (foldedForSure 8) && !vs.all (constantsAlone 8)
/-- surely stored as they come -/
def parNo (ts vs : List Expr) : Bool :=
  !(ts.length == 2 || ts.length == 3) || vs.length != ts.length || vs.all (foldedForSure 8) || ts.any fun t => match t with | .Name x p => !(locL c x && p.line == lineOf ts) | _ => true
def cAsg (tg e : Expr) : Option S :=
  match tg with
  | .Name x px => if swOk x px e then (tgC c 8 tg).bind fun t => (recE c e).map fun e' => .asg t e' else none
  | .Tuple ts _ _ => match e with
    | .Tuple vs _ _ => if parOk c ts vs || parNo c ts vs then (tgC c 8 tg).bind fun t => (recE c e).map fun e' => .asg t e' else none
    | e => if isComp e then none else (tgC c 8 tg).bind fun t => (recE c e).map fun e' => .asg t e'
  | .Subscript o i _ => if isSlice i || isComp e then none else (recE c o).bind fun x => (recE c i).bind fun y => (recE c e).map fun z => .setIdx x y z
  | .Attribute o f _ => if isComp e then none else (recE c o).bind fun x => (recE c e).map fun z => .setAttr x f z
  | _ => none
def cS : Stmt → Option S
  | .Assign [tg] e _ => cAsg recE c tg e
  | .AugAssign (.Name x px) .Add e _ => (tgC c 8 (.Name x px)).bind fun t => match t with | .nm i => (recE c e).map (.aug i) | _ => none
  | .Expr e _ => if isComp e then none else (recE c e).map .expr
  | .Return (some e) _ => (recE c e).map .ret
  | .Return none _ => some (.ret .non)
  | .If t a b _ => (recE c t).bind fun x => (recSs rec c a).bind fun y => (recSs rec c b).map fun z => .ite x y z
  | .For tg iter body [] _ => (tgC c 8 tg).bind fun t => (cIt G recE c tg iter).bind fun p => (recSs rec c body).map fun b => .for p.1 p.2 t b
  | .While t body [] _ => (recE c t).bind fun x => (recSs rec c body).map fun b => .while x b
  | .Break _ => some .brk
  | .Continue _ => some .cnt
  | .Pass _ => some .pass
  | _ => none
end
def convS (G : GT) : Nat → CC → Stmt → Option S
  | 0 => fun _ _ => none
  | n + 1 => fun c s => cS G (convE G 24) (convS G n) c s
def convB (G : GT) (c : CC) (body : List Stmt) : Option (List S) := recSs (convS G 16) c (dropDoc body)
/-- a def of the text: parameters first, then its other names -/
def namesOf (ps : List Str) (sc : Scope) : List Str :=
  ps ++ (sc.names.filterMap fun y => match y.2 with
    | .local => if ps.contains y.1 then none else some y.1
    | .cell => if ps.contains y.1 then none else some y.1
    | _ => none)
end Mn
end -- Mn3
section -- Sd1
set_option linter.all false
set_option autoImplicit false
set_option maxRecDepth 100000
namespace Mn
open PySem L2

/-- the program, the world, the written part, the module's names -/
structure Wo where
  prog : Program
  w : World
  K : PySem.W.Frag
  mg : Str → Option Value

section
variable (W : Wo)
def TK (H H' : Hp) : Prop := ∀ a xs, SqT W.K H a xs → SqT W.K H' a xs
mutual
inductive RV (φ : List Addr) (H : Hp) : Val → V → Prop
  | non : RV φ H .non .non
  | bl (b : Bool) : RV φ H (.bl b) (.bl b)
  | int (i : Int) : RV φ H (.int i) (.int i)
  | str (s : Str) : RV φ H (.str s) (.str s)
  | ty (t : String) : RV φ H (.ty t) (.ty t)
  | ref {n : Nat} {a : Addr} : φ[n]? = some a → RV φ H (.ref n) (.ref a)
  | glo {x : Str} {a : Addr} : W.mg x = some (.ref a) → RV φ H (.glo x) (.ref a)
  | tup {vs : List Val} {xs : List V} {a : Addr} : SqT W.K H a xs → RVs φ H vs xs → RV φ H (.tup vs) (.ref a)
inductive RVs (φ : List Addr) (H : Hp) : List Val → List V → Prop
  | nil : RVs φ H [] []
  | cons {v : Val} {u : V} {vs : List Val} {us : List V} : RV φ H v u → RVs φ H vs us → RVs φ H (v :: vs) (u :: us)
end
/-- the store grows, tuples stay -/
structure Ex0 (φ : List Addr) (H : Hp) (φ' : List Addr) (H' : Hp) : Prop where
  pre : ∀ (n : Nat) (a : Addr), φ[n]? = some a → φ'[n]? = some a
  tk : TK W H H'
structure Ext (φ : List Addr) (H : Hp) (φ' : List Addr) (H' : Hp) : Prop where
  pre : ∀ (n : Nat) (a : Addr), φ[n]? = some a → φ'[n]? = some a
  tk : TK W H H'
  /-- what is tracked, and no object of the store (0 is the script), stays -/
  frm : ∀ (a : Addr) (u : HO), H a = some u → (∀ n, 0 < n → φ[n]? ≠ some a) → H' a = some u ∧ ∀ n, 0 < n → φ'[n]? ≠ some a
end
section
variable {W : Wo} {φ φ' φ2 : List Addr} {H H' H2 : Hp}
theorem TK.refl : TK W H H := fun _ _ h => h
theorem TK.trans (a : TK W H H') (b : TK W H' H2) : TK W H H2 := fun x xs h => b x xs (a x xs h)
theorem Ext.refl : Ext W φ H φ H := ⟨fun _ _ h => h, .refl, fun _ _ e h => ⟨e, h⟩⟩
theorem Ext.trans (a : Ext W φ H φ' H') (b : Ext W φ' H' φ2 H2) : Ext W φ H φ2 H2 := ⟨fun n x h => b.pre n x (a.pre n x h), a.tk.trans b.tk, fun x u e h => let ⟨e1, h1⟩ := a.frm x u e h; b.frm x u e1 h1⟩
theorem Ext.e0 (e : Ext W φ H φ' H') : Ex0 W φ H φ' H' := ⟨e.pre, e.tk⟩
mutual
theorem RV.mono0 (e : Ex0 W φ H φ' H') : ∀ {v : Val} {u : V}, RV W φ H v u → RV W φ' H' v u
  | _, _, .non => .non
  | _, _, .bl b => .bl b
  | _, _, .int i => .int i
  | _, _, .str s => .str s
  | _, _, .ty t => .ty t
  | _, _, .ref h => .ref (e.pre _ _ h)
  | _, _, .glo h => .glo h
  | _, _, .tup h hs => .tup (e.tk _ _ h) (RVs.mono0 e hs)
theorem RVs.mono0 (e : Ex0 W φ H φ' H') : ∀ {vs : List Val} {us : List V}, RVs W φ H vs us → RVs W φ' H' vs us
  | _, _, .nil => .nil
  | _, _, .cons h hs => .cons (RV.mono0 e h) (RVs.mono0 e hs)
end
theorem RV.mono (e : Ext W φ H φ' H') {v : Val} {u : V} (h : RV W φ H v u) : RV W φ' H' v u := h.mono0 e.e0
theorem RVs.mono (e : Ext W φ H φ' H') {vs : List Val} {us : List V} (h : RVs W φ H vs us) : RVs W φ' H' vs us := h.mono0 e.e0
theorem RVs.length : ∀ {vs : List Val} {us : List V}, RVs W φ H vs us → vs.length = us.length
  | _, _, .nil => rfl
  | _, _, .cons _ hs => by simp [RVs.length hs]
theorem RVs.get : ∀ {vs : List Val} {us : List V} {i : Nat} {v : Val}, RVs W φ H vs us → vs[i]? = some v → ∃ u, us[i]? = some u ∧ RV W φ H v u
  | _, _, i, _, .nil, e => by simp at e
  | _, _, 0, _, .cons h _, e => by simp at e; subst e; exact ⟨_, rfl, h⟩
  | _, _, i + 1, v, .cons _ hs, e => by
    obtain ⟨u, h1, h2⟩ := RVs.get (i := i) (v := v) hs (by simpa using e)
    exact ⟨u, by simpa using h1, h2⟩
theorem RVs.append : ∀ {vs ws : List Val} {us xs : List V}, RVs W φ H vs us → RVs W φ H ws xs → RVs W φ H (vs ++ ws) (us ++ xs)
  | _, _, _, _, .nil, s => s
  | _, _, _, _, .cons h hs, s => .cons h (RVs.append hs s)
theorem RVs.drop : ∀ (n : Nat) {vs : List Val} {us : List V}, RVs W φ H vs us → RVs W φ H (vs.drop n) (us.drop n)
  | 0, _, _, h => h
  | _ + 1, _, _, .nil => .nil
  | n + 1, _, _, .cons _ hs => RVs.drop n hs
theorem RVs.take : ∀ (n : Nat) {vs : List Val} {us : List V}, RVs W φ H vs us → RVs W φ H (vs.take n) (us.take n)
  | 0, _, _, _ => .nil
  | _ + 1, _, _, .nil => .nil
  | n + 1, _, _, .cons h hs => .cons h (RVs.take n hs)
theorem RVs.reverse {vs : List Val} {us : List V} (h : RVs W φ H vs us) : RVs W φ H vs.reverse us.reverse := by
  induction vs generalizing us with
  | nil => cases h; exact .nil
  | cons v vs ih =>
    cases h with
    | cons h hs =>
      rw [List.reverse_cons, List.reverse_cons]
      exact (ih hs).append (.cons h .nil)
theorem RVs.set : ∀ (i : Nat) {vs : List Val} {us : List V} {v : Val} {u : V}, RV W φ H v u → RVs W φ H vs us → RVs W φ H (vs.set i v) (us.set i u)
  | _, _, _, _, _, _, .nil => .nil
  | 0, _, _, _, _, r, .cons _ hs => .cons r hs
  | i + 1, _, _, _, _, r, .cons h hs => .cons h (RVs.set i r hs)
theorem RVs.eraseIdx : ∀ (i : Nat) {vs : List Val} {us : List V}, RVs W φ H vs us → RVs W φ H (vs.eraseIdx i) (us.eraseIdx i)
  | _, _, _, .nil => .nil
  | 0, _, _, .cons _ hs => hs
  | i + 1, _, _, .cons h hs => .cons h (RVs.eraseIdx i hs)
theorem RVs.dropLast {vs : List Val} {us : List V} (h : RVs W φ H vs us) : RVs W φ H vs.dropLast us.dropLast := by
  rw [List.dropLast_eq_take, List.dropLast_eq_take, h.length]
  exact h.take _
theorem RVs.rep {vs : List Val} {us : List V} (h : RVs W φ H vs us) : ∀ k : Nat, RVs W φ H (List.replicate k vs).flatten (List.replicate k us).flatten
  | 0 => .nil
  | k + 1 => by
    rw [List.replicate_succ, List.replicate_succ, List.flatten_cons, List.flatten_cons]
    exact h.append (h.rep k)
theorem RVs.of_get : ∀ {vs : List Val} {us : List V}, vs.length = us.length → (∀ (i : Nat) (v : Val), vs[i]? = some v → ∃ u, us[i]? = some u ∧ RV W φ H v u) → RVs W φ H vs us
  | [], [], _, _ => .nil
  | v :: vs, u :: us, hl, h => by
    obtain ⟨u', e, r⟩ := h 0 v rfl
    simp at e; subst e
    refine .cons r (RVs.of_get (by simpa using hl) fun i w hw => ?_)
    obtain ⟨x, e, r⟩ := h (i + 1) w (by simpa using hw)
    exact ⟨x, by simpa using e, r⟩
  | [], _ :: _, hl, _ => by simp at hl
  | _ :: _, [], hl, _ => by simp at hl

/-! ### the names -/
/-- the names' values -/
structure RE (W : Wo) (φ : List Addr) (H : Hp) (ρ : Env) (σ : L2.St) : Prop where
  len : ρ.length = σ.length
  get : ∀ (i : Nat) (v : Val), ρ[i]? = some (some v) → ∃ u, σ[i]? = some (some u) ∧ RV W φ H v u
theorem RE.mono {ρ : Env} {σ : L2.St} (e : Ext W φ H φ' H') (r : RE W φ H ρ σ) : RE W φ' H' ρ σ :=
  ⟨r.len, fun i v h => let ⟨u, h1, h2⟩ := r.get i v h; ⟨u, h1, h2.mono e⟩⟩
theorem RE.set {ρ : Env} {σ : L2.St} {v : Val} {u : V} (i : Nat) (r : RE W φ H ρ σ) (h : RV W φ H v u) : RE W φ H (ρ.set i (some v)) (σ.set i (some u)) := by
  refine ⟨by simpa using r.len, fun j w hj => ?_⟩
  by_cases e : i = j
  · subst e
    by_cases hi : i < ρ.length
    · rw [List.getElem?_set_self hi] at hj
      cases hj
      exact ⟨u, by rw [List.getElem?_set_self (by rw [← r.len]; exact hi)], h⟩
    · rw [List.getElem?_eq_none (by simpa using hi)] at hj
      cases hj
  · rw [List.getElem?_set_ne e] at hj ⊢
    exact r.get j w hj
theorem RE.wipe {ρ : Env} {σ : L2.St} (r : RE W φ H ρ σ) : ∀ vs : List Nat, RE W φ H (wipeE ρ vs) (L2.wipe σ vs)
  | [] => r
  | v :: vs => by
    have ih := r.wipe vs
    refine ⟨by simp [wipeE, L2.wipe, ih.len], fun j w hj => ?_⟩
    unfold wipeE at hj
    unfold L2.wipe
    by_cases e : v = j
    · subst e
      by_cases hi : v < (wipeE ρ vs).length
      · rw [List.getElem?_set_self hi] at hj; cases hj
      · rw [List.getElem?_eq_none (by simpa using hi)] at hj; cases hj
    · rw [List.getElem?_set_ne e] at hj ⊢
      exact ih.get j w hj
end

/-! ### the store -/
/-- a dict's keys, ints and texts -/
inductive RK : Val → Key → Prop
  | int (i : Int) : RK (.int i) (.inl i)
  | str (s : Str) : RK (.str s) (.inr s)
mutual
/-- a key of tuples -/
def nkey : Val → NestedKey
  | .int i => .num i
  | .str s => .text s
  | .tup vs => .tup (nkeys vs)
  | _ => .none
def nkeys : List Val → List NestedKey
  | [] => []
  | v :: vs => nkey v :: nkeys vs
end
section
variable (W : Wo) (φ : List Addr) (H : Hp)
/-- a dict's pairs: ints and texts as keys -/
abbrev RKs : List (Val × Val) → List (Key × V) → Prop := Paired fun p q => RK p.1 q.1 ∧ RV W φ H p.2 q.2
/-- .. tuples as keys, by the library's entries -/
abbrev RTs : List (Val × Val) → List (NestedKey × Addr × Value) → Prop :=
  Paired fun p x => nkey p.1 = x.1 ∧ RV W φ H p.1 (.ref x.2.1) ∧ ∃ u, RV W φ H p.2 u ∧ RelV u x.2.2
structure DTup (a : Addr) (kvs : List (Val × Val)) : Prop where
  ne : kvs ≠ []
  keys : (kvs.all fun p => tupK p.1) = true
  sys : (a == sysModules) = false
  sz : kvs.length ≤ sizeLine
  ob : ∃ (o : PySem.Obj) (es : Array DictEntry) (ep : Nat) (xs : List (NestedKey × Addr × Value)), H a = some (.ext fun h => h.get? a = some o) ∧ o.ExactDict ∧ o.data = .dict es ep ∧
    es.toList = xs.map (entryOfKey (nestedKind W.prog W.w)) ∧ (xs.map (·.1)).Nodup ∧ RTs W φ H kvs xs
end
end Mn
end -- Sd1
section -- Sd2
set_option linter.all false
set_option autoImplicit false
set_option maxRecDepth 100000
namespace Mn
open PySem L2

/-- the attributes -/
abbrev RFs (W : Wo) (φ : List Addr) (H : Hp) : List (Str × Val) → List (Str × V) → Prop := Paired fun p q => p.1 = q.1 ∧ RV W φ H p.2 q.2
/-- what may be read as a list alone (the script) -/
def RoL (K : PySem.W.Frag) (H : Hp) (a : Addr) (xs : List V) : Prop :=
  (∃ o, H a = some (.frz o (.lst xs))) ∨ ∃ (o : PySem.Obj) (its : Array Value) (n : Nat), K.lookup a = some o ∧ o.cls = .type "list" ∧ o.dict = none ∧ o.data = .seq its n ∧ its.size ≤ sizeLine ∧ Vals xs its.toList
/-- an object of the store stands at a -/
def RO (W : Wo) (φ : List Addr) (H : Hp) (a : Addr) : Obj → Prop
  | .lst vs => ∃ xs, H a = some (.lst xs) ∧ RVs W φ H vs xs
  | .rol vs => ∃ xs, RoL W.K H a xs ∧ RVs W φ H vs xs
  | .dct kvs => (((kvs.all fun p => leafK p.1) = true ∧ ∃ kk, H a = some (.dK kk) ∧ RKs W φ H kvs kk) ∨ DTup W φ H a kvs)
  | .ins C fs => ∃ Ca dx us, W.mg C = some (.ref Ca) ∧ H a = some (.ins Ca dx us) ∧ RFs W φ H fs us
def owns : Obj → Bool
  | .rol _ => false
  | _ => true
structure RM (W : Wo) (φ : List Addr) (M : Mem) (H : Hp) : Prop where
  len : φ.length = M.length
  ne : 0 < M.length
  own : ∀ (n : Nat) (o : Obj), M[n]? = some o → (owns o = true ↔ 0 < n)
  inj : ∀ (n m : Nat) (a : Addr) (on om : Obj), M[n]? = some on → M[m]? = some om → owns on = true → owns om = true → φ[n]? = some a → φ[m]? = some a → n = m
  obj : ∀ (n : Nat) (o : Obj) (a : Addr), M[n]? = some o → φ[n]? = some a → RO W φ H a o

section
variable {W : Wo} {φ φ' φ2 : List Addr} {M M' : Mem} {H H' H2 : Hp}
theorem Paired.mono {α β : Type} {F G : α → β → Prop} {l1 : List α} {l2 : List β} (p : Paired F l1 l2) (f : ∀ a b, F a b → G a b) : Paired G l1 l2 := by
  induction p with
  | nil => exact .nil
  | cons r _ ih => exact .cons (f _ _ r) ih
theorem TK.upd {a : Addr} {o : HO} (h : H a = none ∨ Mut (H a)) : TK W H (upd H a o) := by
  intro b xs hx
  have key : ∀ u, H b = some u → ¬ Mut (some u) → b ≠ a := fun u e nm z => by
    subst z
    rcases h with h | h
    · rw [h] at e; cases e
    · rw [e] at h; exact nm h
  rcases hx with (hx | ⟨o', hx⟩) | hx
  · exact .inl (.inl (by rw [upd_ne (key _ hx (fun z => z))]; exact hx))
  · exact .inl (.inr ⟨o', by rw [upd_ne (key _ hx (fun z => z))]; exact hx⟩)
  · exact .inr hx
theorem Ext.upd {a : Addr} {o : HO} (h : H a = none ∨ (Mut (H a) ∧ ∃ n, 0 < n ∧ φ[n]? = some a)) : Ext W φ H φ (upd H a o) := by
  refine ⟨fun _ _ e => e, TK.upd (h.imp (fun z => z) fun z => z.1), fun b u e hb => ⟨?_, hb⟩⟩
  rw [upd_ne (fun z => ?_)]
  · exact e
  · subst z
    rcases h with h | ⟨_, n, h1, h2⟩
    · rw [h] at e; cases e
    · exact hb n h1 h2
theorem Ext.new {p : Addr} {o : HO} (h : H p = none) : Ext W φ H (φ ++ [p]) (L2.upd H p o) := by
  refine ⟨fun n a e => by rw [List.getElem?_append_left (List.getElem?_eq_some_iff.mp e).1]; exact e, TK.upd (.inl h), fun b u e hb => ?_⟩
  have ne : b ≠ p := fun z => by subst z; rw [h] at e; cases e
  refine ⟨by rw [upd_ne ne]; exact e, fun n hn q => ?_⟩
  by_cases hl : n < φ.length
  · rw [List.getElem?_append_left hl] at q; exact hb n hn q
  · rw [List.getElem?_append_right (by omega)] at q
    cases hk : n - φ.length with
    | zero => rw [hk] at q; simp at q; exact ne q.symm
    | succ k => rw [hk] at q; simp at q
theorem RO.keep0 {a : Addr} {o : Obj} (r : RO W φ H a o) (e : Ex0 W φ H φ' H') (h : H' a = H a) : RO W φ' H' a o := by
  cases o with
  | lst vs => obtain ⟨xs, h1, h2⟩ := r; exact ⟨xs, h.trans h1, h2.mono0 e⟩
  | rol vs =>
    obtain ⟨xs, h1, h2⟩ := r
    refine ⟨xs, ?_, h2.mono0 e⟩
    rcases h1 with ⟨o, h1⟩ | h1
    · exact .inl ⟨o, h.trans h1⟩
    · exact .inr h1
  | ins C fs =>
    obtain ⟨Ca, dx, us, h0, h1, h2⟩ := r
    exact ⟨Ca, dx, us, h0, h.trans h1, Paired.mono h2 fun a b z => ⟨z.1, z.2.mono0 e⟩⟩
  | dct kvs =>
    rcases r with ⟨h0, kk, h1, h2⟩ | ⟨ne, hk, hs, hz, o, es, ep, xs, h1, h3, h4, h5, h6, h7⟩
    · exact .inl ⟨h0, kk, h.trans h1, Paired.mono h2 fun a b z => ⟨z.1, z.2.mono0 e⟩⟩
    · exact .inr ⟨ne, hk, hs, hz, o, es, ep, xs, h.trans h1, h3, h4, h5, h6, Paired.mono h7 fun a b z => ⟨z.1, z.2.1.mono0 e, let ⟨u, z1, z2⟩ := z.2.2; ⟨u, z1.mono0 e, z2⟩⟩⟩
theorem RO.keep {a : Addr} {o : Obj} (r : RO W φ H a o) (e : Ext W φ H φ' H') (h : H' a = H a) : RO W φ' H' a o := r.keep0 e.e0 h
/-- an own object is tracked, and may be changed -/
theorem RO.mut {a : Addr} {o : Obj} (r : RO W φ H a o) (h : owns o = true) : Mut (H a) := by
  cases o with
  | lst vs => obtain ⟨xs, h1, h2⟩ := r; rw [h1]; trivial
  | rol vs => cases h
  | ins C fs => obtain ⟨Ca, dx, us, h0, h1, h2⟩ := r; rw [h1]; trivial
  | dct kvs =>
    rcases r with ⟨h0, kk, h1, h2⟩ | ⟨ne, hk, hs, hz, o, es, ep, xs, h1, _⟩
    · rw [h1]; trivial
    · rw [h1]; trivial
/-- another address changes -/
theorem RO.other0 {a b : Addr} {o : Obj} {u : HO} (r : RO W φ H a o) (hb : H b = none ∨ Mut (H b)) (hne : owns o = true → a ≠ b) (e : Ex0 W φ H φ' (upd H b u)) : RO W φ' (upd H b u) a o := by
  by_cases h : a = b
  · cases ho : owns o with
    | true => exact absurd h (hne ho)
    | false =>
      cases o with
      | rol vs =>
        obtain ⟨xs, h1, h2⟩ := r
        refine ⟨xs, ?_, h2.mono0 e⟩
        rcases h1 with ⟨o, h1⟩ | h1
        · subst h
          rcases hb with hb | hb
          · rw [hb] at h1; cases h1
          · rw [h1] at hb; exact hb.elim
        · exact .inr h1
      | lst vs => cases ho
      | ins C fs => cases ho
      | dct kvs => cases ho
  · exact r.keep0 e (upd_ne h)
theorem RO.other {a b : Addr} {o : Obj} {u : HO} (r : RO W φ H a o) (hb : H b = none ∨ Mut (H b)) (hne : owns o = true → a ≠ b) (e : Ext W φ H φ' (upd H b u)) : RO W φ' (upd H b u) a o := r.other0 hb hne e.e0
theorem RM.out (r : RM W φ M H) {p : Addr} (hp : H p = none) : ∀ n, 0 < n → φ[n]? ≠ some p := fun n h e => by
  have hl : n < M.length := by rw [← r.len]; exact (List.getElem?_eq_some_iff.mp e).1
  have hm : M[n]? = some M[n] := by simp [hl]
  have z := (r.obj n _ p hm e).mut ((r.own n _ hm).mpr h)
  rw [hp] at z; exact z
/-- beside the store an object comes, or changes -/
theorem RM.aside (r : RM W φ M H) {p : Addr} {u : HO} (hp : H p = none ∨ Mut (H p)) (hn : ∀ n, 0 < n → φ[n]? ≠ some p) : RM W φ M (upd H p u) :=
  ⟨r.len, r.ne, r.own, r.inj, fun n o a h1 h2 => (r.obj n o a h1 h2).other0 hp (fun z e => by subst e; exact hn n ((r.own n o h1).mp z) h2) ⟨fun _ _ z => z, TK.upd hp⟩⟩
theorem Ext.aside (e : Ext W φ H φ' H') {p : Addr} {u : HO} (h0 : H p = none) (hp : H' p = none ∨ Mut (H' p)) : Ext W φ H φ' (L2.upd H' p u) :=
  ⟨e.pre, e.tk.trans (TK.upd hp), fun a v ha hn => by
    obtain ⟨z1, z2⟩ := e.frm a v ha hn
    exact ⟨by rw [upd_ne (fun z => by subst z; rw [h0] at ha; cases ha)]; exact z1, z2⟩⟩
theorem RM.new {p : Addr} {o : Obj} {u : HO} (r : RM W φ M H) (hp : H p = none) (ho : owns o = true) (h : RO W (φ ++ [p]) (upd H p u) p o) : RM W (φ ++ [p]) (M ++ [o]) (upd H p u) := by
  have notp : ∀ (n : Nat) (on : Obj), M[n]? = some on → owns on = true → φ[n]? ≠ some p := fun n on hn hon e => by
    have z := (r.obj n on p hn e).mut hon
    rw [hp] at z; exact z
  have split : ∀ (n : Nat) (on : Obj) (a : Addr), (M ++ [o])[n]? = some on → (φ ++ [p])[n]? = some a → (M[n]? = some on ∧ φ[n]? = some a) ∨ (n = M.length ∧ on = o ∧ a = p) := fun n on a h1 h2 => by
    by_cases hn : n < M.length
    · rw [List.getElem?_append_left hn] at h1
      rw [List.getElem?_append_left (by rw [r.len]; exact hn)] at h2
      exact .inl ⟨h1, h2⟩
    · have hl : n < (M ++ [o]).length := (List.getElem?_eq_some_iff.mp h1).1
      have e : n = M.length := by simp at hl; omega
      subst e
      refine .inr ⟨rfl, ?_, ?_⟩
      · rw [List.getElem?_append_right (Nat.le_refl _)] at h1; simp at h1; exact h1.symm
      · rw [← r.len, List.getElem?_append_right (Nat.le_refl _)] at h2; simp at h2; exact h2.symm
  refine ⟨by simp [r.len], by simp, fun n on h1 => ?_, fun n m a on om h1 h2 h3 h4 h5 h6 => ?_, fun n on a h1 h2 => ?_⟩
  · by_cases hn : n < M.length
    · rw [List.getElem?_append_left hn] at h1; exact r.own n on h1
    · have hl : n < (M ++ [o]).length := (List.getElem?_eq_some_iff.mp h1).1
      have e : n = M.length := by simp at hl; omega
      subst e
      rw [List.getElem?_append_right (Nat.le_refl _)] at h1
      simp at h1
      subst h1
      exact ⟨fun _ => r.ne, fun _ => ho⟩
  · rcases split n on a h1 h5 with ⟨k1, k2⟩ | ⟨rfl, rfl, rfl⟩
    · rcases split m om a h2 h6 with ⟨j1, j2⟩ | ⟨rfl, rfl, rfl⟩
      · exact r.inj n m a on om k1 j1 h3 h4 k2 j2
      · exact absurd k2 (notp n on k1 h3)
    · rcases split m om a h2 h6 with ⟨j1, j2⟩ | ⟨rfl, rfl, _⟩
      · exact absurd j2 (notp m om j1 h4)
      · rfl
  · rcases split n on a h1 h2 with ⟨k1, k2⟩ | ⟨rfl, rfl, rfl⟩
    · exact (r.obj n on a k1 k2).other (.inl hp) (fun z e => by subst e; exact notp n on k1 z k2) (Ext.new hp)
    · exact h
theorem RM.set {n : Nat} {a : Addr} {o o' : Obj} {u : HO} (r : RM W φ M H) (hn : M[n]? = some o) (ho : owns o = true) (ha : φ[n]? = some a) (ho' : owns o' = true) (h : RO W φ (upd H a u) a o') : RM W φ (M.set n o') (upd H a u) := by
  have mu : Mut (H a) := (r.obj n o a hn ha).mut ho
  have hlt : n < M.length := (List.getElem?_eq_some_iff.mp hn).1
  have at' : ∀ (m : Nat) (om : Obj), (M.set n o')[m]? = some om → (m = n ∧ om = o') ∨ (m ≠ n ∧ M[m]? = some om) := fun m om e => by
    by_cases z : n = m
    · subst z
      rw [List.getElem?_set_self hlt] at e
      exact .inl ⟨rfl, (Option.some.inj e).symm⟩
    · rw [List.getElem?_set_ne z] at e
      exact .inr ⟨fun q => z q.symm, e⟩
  have hn0 : 0 < n := (r.own n o hn).mp ho
  refine ⟨by simpa using r.len, by simpa using r.ne, fun m om h1 => ?_, fun i j b oi oj h1 h2 h3 h4 h5 h6 => ?_, fun m om b h1 h2 => ?_⟩
  · rcases at' m om h1 with ⟨rfl, rfl⟩ | ⟨z, k⟩
    · exact ⟨fun _ => hn0, fun _ => ho'⟩
    · exact r.own m om k
  · rcases at' i oi h1 with ⟨rfl, rfl⟩ | ⟨z, k⟩
    · rcases at' j oj h2 with ⟨rfl, rfl⟩ | ⟨z2, k2⟩
      · rfl
      · exact r.inj _ _ b o oj hn k2 ho h4 h5 h6
    · rcases at' j oj h2 with ⟨rfl, rfl⟩ | ⟨z2, k2⟩
      · exact r.inj _ _ b oi o k hn h3 ho h5 h6
      · exact r.inj _ _ b oi oj k k2 h3 h4 h5 h6
  · rcases at' m om h1 with ⟨rfl, rfl⟩ | ⟨z, k⟩
    · rw [ha] at h2; cases h2; exact h
    · refine (r.obj m om b k h2).other (.inr mu) (fun q e => ?_) (Ext.upd (.inr ⟨mu, n, hn0, ha⟩))
      subst e
      exact z (r.inj m n b om o k hn q ho h2 ha)
theorem RM.addr (r : RM W φ M H) {n : Nat} {o : Obj} (h : M[n]? = some o) : ∃ a, φ[n]? = some a := by
  have hl : n < φ.length := by rw [r.len]; exact (List.getElem?_eq_some_iff.mp h).1
  exact ⟨φ[n], by simp [hl]⟩
theorem RM.lst (r : RM W φ M H) {n : Nat} {a : Addr} {vs : List Val} (h : M[n]? = some (.lst vs)) (ha : φ[n]? = some a) : ∃ xs, H a = some (.lst xs) ∧ RVs W φ H vs xs := r.obj n _ a h ha
/-- a list is read -/
theorem RM.seqL (r : RM W φ M H) {n : Nat} {a : Addr} {vs : List Val} (h : M[n]? = some (.lst vs) ∨ M[n]? = some (.rol vs)) (ha : φ[n]? = some a) : ∃ xs, SqL W.K H a xs ∧ RVs W φ H vs xs := by
  rcases h with h | h
  · obtain ⟨xs, h1, h2⟩ := r.obj n _ a h ha
    exact ⟨xs, .inl (.inl h1), h2⟩
  · obtain ⟨xs, h1, h2⟩ := r.obj n _ a h ha
    refine ⟨xs, ?_, h2⟩
    rcases h1 with ⟨o, h1⟩ | h1
    · exact .inl (.inr ⟨o, h1⟩)
    · exact .inr h1
theorem RM.seq (r : RM W φ M H) {v : Val} {u : V} {vs : List Val} (h : seqOf M v = some vs) (rv : RV W φ H v u) : ∃ a xs, u = .ref a ∧ (SqL W.K H a xs ∨ SqT W.K H a xs) ∧ RVs W φ H vs xs := by
  cases rv with
  | tup h1 h2 => cases h; exact ⟨_, _, rfl, .inr h1, h2⟩
  | ref ha =>
    rename_i n a
    dsimp only [seqOf] at h
    cases e : M[n]? with
    | none => rw [e] at h; cases h
    | some o =>
      rw [e] at h
      cases o with
      | lst ws => cases h; obtain ⟨xs, h1, h2⟩ := r.seqL (.inl e) ha; exact ⟨a, xs, rfl, .inl h1, h2⟩
      | rol ws => cases h; obtain ⟨xs, h1, h2⟩ := r.seqL (.inr e) ha; exact ⟨a, xs, rfl, .inl h1, h2⟩
      | dct kvs => cases h
      | ins C fs => cases h
  | non => cases h
  | bl _ => cases h
  | int _ => cases h
  | str _ => cases h
  | ty _ => cases h
  | glo _ => cases h
end

/-! ### the evaluator's ends as readings -/
section
variable (W : Wo)
def Kont (φ : List Addr) (H : Hp) (v : Val) (M' : Mem) (Q : VK) : Prop := ∀ φ' H' u, Ext W φ H φ' H' → RM W φ' M' H' → RV W φ' H' v u → Q u H'
def lE (f : Env → Mem → Res Val) : TE := fun σ H Q => ∃ φ M ρ v M', RM W φ M H ∧ RE W φ H ρ σ ∧ f ρ M = .ok v M' ∧ Kont W φ H v M' Q
def lT (f : Env → Mem → Res Bool) : TT := fun σ H Q => ∃ φ M ρ b M', RM W φ M H ∧ RE W φ H ρ σ ∧ f ρ M = .ok b M' ∧ ∀ φ' H', Ext W φ H φ' H' → RM W φ' M' H' → Q b H'
def lA (f : Env → Mem → Res (List Val)) : TA := fun σ H Q => ∃ φ M ρ vs M', RM W φ M H ∧ RE W φ H ρ σ ∧ f ρ M = .ok vs M' ∧ ∀ φ' H' us, Ext W φ H φ' H' → RM W φ' M' H' → RVs W φ' H' vs us → Q us H'
def l1 (g : Val → Mem → Res Val) : V → Hp → VK → Prop := fun x H Q => ∃ φ M a v M', RM W φ M H ∧ RV W φ H a x ∧ g a M = .ok v M' ∧ Kont W φ H v M' Q
def l2 (g : Val → Val → Mem → Res Val) : R2 := fun x y H Q => ∃ φ M a b v M', RM W φ M H ∧ RV W φ H a x ∧ RV W φ H b y ∧ g a b M = .ok v M' ∧ Kont W φ H v M' Q
def lX (g : List Val → Mem → Res Val) : List V → Hp → VK → Prop := fun xs H Q => ∃ φ M as v M', RM W φ M H ∧ RVs W φ H as xs ∧ g as M = .ok v M' ∧ Kont W φ H v M' Q
def lM (g : Val → List Val → Mem → Res Val) : V → List V → Hp → VK → Prop := fun x xs H Q => ∃ φ M a as v M', RM W φ M H ∧ RV W φ H a x ∧ RVs W φ H as xs ∧ g a as M = .ok v M' ∧ Kont W φ H v M' Q
end
section
variable {W : Wo} {φ φ' : List Addr} {M M' : Mem} {H H' : Hp} {Q : VK} {v : Val}
theorem Kont.here {u : V} (k : Kont W φ H v M' Q) (r : RM W φ M' H) (h : RV W φ H v u) : Q u H := k φ H u .refl r h
theorem Kont.step (e : Ext W φ H φ' H') (k : Kont W φ H v M' Q) : Kont W φ' H' v M' Q := fun φ2 H2 u e2 r h => k φ2 H2 u (e.trans e2) r h
/-- a new object ends it -/
theorem Kont.new {o : Obj} {p : Addr} {u : HO} (k : Kont W φ H (.ref M.length) (M ++ [o]) Q) (r : RM W φ M H) (hp : H p = none) (ho : owns o = true) (h : RO W (φ ++ [p]) (upd H p u) p o) : Q (.ref p) (upd H p u) :=
  k (φ ++ [p]) _ (.ref p) (Ext.new hp) (r.new hp ho h) (.ref (by rw [← r.len, List.getElem?_append_right (Nat.le_refl _)]; simp))
theorem Res.bind_ok {α β : Type} {r : Res α} {f : α → Mem → Res β} {b : β} {M2 : Mem} (h : r.bind f = .ok b M2) : ∃ a M1, r = .ok a M1 ∧ f a M1 = .ok b M2 := by
  cases r with
  | ok a M1 => exact ⟨a, M1, rfl, h⟩
  | exc C fs M => cases h
  | stuck => cases h
theorem ofO_ok {α : Type} {o : Option α} {a : α} (h : ofO o M = .ok a M') : o = some a ∧ M = M' := by
  cases o with
  | none => cases h
  | some b => cases h; exact ⟨rfl, rfl⟩
theorem chk_ok {α : Type} {b : Bool} {r : Res α} {a : α} (h : chk b r = .ok a M') : b = true ∧ r = .ok a M' := by
  cases b with
  | false => cases h
  | true => exact ⟨rfl, h⟩
end
section
variable {X : Cx}
theorem pe_weak {e : Expr} {t t' : TE} (h : PE X e t) (w : ∀ σ H Q, t' σ H Q → t σ H Q) : PE X e t' := ⟨fun pins s σ H Q I q => h.run pins s σ H Q I (w σ H Q q)⟩
theorem pt_weak {e : Expr} {t t' : TT} (h : PT X e t) (w : ∀ σ H Q, t' σ H Q → t σ H Q) : PT X e t' := ⟨fun pins s σ H Q I q => h.run pins s σ H Q I (w σ H Q q)⟩
theorem pa_weak {es : List Expr} {t t' : TA} (h : PA X es t) (w : ∀ σ H Q, t' σ H Q → t σ H Q) : PA X es t' := ⟨fun pos pins s σ H Q I q => h.run pos pins s σ H Q I (w σ H Q q)⟩
theorem op_weak {f : Value → Value → Sem Value} {r r' : R2} (h : OpR X f r) (w : ∀ x y H Q, r' x y H Q → r x y H Q) : OpR X f r' :=
  fun pins s σ H x y v u Q I rx ry q => h pins s σ H x y v u Q I rx ry (w x y H Q q)
end
end Mn
end -- Sd2
section -- Sd3
set_option linter.all false
set_option autoImplicit false
set_option maxRecDepth 100000
namespace Mn
open PySem L2

section
variable {W : Wo} {φ : List Addr} {M : Mem} {H : Hp}
/-! ### data -/
mutual
theorem dat_dp {rd : Nat → Option PyData} (hrd : ∀ (n : Nat) (a : Addr) (d : PyData), φ[n]? = some a → rd n = some d → Dp W.K H (.ref a) d) : ∀ {v : Val} {u : V} {d : PyData}, RV W φ H v u → dat rd v = some d → Dp W.K H u d
  | _, _, _, .non, h => by cases h; exact .non
  | _, _, _, .bl b, h => by cases h; exact .bl b
  | _, _, _, .int i, h => by cases h; exact .int i
  | _, _, _, .str s, h => by cases h; exact .str s
  | _, _, _, .ref ha, h => hrd _ _ _ ha h
  | _, _, _, .ty t, h => by cases h
  | _, _, _, .glo t, h => by cases h
  | .tup vs, _, d, .tup hs hv, h => by
    simp only [dat] at h
    cases e : dats rd vs with
    | none => rw [e] at h; cases h
    | some ds =>
      rw [e] at h
      cases h
      exact .tup hs (dats_dp hrd hv e)
theorem dats_dp {rd : Nat → Option PyData} (hrd : ∀ (n : Nat) (a : Addr) (d : PyData), φ[n]? = some a → rd n = some d → Dp W.K H (.ref a) d) : ∀ {vs : List Val} {us : List V} {ds : List PyData}, RVs W φ H vs us → dats rd vs = some ds → DpAll W.K H us ds
  | _, _, _, .nil, h => by cases h; exact .nil
  | v :: vs, _, _, .cons r rs, h => by
    simp only [dats] at h
    cases e : dat rd v with
    | none => rw [e] at h; cases h
    | some d =>
      cases e2 : dats rd vs with
      | none => rw [e, e2] at h; cases h
      | some ds =>
        rw [e, e2] at h
        cases h
        exact .cons (dat_dp hrd r e) (dats_dp hrd rs e2)
end
theorem rdM_dp (r : RM W φ M H) : ∀ (k n : Nat) (a : Addr) (d : PyData), φ[n]? = some a → rdM M k n = some d → Dp W.K H (.ref a) d
  | 0, _, _, _, _, h => by cases h
  | k + 1, n, a, d, ha, h => by
    have go : ∀ vs, (M[n]? = some (.lst vs) ∨ M[n]? = some (.rol vs)) → (dats (rdM M k) vs).map PyData.list = some d → Dp W.K H (.ref a) d := fun vs hm hd => by
      obtain ⟨xs, h1, h2⟩ := r.seqL hm ha
      cases e : dats (rdM M k) vs with
      | none => rw [e] at hd; cases hd
      | some ds =>
        rw [e] at hd
        cases hd
        exact .lst h1 (dats_dp (fun n a d h1 h2 => rdM_dp r k n a d h1 h2) h2 e)
    unfold rdM at h
    cases e : M[n]? with
    | none => rw [e] at h; cases h
    | some o =>
      rw [e] at h
      cases o with
      | lst vs => exact go vs (.inl e) h
      | rol vs => exact go vs (.inr e) h
      | dct kvs => cases h
      | ins C fs => cases h
theorem datM_dp (r : RM W φ M H) {v : Val} {u : V} {d : PyData} (h : RV W φ H v u) (e : datM M v = some d) : Dp W.K H u d := dat_dp (rdM_dp r 6) h e
theorem datsM_dp (r : RM W φ M H) {vs : List Val} {us : List V} {ds : List PyData} (h : RVs W φ H vs us) (e : datsM M vs = some ds) : DpAll W.K H us ds := dats_dp (rdM_dp r 6) h e
/-! ### truth -/
theorem truth_ok (r : RM W φ M H) {v : Val} {u : V} {b : Bool} (h : RV W φ H v u) (e : truth M v = some b) : TruV W.K u H b := by
  cases h with
  | non => cases e; exact rfl
  | bl b => cases e; exact rfl
  | int i => cases e; exact rfl
  | str s =>
    simp only [truth] at e
    split at e
    · cases e; exact ⟨by assumption, rfl⟩
    · cases e
  | ty t => cases e
  | glo x => cases e
  | tup h1 h2 =>
    cases e
    refine .inr (.inl ⟨_, h1, ?_⟩)
    cases h2 <;> rfl
  | ref ha =>
    rename_i n a
    dsimp only [truth] at e
    have ne : ∀ {vs : List Val} {us : List V}, RVs W φ H vs us → (!vs.isEmpty) = !us.isEmpty := fun z => by cases z <;> rfl
    cases em : M[n]? with
    | none => rw [em] at e; cases e
    | some o =>
      rw [em] at e
      cases o with
      | lst vs => cases e; obtain ⟨xs, h1, h2⟩ := r.seqL (.inl em) ha; exact .inl ⟨xs, h1, ne h2⟩
      | rol vs => cases e; obtain ⟨xs, h1, h2⟩ := r.seqL (.inr em) ha; exact .inl ⟨xs, h1, ne h2⟩
      | dct kvs =>
        dsimp only at e
        split at e
        · cases e
          rcases r.obj n _ a em ha with ⟨h0, kk, h1, h2⟩ | z
          · refine .inr (.inr ⟨kk, h1, ?_⟩)
            cases h2 <;> rfl
          · rename_i hl
            have hk := z.keys
            cases kvs with
            | nil => exact absurd rfl z.ne
            | cons p q =>
              rw [List.all_cons, Bool.and_eq_true] at hl hk
              have h1 := hl.1
              have h2 := hk.1
              revert h1 h2
              cases p.1 <;> simp [leafK, tupK]
        · cases e
      | ins C fs => cases e
end

section
variable {X : Cx} {W : Wo}
/-- the context is of the world W -/
structure At (W : Wo) (X : Cx) : Prop where
  prog : X.prog = W.prog
  w : X.w = W.w
  K : X.K = W.K
  mg : X.mg = W.mg

theorem ReadsOf (wa : At W X) {φ : List Addr} {M : Mem} {H : Hp} {pins : List (Addr × PySem.Obj)} {σ : L2.St} {s : Shared} (I : Inv X pins σ H s) (r : RM W φ M H) {v : Val} {u : V} {d : PyData} {x : Value} (h : RV W φ H v u) (e : datM M v = some d) (rx : RelV u x) : ∃ as, Reads s.heap x d as :=
  Dp.reads I d u x (by rw [wa.K]; exact datM_dp r h e) rx

/-! ### operators -/
theorem op_add_ok (wa : At W X) : OpR X (binaryOp .Add) (l2 W (binop .Add)) := by
  intro pins s σ H x y v u Q I rx ry h
  obtain ⟨φ, M, a, b, v', M', r, ra, rb, e, k⟩ := h
  cases ra with
  | int i =>
    cases rb with
    | int j => cases e; exact op_add pins s σ H _ _ v u Q I rx ry ⟨i, j, rfl, rfl, k.here r (.int _)⟩
    | _ => cases e
  | str i =>
    cases rb with
    | str j =>
      obtain ⟨c, e⟩ := chk_ok e
      cases e
      exact op_add_str pins s σ H _ _ v u Q I rx ry ⟨i, j, rfl, rfl, of_decide_eq_true c, k.here r (.str _)⟩
    | _ => cases e
  | tup h1 h2 =>
    cases rb with
    | tup g1 g2 =>
      obtain ⟨c, e⟩ := chk_ok e
      cases e
      rename_i vs xs p ws ys q
      have hz := of_decide_eq_true c
      refine op_catA pins s σ H _ _ v u Q I rx ry ⟨_, _, xs, ys, rfl, rfl, by rw [wa.K]; exact h1, by rw [wa.K]; exact g1, by rw [← h2.length, ← g2.length]; exact hz, fun e => ?_, fun _ e => ?_, fun _ _ p hp => ?_⟩
      · subst e; cases h2; exact k.here r (.tup g1 (by simpa using g2))
      · subst e; cases g2; exact k.here r (.tup h1 (by simpa using h2))
      · exact k φ _ _ (Ext.upd (.inl hp)) (r.aside (.inl hp) (r.out hp)) (.tup (.of upd_same) ((h2.append g2).mono (Ext.upd (.inl hp))))
    | _ => cases e
  | ref ha =>
    cases rb with
    | ref hb =>
      dsimp only [binop] at e
      split at e
      · rename_i xs ys ea eb
        obtain ⟨c, e⟩ := chk_ok e
        cases e
        obtain ⟨us, h1, h2⟩ := r.lst ea ha
        obtain ⟨ws, g1, g2⟩ := r.lst eb hb
        refine op_cat pins s σ H _ _ v u Q I rx ry ⟨_, _, us, ws, rfl, rfl, h1, g1, by rw [← h2.length, ← g2.length]; exact of_decide_eq_true c, fun p hp => k.new r hp rfl ⟨_, upd_same, (h2.append g2).mono (Ext.new hp)⟩⟩
      · cases e
    | _ => cases e
  | non => cases e
  | bl _ => cases e
  | ty _ => cases e
  | glo _ => cases e
/-- a new tuple -/
theorem Kont.tup {φ : List Addr} {M : Mem} {H : Hp} {vs : List Val} {xs : List V} {Q : VK} {p : Addr} (k : Kont W φ H (.tup vs) M Q) (r : RM W φ M H) (h : RVs W φ H vs xs) (hp : H p = none) : Q (.ref p) (upd H p (.tup xs)) := by
  exact k φ _ _ (Ext.upd (.inl hp)) (r.aside (.inl hp) (r.out hp)) (.tup (.of upd_same) (h.mono (Ext.upd (.inl hp))))
theorem op_sub_ok : OpR X (binaryOp .Sub) (l2 W (binop .Sub)) := by
  intro pins s σ H x y v u Q I rx ry h
  obtain ⟨φ, M, a, b, v', M', r, ra, rb, e, k⟩ := h
  cases ra with
  | int i =>
    cases rb with
    | int j => cases e; exact op_sub pins s σ H _ _ v u Q I rx ry ⟨i, j, rfl, rfl, k.here r (.int _)⟩
    | _ => cases e
  | _ => cases e
theorem op_fdiv_ok : OpR X (binaryOp .FloorDiv) (l2 W (binop .FloorDiv)) := by
  intro pins s σ H x y v u Q I rx ry h
  obtain ⟨φ, M, a, b, v', M', r, ra, rb, e, k⟩ := h
  cases ra with
  | int i =>
    cases rb with
    | int j =>
      obtain ⟨c, e⟩ := chk_ok e
      cases e
      exact op_fdiv pins s σ H _ _ v u Q I rx ry ⟨i, j, rfl, rfl, (show 0 < j ∧ j < 1073741824 from of_decide_eq_true c), k.here r (.int _)⟩
    | _ => cases e
  | _ => cases e
theorem op_mod_ok : OpR X (binaryOp .Mod) (l2 W (binop .Mod)) := by
  intro pins s σ H x y v u Q I rx ry h
  obtain ⟨φ, M, a, b, v', M', r, ra, rb, e, k⟩ := h
  cases ra with
  | int i =>
    cases rb with
    | int j =>
      obtain ⟨c, e⟩ := chk_ok e
      cases e
      exact op_mod pins s σ H _ _ v u Q I rx ry ⟨i, j, rfl, rfl, of_decide_eq_true c, k.here r (.int _)⟩
    | _ => cases e
  | _ => cases e
theorem op_pow_ok : OpR X (binaryOp .Pow) (l2 W (binop .Pow)) := by
  intro pins s σ H x y v u Q I rx ry h
  obtain ⟨φ, M, a, b, v', M', r, ra, rb, e, k⟩ := h
  cases ra with
  | int i =>
    cases rb with
    | int j =>
      obtain ⟨c, e⟩ := chk_ok e
      cases e
      exact op_pow pins s σ H _ _ v u Q I rx ry ⟨i, j, rfl, rfl, (show 0 ≤ j ∧ j ≤ 1000000 ∧ i.natAbs < 2 ^ 64 from of_decide_eq_true c), k.here r (.int _)⟩
    | _ => cases e
  | _ => cases e
theorem op_neg_ok : UnR X (unaryOp .USub) (l1 W fun x M => match x with | .int i => .ok (.int (-i)) M | _ => .stuck) := by
  intro pins s σ H x v Q I rx h
  obtain ⟨φ, M, a, v', M', r, ra, e, k⟩ := h
  cases ra with
  | int i => cases e; exact un_neg pins s σ H _ v Q I rx ⟨i, rfl, k.here r (.int _)⟩
  | _ => cases e
end
end Mn
end -- Sd3
section -- Sd4
set_option linter.all false
set_option autoImplicit false
set_option maxRecDepth 100000
namespace Mn
open PySem L2
section
variable {X : Cx} {W : Wo}
abbrev cmpV (op : CmpOp) (x y : Val) (M : Mem) : Res Val := ofO ((cmpop op x y M).map .bl) M
theorem cmpV_ok {op : CmpOp} {x y : Val} {M M' : Mem} {v : Val} (h : cmpV op x y M = .ok v M') : ∃ b, cmpop op x y M = some b ∧ v = .bl b ∧ M = M' := by
  obtain ⟨h', rfl⟩ := ofO_ok h
  clear h
  have h := h'
  clear h'
  cases e : cmpop op x y M with
  | none => rw [e] at h; cases h
  | some b => rw [e] at h; cases h; exact ⟨b, rfl, rfl, rfl⟩
theorem veqD_ok {M : Mem} {x y : Val} {b : Bool} (h : veqD M x y = some b) : ∃ d e, datM M x = some d ∧ datM M y = some e ∧ SeqAt.shaped d = true ∧ SeqAt.shaped e = true ∧ b = PyData.eqv d e := by
  unfold veqD at h
  split at h
  · split at h
    · rename_i d e h1 h2 hs
      rw [Bool.and_eq_true] at hs
      cases h
      exact ⟨d, e, h1, h2, hs.1, hs.2, rfl⟩
    · cases h
  · cases h
theorem veq_cases {M : Mem} {x y : Val} {b : Bool} (h : veq M x y = some b) : (∃ s t, x = .str s ∧ y = .str t ∧ b = decide (s = t)) ∨ veqD M x y = some b := by
  unfold veq at h
  split at h
  · cases h; exact .inl ⟨_, _, rfl, rfl, rfl⟩
  · exact .inr h
theorem op_Eq_ok (wa : At W X) (hu : X.A.units + 64 < cLine) : OpR X (compareOp .Eq) (l2 W (cmpV .Eq)) := by
  intro pins s σ H x y v u Q I rx ry h
  obtain ⟨φ, M, a, b, v', M', r, ra, rb, e, k⟩ := h
  obtain ⟨c, e', rfl, rfl⟩ := cmpV_ok e
  clear e
  have e := e'
  clear e'
  rcases veq_cases e with ⟨z1, z2, rfl, rfl, rfl⟩ | e
  · cases ra
    cases rb
    exact op_eq pins s σ H _ _ v u Q I rx ry ⟨rfl, by
      have z : decide (V.str z1 = V.str z2) = decide (z1 = z2) := by simp
      rw [z]; exact k.here r (.bl _)⟩
  obtain ⟨d1, d2, e1, e2, s1, s2, rfl⟩ := veqD_ok e
  exact op_eqD hu pins s σ H x y v u Q I rx ry ⟨d1, d2, by rw [wa.K]; exact datM_dp r ra e1, by rw [wa.K]; exact datM_dp r rb e2, s1, s2, k.here r (.bl _)⟩
theorem op_NotEq_ok (wa : At W X) (hu : X.A.units + 64 < cLine) : OpR X (compareOp .NotEq) (l2 W (cmpV .NotEq)) := by
  intro pins s σ H x y v u Q I rx ry h
  obtain ⟨φ, M, a, b, v', M', r, ra, rb, e, k⟩ := h
  obtain ⟨c, e', rfl, rfl⟩ := cmpV_ok e
  clear e
  have e := e'
  clear e'
  have e : (veq M a b).map (!·) = some c := e
  cases e0 : veq M a b with
  | none => rw [e0] at e; cases e
  | some c0 =>
    rw [e0] at e
    cases e
    rcases veq_cases e0 with ⟨z1, z2, rfl, rfl, rfl⟩ | e0
    · cases ra
      cases rb
      exact op_ne pins s σ H _ _ v u Q I rx ry ⟨rfl, by
        have z : decide (V.str z1 = V.str z2) = decide (z1 = z2) := by simp
        rw [z]; exact k.here r (.bl _)⟩
    obtain ⟨d1, d2, e1, e2, s1, s2, rfl⟩ := veqD_ok e0
    exact op_neD hu pins s σ H x y v u Q I rx ry ⟨d1, d2, by rw [wa.K]; exact datM_dp r ra e1, by rw [wa.K]; exact datM_dp r rb e2, s1, s2, k.here r (.bl _)⟩
theorem vlt_run (wa : At W X) (hu : X.A.units + 64 < cLine) {pins : List (Addr × PySem.Obj)} {s : Shared} {σ : L2.St} {H : Hp} {φ : List Addr} {M : Mem} {a b : Val} {x y : V} {v u : Value} {c : Bool} {Q : VK}
    (I : Inv X pins σ H s) (r : RM W φ M H) (ra : RV W φ H a x) (rb : RV W φ H b y) (rx : RelV x v) (ry : RelV y u) (e : vlt M a b = some c) (q : Q (.bl c) H) : wpAny (model X.prog X.w) X.A (compareOp .Lt v u) (EP X pins σ Q) X.xe s := by
  unfold vlt at e
  split at e
  · rename_i ds es e1 e2
    split at e
    · rename_i hc
      cases e
      rw [Bool.and_eq_true, Bool.and_eq_true] at hc
      obtain ⟨as, r1⟩ := ReadsOf wa I r ra e1 rx
      obtain ⟨bs, r2⟩ := ReadsOf wa I r rb e2 ry
      exact PySem.W.rcLt_alike _ _ X.A s v u as bs r1 r2 hc.1.1 (by intro z; cases z) (SeqAt.room_of_shaped hc.1.2 hu) X.prog X.w X.xe _ ⟨.bl _, H, I, rfl, q⟩
    · cases e
  · rename_i t1 t2 e1 e2
    cases e
    obtain ⟨as, r1⟩ := ReadsOf wa I r ra e1 rx
    obtain ⟨bs, r2⟩ := ReadsOf wa I r rb e2 ry
    exact PySem.W.rcLt_alike _ _ X.A s v u as bs r1 r2 rfl (by intro z; cases z) (by show X.A.units + min 0 0 < cLine; omega) X.prog X.w X.xe _ ⟨.bl _, H, I, rfl, q⟩
  · cases e
theorem op_Lt_ok (wa : At W X) (hu : X.A.units + 64 < cLine) : OpR X (compareOp .Lt) (l2 W (cmpV .Lt)) := by
  intro pins s σ H x y v u Q I rx ry h
  obtain ⟨φ, M, a, b, v', M', r, ra, rb, e, k⟩ := h
  obtain ⟨c, e', rfl, rfl⟩ := cmpV_ok e
  clear e
  have e := e'
  clear e'
  dsimp only [cmpop] at e
  split at e
  · cases e
    cases ra
    cases rb
    exact op_lt pins s σ H _ _ v u Q I rx ry ⟨_, _, rfl, rfl, k.here r (.bl _)⟩
  · exact vlt_run wa hu I r ra rb rx ry e (k.here r (.bl _))
theorem op_LtE_ok : OpR X (compareOp .LtE) (l2 W (cmpV .LtE)) := by
  intro pins s σ H x y v u Q I rx ry h
  obtain ⟨φ, M, a, b, v', M', r, ra, rb, e, k⟩ := h
  obtain ⟨c, e', rfl, rfl⟩ := cmpV_ok e
  clear e
  have e := e'
  clear e'
  dsimp only [cmpop] at e
  split at e
  · cases e; cases ra; cases rb; exact op_le pins s σ H _ _ v u Q I rx ry ⟨_, _, rfl, rfl, k.here r (.bl _)⟩
  · cases e
theorem op_Gt_ok : OpR X (compareOp .Gt) (l2 W (cmpV .Gt)) := by
  intro pins s σ H x y v u Q I rx ry h
  obtain ⟨φ, M, a, b, v', M', r, ra, rb, e, k⟩ := h
  obtain ⟨c, e', rfl, rfl⟩ := cmpV_ok e
  clear e
  have e := e'
  clear e'
  dsimp only [cmpop] at e
  split at e
  · cases e; cases ra; cases rb; exact op_gt pins s σ H _ _ v u Q I rx ry ⟨_, _, rfl, rfl, k.here r (.bl _)⟩
  · cases e
theorem op_GtE_ok : OpR X (compareOp .GtE) (l2 W (cmpV .GtE)) := by
  intro pins s σ H x y v u Q I rx ry h
  obtain ⟨φ, M, a, b, v', M', r, ra, rb, e, k⟩ := h
  obtain ⟨c, e', rfl, rfl⟩ := cmpV_ok e
  clear e
  have e := e'
  clear e'
  dsimp only [cmpop] at e
  split at e
  · cases e; cases ra; cases rb; exact op_ge pins s σ H _ _ v u Q I rx ry ⟨_, _, rfl, rfl, k.here r (.bl _)⟩
  · cases e
theorem cis_non {x : Val} {c : Bool} (h : cis x .non = some c) {φ : List Addr} {H : Hp} {u : V} (r : RV W φ H x u) : c = decide (u = .non) := by
  cases r <;> (cases h; rfl)
theorem op_Is_ok : OpR X (compareOp .Is) (l2 W (cmpV .Is)) := by
  intro pins s σ H x y v u Q I rx ry h
  obtain ⟨φ, M, a, b, v', M', r, ra, rb, e, k⟩ := h
  obtain ⟨c, e', rfl, rfl⟩ := cmpV_ok e
  clear e
  have e := e'
  clear e'
  have e : cis a b = some c := e
  cases b with
  | non =>
    cases rb
    have z := cis_non e ra
    subst z
    exact op_isN pins s σ H _ _ v u Q I rx ry ⟨rfl, k.here r (.bl _)⟩
  | bl b' =>
    cases a with
    | bl a' =>
      cases ra
      cases rb
      cases e
      refine op_isBl pins s σ H _ _ v u Q I rx ry ⟨_, _, rfl, rfl, ?_⟩
      rw [← Bool.beq_eq_decide_eq]
      exact k.here r (.bl _)
    | _ => cases e
  | _ => cases a <;> cases e
theorem op_IsNot_ok : OpR X (compareOp .IsNot) (l2 W (cmpV .IsNot)) := by
  intro pins s σ H x y v u Q I rx ry h
  obtain ⟨φ, M, a, b, v', M', r, ra, rb, e, k⟩ := h
  obtain ⟨c, e', rfl, rfl⟩ := cmpV_ok e
  clear e
  have e := e'
  clear e'
  have e : (cis a b).map (!·) = some c := e
  cases e0 : cis a b with
  | none => rw [e0] at e; cases e
  | some c0 =>
    rw [e0] at e
    cases e
    cases b with
    | non =>
      cases rb
      have z := cis_non e0 ra
      subst z
      exact op_notN pins s σ H _ _ v u Q I rx ry ⟨rfl, k.here r (.bl _)⟩
    | bl b' =>
      cases a with
      | bl a' =>
        cases ra
        cases rb
        cases e0
        refine op_notBl pins s σ H _ _ v u Q I rx ry ⟨_, _, rfl, rfl, ?_⟩
        rw [← Bool.beq_eq_decide_eq]
        exact k.here r (.bl _)
      | _ => cases e0
    | _ => cases a <;> cases e0
theorem vin_ok {M : Mem} {x : Val} {ys : List Val} {b : Bool} (h : vin M x ys = some b) : ∃ d ds, datM M x = some d ∧ datsM M ys = some ds ∧ SeqAt.shaped d = true ∧ SeqAt.shaped (.list ds) = true ∧ b = (ds.any fun z => PyData.eqv z d) := by
  unfold vin at h
  split at h
  · split at h
    · rename_i d e h1 h2 hs
      rw [Bool.and_eq_true] at hs
      cases h
      exact ⟨d, e, h1, h2, hs.1, hs.2, rfl⟩
    · cases h
  · cases h
/-- x in a list or tuple; neg: not in -/
theorem vin_run (wa : At W X) (hu : X.A.units + 65 < cLine) (neg : Bool) {pins : List (Addr × PySem.Obj)} {s : Shared} {σ : L2.St} {H : Hp} {φ : List Addr} {M : Mem} {a b : Val} {ys : List Val} {x y : V} {v u : Value} {c : Bool} {Q : VK}
    (I : Inv X pins σ H s) (r : RM W φ M H) (ra : RV W φ H a x) (hy : seqOf M b = some ys) (rb : RV W φ H b y) (rx : RelV x v) (ry : RelV y u) (e : vin M a ys = some c) (q : Q (.bl (if neg then !c else c)) H) :
    wpAny (model X.prog X.w) X.A (compareOp (if neg then .NotIn else .In) v u) (EP X pins σ Q) X.xe s := by
  obtain ⟨d, ds, e1, e2, s1, s2, rfl⟩ := vin_ok e
  obtain ⟨p, xs, rfl, hs, hv⟩ := r.seq hy rb
  have D := datM_dp r ra e1
  have Ds := datsM_dp r hv e2
  rcases hs with hs | hs
  · cases neg with
    | false => exact op_inD hu pins s σ H x _ v u Q I rx ry ⟨d, ds, by rw [wa.K]; exact D, by rw [wa.K]; exact .lst hs Ds, s1, s2, q⟩
    | true => exact op_notInD hu pins s σ H x _ v u Q I rx ry ⟨d, ds, by rw [wa.K]; exact D, by rw [wa.K]; exact .lst hs Ds, s1, s2, q⟩
  · obtain ⟨as, r1⟩ := Dp.reads I d x v (by rw [wa.K]; exact D) rx
    obtain ⟨bs, r2⟩ := Dp.reads I (.tuple ds) (.ref p) u (by rw [wa.K]; exact .tup hs Ds) ry
    cases neg with
    | false => exact SeqAt.in_tuple_reads r2 r1 (SeqAt.canLay_of_shaped s2) (SeqAt.canLay_of_shaped s1) (PyProof.Rows.room_in_shaped s1 hu) ⟨.bl _, H, I, rfl, q⟩
    | true => exact SeqAt.notIn_tuple_reads r2 r1 (SeqAt.canLay_of_shaped s2) (SeqAt.canLay_of_shaped s1) (PyProof.Rows.room_in_shaped s1 hu) ⟨.bl _, H, I, rfl, q⟩
end
end Mn
end -- Sd4
section -- Sd5
set_option linter.all false
set_option autoImplicit false
set_option maxRecDepth 100000
namespace Mn
open PySem L2
/-! ### keys of tuples -/
mutual
theorem keq_iff : ∀ (v w : Val), isKey v = true → isKey w = true → keq v w = decide (nkey v = nkey w)
  | .non, w, _, hw => by cases w <;> first | (cases hw; done) | simp [keq, nkey]
  | .int i, w, _, hw => by cases w <;> first | (cases hw; done) | simp [keq, nkey]
  | .str i, w, _, hw => by cases w <;> first | (cases hw; done) | simp [keq, nkey]
  | .tup vs, w, hv, hw => by
    cases w with
    | tup ws =>
      have h := keqs_iff vs ws (by simpa [isKey] using hv) (by simpa [isKey] using hw)
      simp [keq, nkey, h]
    | _ => first | (cases hw; done) | simp [keq, nkey]
  | .bl _, _, h, _ => by cases h
  | .ref _, _, h, _ => by cases h
  | .ty _, _, h, _ => by cases h
  | .glo _, _, h, _ => by cases h
theorem keqs_iff : ∀ (vs ws : List Val), areKeys vs = true → areKeys ws = true → keqs vs ws = decide (nkeys vs = nkeys ws)
  | [], [], _, _ => by simp [keqs, nkeys]
  | [], _ :: _, _, _ => by simp [keqs, nkeys]
  | _ :: _, [], _, _ => by simp [keqs, nkeys]
  | v :: vs, w :: ws, hv, hw => by
    simp only [areKeys, Bool.and_eq_true] at hv hw
    have h1 := keq_iff v w hv.1 hw.1
    have h2 := keqs_iff vs ws hv.2 hw.2
    simp [keqs, nkeys, h1, h2]
end
mutual
theorem nkey_depth : ∀ v : Val, isKey v = true → (nkey v).depth = kdepth v
  | .non, _ => rfl
  | .int _, _ => rfl
  | .str _, _ => rfl
  | .tup vs, h => by simp only [nkey, NestedKey.depth, kdepth]; rw [nkeys_depth vs (by simpa [isKey] using h)]
  | .bl _, h => by cases h
  | .ref _, h => by cases h
  | .ty _, h => by cases h
  | .glo _, h => by cases h
theorem nkeys_depth : ∀ vs : List Val, areKeys vs = true → NestedKey.depthAll (nkeys vs) = kdepths vs
  | [], _ => rfl
  | v :: vs, h => by
    simp only [areKeys, Bool.and_eq_true] at h
    simp only [nkeys, NestedKey.depthAll, kdepths, nkey_depth v h.1, nkeys_depth vs h.2]
end
section
variable {X : Cx} {W : Wo} {φ : List Addr} {M : Mem} {H : Hp} {pins : List (Addr × PySem.Obj)} {σ : L2.St} {s : Shared}
mutual
theorem nest_of (wa : At W X) (I : Inv X pins σ H s) : ∀ (v : Val) (u : V) (x : Value), RV W φ H v u → isKey v = true → RelV u x → NestedIs s.heap (nkey v) x
  | .non, _, _, .non, _, h => by cases h; exact .none
  | .int i, _, _, .int _, _, h => by obtain ⟨t, rfl⟩ := h; exact .int i t
  | .str i, _, _, .str _, _, h => by obtain ⟨t, rfl⟩ := h; exact .text i t
  | .tup vs, _, _, .tup hs hv, hk, h => by
    cases h
    obtain ⟨its, r, ⟨o, ho, hc, n, hd⟩, _⟩ := I.tuple (by rw [wa.K]; exact hs)
    refine .tup ho hc hd ?_
    have e : its.toArray.toList = its := by simp
    rw [e]
    exact nests_of wa I vs _ its hv (by simpa [isKey] using hk) r
  | .bl _, _, _, _, h, _ => by cases h
  | .ref _, _, _, _, h, _ => by cases h
  | .ty _, _, _, _, h, _ => by cases h
  | .glo _, _, _, _, h, _ => by cases h
theorem nests_of (wa : At W X) (I : Inv X pins σ H s) : ∀ (vs : List Val) (us : List V) (xs : List Value), RVs W φ H vs us → areKeys vs = true → Vals us xs → NestedAll s.heap (nkeys vs) xs
  | [], _, _, .nil, _, h => by cases h; exact .nil
  | v :: vs, _, _, .cons r rs, hk, h => by
    simp only [areKeys, Bool.and_eq_true] at hk
    cases h with
    | cons h1 h2 => exact .cons (nest_of wa I v _ _ r hk.1 h1) (nests_of wa I vs _ _ rs hk.2 h2)
end
theorem tupK_key {k : Val} (h : tupK k = true) : ∃ vs, k = .tup vs ∧ isKey k = true ∧ (nkey k).depth ≤ 8 := by
  cases k with
  | tup vs =>
    simp only [tupK, Bool.and_eq_true, decide_eq_true_eq] at h
    have hk : isKey (.tup vs) = true := by simpa [isKey] using h.1
    exact ⟨vs, rfl, hk, by rw [nkey_depth _ hk]; simp only [kdepth]; omega⟩
  | _ => cases h
/-- the key stands at a -/
theorem is_of (wa : At W X) (I : Inv X pins σ H s) {k : Val} {a : Addr} (r : RV W φ H k (.ref a)) (h : tupK k = true) : (nestedKind W.prog W.w).is s.heap (nkey k) a := by
  obtain ⟨vs, rfl, hk, hd⟩ := tupK_key h
  exact ⟨nest_of wa I _ _ _ r hk rfl, hd⟩
theorem RTs.keys {kvs : List (Val × Val)} {xs : List (NestedKey × Addr × Value)} (r : RTs W φ H kvs xs) (hk : (kvs.all fun p => tupK p.1) = true) (wa : At W X) (I : Inv X pins σ H s) : ∀ x ∈ xs, (nestedKind W.prog W.w).is s.heap x.1 x.2.1 := by
  induction r with
  | nil => intro x hx; cases hx
  | cons h hs ih =>
    rw [List.all_cons, Bool.and_eq_true] at hk
    intro x hx
    rcases List.mem_cons.mp hx with rfl | hx
    · rw [← h.1]; exact is_of wa I h.2.1 hk.1
    · exact ih hk.2 x hx
/-- the library's dict -/
theorem DTup.dict (wa : At W X) (I : Inv X pins σ H s) {a : Addr} {kvs : List (Val × Val)} (d : DTup W φ H a kvs) : ∃ xs, RTs W φ H kvs xs ∧ s.heap.DictOfH (nestedKind W.prog W.w) a xs ∧ (a == sysModules) = false ∧ (∃ o, H a = some (.ext fun h => h.get? a = some o)) := by
  obtain ⟨ne, hk, hs, hz, o, es, ep, xs, h1, h3, h4, h5, h6, h7⟩ := d
  have hg : s.heap.get? a = some o := (I.hok a _ h1).1
  exact ⟨xs, h7, ⟨o, es, ep, hg, h3, h4, h5, h7.keys hk wa I, h6⟩, hs, o, h1⟩
theorem dget_leaf {kvs : List (Val × Val)} {kk : List (Key × V)} (r : RKs W φ H kvs kk) {k : Val} {kq : Key} (hk : RK k kq) : (dget kvs k = none ∧ valV kk kq = none) ∨ ∃ v u, dget kvs k = some v ∧ valV kk kq = some u ∧ RV W φ H v u := by
  induction r with
  | nil => exact .inl ⟨rfl, rfl⟩
  | @cons p q ps qs h hs ih =>
    have e : keq p.1 k = decide (q.1 = kq) := by
      obtain ⟨h1, _⟩ := h
      revert h1
      cases hk with
      | int i => intro h1; generalize p.1 = x at h1; generalize q.1 = y at h1; cases h1 <;> simp [keq]
      | str i => intro h1; generalize p.1 = x at h1; generalize q.1 = y at h1; cases h1 <;> simp [keq]
    by_cases c : q.1 = kq
    · rw [decide_eq_true c] at e
      exact .inr ⟨p.2, q.2, by simp [dget, List.find?_cons, e], valV_pos c, h.2⟩
    · rw [decide_eq_false c] at e
      rw [valV_neg c]
      have : dget (p :: ps) k = dget ps k := by simp [dget, List.find?_cons, e]
      rw [this]
      exact ih
theorem dget_tup {kvs : List (Val × Val)} {xs : List (NestedKey × Addr × Value)} (r : RTs W φ H kvs xs) (ha : (kvs.all fun p => tupK p.1) = true) {k : Val} (hk : tupK k = true) :
    (dget kvs k = none ∧ atKey xs (nkey k) = none) ∨ ∃ v a u x, dget kvs k = some v ∧ atKey xs (nkey k) = some (a, x) ∧ RV W φ H v u ∧ RelV u x := by
  induction r with
  | nil => exact .inl ⟨rfl, rfl⟩
  | @cons p q ps qs h hs ih =>
    rw [List.all_cons, Bool.and_eq_true] at ha
    obtain ⟨_, _, k1, _⟩ := tupK_key ha.1
    obtain ⟨_, _, k2, _⟩ := tupK_key hk
    have e : keq p.1 k = decide (q.1 = nkey k) := by rw [keq_iff _ _ k1 k2, h.1]
    by_cases c : q.1 = nkey k
    · rw [decide_eq_true c] at e
      obtain ⟨u, z1, z2⟩ := h.2.2
      exact .inr ⟨p.2, q.2.1, u, q.2.2, by simp [dget, List.find?_cons, e], by simp [atKey, List.find?_cons, c], z1, z2⟩
    · rw [decide_eq_false c] at e
      have e1 : dget (p :: ps) k = dget ps k := by simp [dget, List.find?_cons, e]
      have e2 : atKey (q :: qs) (nkey k) = atKey qs (nkey k) := by simp [atKey, List.find?_cons, c]
      rw [e1, e2]
      exact ih ha.2
theorem leaf_rk {k : Val} (h : leafK k = true) {u : V} (r : RV W φ H k u) : ∃ kq, RK k kq ∧ u = kV kq := by
  cases r with
  | int i => exact ⟨_, .int i, rfl⟩
  | str i => exact ⟨_, .str i, rfl⟩
  | _ => cases h
end
end Mn
end -- Sd5
section -- Sd6
set_option linter.all false
set_option autoImplicit false
set_option maxRecDepth 100000
namespace Mn
open PySem L2
section
variable {X : Cx} {W : Wo} {φ : List Addr} {M : Mem} {H : Hp} {pins : List (Addr × PySem.Obj)} {σ : L2.St} {s : Shared} {a : Addr} {kvs : List (Val × Val)}
theorem leaf_not_tup {k : Val} (h : leafK k = true) : tupK k = false := by cases k <;> first | rfl | (cases h; done)
theorem view_leaf (r : RO W φ H a (.dct kvs)) (h : (kvs.all fun p => leafK p.1) = true) : ∃ kk, H a = some (.dK kk) ∧ RKs W φ H kvs kk := by
  rcases r with ⟨_, z⟩ | z
  · exact z
  · have hk := z.keys
    cases kvs with
    | nil => exact absurd rfl z.ne
    | cons p q =>
      rw [List.all_cons, Bool.and_eq_true] at h hk
      rw [leaf_not_tup h.1] at hk
      cases hk.1
theorem view_tup (wa : At W X) (I : Inv X pins σ H s) (r : RO W φ H a (.dct kvs)) (h : (kvs.all fun p => tupK p.1) = true) :
    ∃ xs, RTs W φ H kvs xs ∧ s.heap.DictOfH (nestedKind W.prog W.w) a xs ∧ (a == sysModules) = false ∧ Mut (H a) := by
  have mu := RO.mut r rfl
  rcases r with ⟨hl, kk, h1, h2⟩ | z
  · cases kvs with
    | nil =>
      cases h2
      obtain ⟨_, hs, vs, rel, o, es, ep, e1, e2, e3, _, e4, _⟩ := dk_of I.hok h1
      cases rel
      have z : es.toList = [] := by
        cases q : es.toList with
        | nil => rfl
        | cons x y => rw [q] at e4; cases e4
      exact ⟨[], .nil, ⟨o, es, ep, e1, e2, e3, by rw [z]; rfl, fun x hx => (List.not_mem_nil hx).elim, List.nodup_nil⟩, hs, mu⟩
    | cons p q =>
      rw [List.all_cons, Bool.and_eq_true] at h hl
      rw [leaf_not_tup hl.1] at h
      cases h.1
  · obtain ⟨xs, h1, h2, h3, _⟩ := z.dict wa I
    exact ⟨xs, h1, h2, h3, mu⟩
theorem fits_cases {k : Val} (f : fits kvs k = true) : (leafK k = true ∧ (kvs.all fun p => leafK p.1) = true) ∨ (tupK k = true ∧ (kvs.all fun p => tupK p.1) = true) := by
  unfold fits at f
  simp only [Bool.or_eq_true, Bool.and_eq_true] at f
  exact f
theorem tup_ref {k : Val} (h : tupK k = true) {u : V} (r : RV W φ H k u) : ∃ b, u = .ref b := by
  cases r with
  | tup h1 h2 => exact ⟨_, rfl⟩
  | _ => cases h
variable {A : Around} {E : Value → Shared → Prop} {k : Val} {y : V} {u : Value}
theorem dct_type (wa : At W X) (I : Inv X pins σ H s) (r : RO W φ H a (.dct kvs)) : s.TypeIs (.ref a) "dict" := by
  rcases r with ⟨hl, kk, h1, h2⟩ | z
  · exact dict_typeIs I (DGet.k (k := Sum.inl 0) h1)
  · obtain ⟨xs, h1, h2, h3, _⟩ := z.dict wa I
    exact h2.typeIs
theorem room8 {j : Nat} (hu : A.units + 64 < cLine) : (nestedKind W.prog W.w).room A.in1 := by
  show A.units + 1 + 8 < cLine
  omega
theorem dct_get (wa : At W X) (hu : A.units + 64 < cLine) (I : Inv X pins σ H s) (r : RO W φ H a (.dct kvs)) (f : fits kvs k = true) (rk : RV W φ H k y) (ry : RelV y u) {v : Val} (hv : dget kvs k = some v) {Q : Value → Shared → Prop}
    (h : ∀ vv w' s', Inv X pins σ H s' → RV W φ H v vv → RelV vv w' → Q w' s') : wpAny (model X.prog X.w) A (getItem (.ref a) u) Q E s := by
  rcases fits_cases f with ⟨hk, ha⟩ | ⟨hk, ha⟩
  · obtain ⟨kk, h1, h2⟩ := view_leaf r ha
    obtain ⟨kq, hq, rfl⟩ := leaf_rk hk rk
    rcases dget_leaf h2 hq with ⟨n, _⟩ | ⟨v', vv, e1, e2, e3⟩
    · rw [n] at hv; cases hv
    · rw [e1] at hv; cases hv
      refine d_getItem (by omega) I (v := vv) ?_ ry fun w' s' I' rw' => h vv w' s' I' e3 rw'
      rw [← e2]
      exact DGet.k h1
  · obtain ⟨xs, h1, h2, h3, mu⟩ := view_tup wa I r ha
    obtain ⟨b, rfl⟩ := tup_ref hk rk
    cases ry
    rcases dget_tup h1 ha hk with ⟨n, _⟩ | ⟨v', p, vv, x, e1, e2, e3, e4⟩
    · rw [n] at hv; cases hv
    · rw [e1] at hv; cases hv
      rw [wa.prog, wa.w]
      exact wpAny_getItem_heap (room8 (W := W) (j := 0) hu) (is_of wa I rk hk) h2 e2 (h vv x _ (I.tok _) e3 e4)
theorem dct_in (wa : At W X) (hu : A.units + 64 < cLine) (neg : Bool) (I : Inv X pins σ H s) (r : RO W φ H a (.dct kvs)) (f : fits kvs k = true) (rk : RV W φ H k y) (ry : RelV y u) {Q : Value → Shared → Prop}
    (h : ∀ s', Inv X pins σ H s' → Q (.bool (if neg then !(dget kvs k).isSome else (dget kvs k).isSome)) s') : wpAny (model X.prog X.w) A (compareOp (if neg then .NotIn else .In) u (.ref a)) Q E s := by
  rcases fits_cases f with ⟨hk, ha⟩ | ⟨hk, ha⟩
  · obtain ⟨kk, h1, h2⟩ := view_leaf r ha
    obtain ⟨kq, hq, rfl⟩ := leaf_rk hk rk
    have e : (dget kvs k).isSome = (valV kk kq).isSome := by
      rcases dget_leaf h2 hq with ⟨n, n2⟩ | ⟨v', vv, e1, e2, e3⟩
      · rw [n, n2]; rfl
      · rw [e1, e2]; rfl
    rw [e] at h
    cases neg with
    | false => exact d_in (by omega) I (DGet.k h1) ry h
    | true => exact d_notIn (by omega) I (DGet.k h1) ry h
  · obtain ⟨xs, h1, h2, h3, mu⟩ := view_tup wa I r ha
    obtain ⟨b, rfl⟩ := tup_ref hk rk
    cases ry
    have e : (dget kvs k).isSome = (atKey xs (nkey k)).isSome := by
      rcases dget_tup h1 ha hk with ⟨n, n2⟩ | ⟨v', p, vv, x, e1, e2, e3, e4⟩
      · rw [n, n2]; rfl
      · rw [e1, e2]; rfl
    rw [e] at h
    rw [wa.prog, wa.w]
    cases neg with
    | false => exact wpAny_in_heap (room8 (W := W) (j := 0) hu) (is_of wa I rk hk) h3 h2 (h _ (I.tok _))
    | true => exact PyProof.Rows.wpAny_notIn_heap (room8 (W := W) (j := 0) hu) (is_of wa I rk hk) h3 h2 (h _ (I.tok _))
/-! ### stores -/
theorem dput_leaf {kk : List (Key × V)} (r : RKs W φ H kvs kk) {k : Val} {kq : Key} (hk : RK k kq) {v : Val} {vv : V} (rv : RV W φ H v vv) (nd : (kk.map (·.1)).Nodup) : RKs W φ H (dput kvs k v) (putK kk kq vv) := by
  have key : ∀ {p : Val × Val} {q : Key × V}, RK p.1 q.1 → keq p.1 k = decide (q.1 = kq) := fun {p q} h1 => by
    revert h1
    cases hk with
    | int i => intro h1; generalize p.1 = x at h1; generalize q.1 = y at h1; cases h1 <;> simp [keq]
    | str i => intro h1; generalize p.1 = x at h1; generalize q.1 = y at h1; cases h1 <;> simp [keq]
  induction r with
  | nil => exact .cons ⟨hk, rv⟩ .nil
  | @cons p q ps qs h hs ih =>
    rw [List.map_cons, List.nodup_cons] at nd
    have e := key h.1
    by_cases c : q.1 = kq
    · rw [decide_eq_true c] at e
      have e1 : dput (p :: ps) k v = (p.1, v) :: ps := by simp [dput, e]
      have e2 : putK (q :: qs) kq vv = (q.1, vv) :: qs := by
        have hn : ∀ x ∈ qs, ¬ x.1 = kq := fun x hx z => nd.1 (by rw [c, ← z]; exact List.mem_map_of_mem hx)
        have hm : (qs.map fun kv => if kv.1 = kq then (kv.1, vv) else kv) = qs := by
          have : ∀ l : List (Key × V), (∀ x ∈ l, ¬ x.1 = kq) → (l.map fun kv => if kv.1 = kq then (kv.1, vv) else kv) = l := by
            intro l
            induction l with
            | nil => intro _; rfl
            | cons x l ih => intro hl; rw [List.map_cons, if_neg (hl x List.mem_cons_self), ih fun y hy => hl y (List.mem_cons_of_mem _ hy)]
          exact this qs hn
        unfold putK
        simp [c, hm]
      rw [e1, e2]
      exact .cons ⟨h.1, rv⟩ hs
    · rw [decide_eq_false c] at e
      have e1 : dput (p :: ps) k v = p :: dput ps k v := by simp [dput, e]
      have e2 : putK (q :: qs) kq vv = q :: putK qs kq vv := by
        unfold putK
        rw [List.any_cons, decide_eq_false c, Bool.false_or]
        by_cases z : (qs.any fun kv => decide (kv.1 = kq)) = true
        · rw [if_pos z, if_pos z, List.map_cons, if_neg c]
        · rw [if_neg z, if_neg z, List.cons_append]
      rw [e1, e2]
      exact .cons h (ih nd.2)
end
end Mn
end -- Sd6
section -- Sd7
set_option linter.all false
set_option autoImplicit false
set_option maxRecDepth 100000
namespace Mn
open PySem L2
section
variable {X : Cx} {W : Wo} {φ : List Addr} {M : Mem} {H : Hp} {pins : List (Addr × PySem.Obj)} {σ : L2.St} {s : Shared} {a : Addr} {kvs : List (Val × Val)}
theorem RTs.mono0 {φ' : List Addr} {H' : Hp} (e : Ex0 W φ H φ' H') {xs : List (NestedKey × Addr × Value)} (r : RTs W φ H kvs xs) : RTs W φ' H' kvs xs :=
  Paired.mono r fun p x z => ⟨z.1, z.2.1.mono0 e, let ⟨u, z1, z2⟩ := z.2.2; ⟨u, z1.mono0 e, z2⟩⟩
theorem RKs.mono0 {φ' : List Addr} {H' : Hp} (e : Ex0 W φ H φ' H') {xs : List (Key × V)} (r : RKs W φ H kvs xs) : RKs W φ' H' kvs xs :=
  Paired.mono r fun p x z => ⟨z.1, z.2.mono0 e⟩
theorem RTs.mono {φ' : List Addr} {H' : Hp} (e : Ext W φ H φ' H') {xs : List (NestedKey × Addr × Value)} (r : RTs W φ H kvs xs) : RTs W φ' H' kvs xs :=
  Paired.mono r fun p x z => ⟨z.1, z.2.1.mono e, let ⟨u, z1, z2⟩ := z.2.2; ⟨u, z1.mono e, z2⟩⟩
theorem RKs.mono {φ' : List Addr} {H' : Hp} (e : Ext W φ H φ' H') {xs : List (Key × V)} (r : RKs W φ H kvs xs) : RKs W φ' H' kvs xs :=
  Paired.mono r fun p x z => ⟨z.1, z.2.mono e⟩
theorem rts_put {xs : List (NestedKey × Addr × Value)} (r : RTs W φ H kvs xs) (ha : (kvs.all fun p => tupK p.1) = true) {k : Val} (hk : tupK k = true) {b : Addr} (rk : RV W φ H k (.ref b)) {v : Val} {vv : V} {x : Value} (rv : RV W φ H v vv) (rx : RelV vv x)
    (nd : (xs.map (·.1)).Nodup) : RTs W φ H (dput kvs k v) (storedH xs (nkey k) b x) := by
  induction r with
  | nil => exact .cons ⟨rfl, rk, vv, rv, rx⟩ .nil
  | @cons p q ps qs h hs ih =>
    rw [List.all_cons, Bool.and_eq_true] at ha
    rw [List.map_cons, List.nodup_cons] at nd
    obtain ⟨_, _, k1, _⟩ := tupK_key ha.1
    obtain ⟨_, _, k2, _⟩ := tupK_key hk
    have e : keq p.1 k = decide (q.1 = nkey k) := by rw [keq_iff _ _ k1 k2, h.1]
    by_cases c : q.1 = nkey k
    · rw [decide_eq_true c] at e
      have e1 : dput (p :: ps) k v = (p.1, v) :: ps := by simp [dput, e]
      have e2 : storedH (q :: qs) (nkey k) b x = (q.1, q.2.1, x) :: qs := by
        have z : atKey (q :: qs) (nkey k) = some q.2 := by simp [atKey, List.find?_cons, c]
        rw [storedH_old z, List.map_cons, map_putAt_of_not_mem qs _ _ (by rw [← c]; exact nd.1), putAt, if_pos c]
      rw [e1, e2]
      exact .cons ⟨h.1, h.2.1, vv, rv, rx⟩ hs
    · rw [decide_eq_false c] at e
      have e1 : dput (p :: ps) k v = p :: dput ps k v := by simp [dput, e]
      have z : atKey (q :: qs) (nkey k) = atKey qs (nkey k) := by simp [atKey, List.find?_cons, c]
      have e2 : storedH (q :: qs) (nkey k) b x = q :: storedH qs (nkey k) b x := by
        unfold storedH
        rw [z, List.map_cons, putAt, if_neg c]
        split <;> rfl
      rw [e1, e2]
      exact .cons h (ih ha.2 nd.2)
theorem dput_len (kvs : List (Val × Val)) (k v : Val) : (dput kvs k v).length ≤ kvs.length + 1 := by
  induction kvs with
  | nil => exact Nat.le_refl _
  | cons p r ih =>
    unfold dput
    split
    · exact Nat.le_succ _
    · simp only [List.length_cons]; omega
theorem dput_ne (k v : Val) : dput kvs k v ≠ [] := by
  cases kvs with
  | nil => intro z; cases z
  | cons p r => unfold dput; split <;> (intro z; cases z)
theorem dput_all {p : Val → Bool} (k v : Val) (hk : p k = true) (h : (kvs.all fun x => p x.1) = true) : ((dput kvs k v).all fun x => p x.1) = true := by
  induction kvs with
  | nil => simp [dput, hk]
  | cons x r ih =>
    rw [List.all_cons, Bool.and_eq_true] at h
    unfold dput
    split
    · rw [List.all_cons, Bool.and_eq_true]; exact h
    · rw [List.all_cons, Bool.and_eq_true]; exact ⟨h.1, ih h.2⟩
variable {A : Around} {E : Value → Shared → Prop} {k : Val} {y : V} {u : Value} {v : Val} {vv : V} {r0 : Value}
/-- the new object behind a store into a dict with tuple keys -/
theorem tup_stored (wa : At W X) (I : Inv X pins σ H s) {h' : Heap} {t' : Nat} {xs : List (NestedKey × Addr × Value)} {b : Addr} (h1 : RTs W φ H kvs xs) (ha : (kvs.all fun p => tupK p.1) = true) (hk : tupK k = true) (rk : RV W φ H k (.ref b)) (rv : RV W φ H v vv) (rx : RelV vv r0)
    (nd : (xs.map (·.1)).Nodup) (hz : kvs.length < sizeLine) (h3 : (a == sysModules) = false) (mu : Mut (H a)) (dd : h'.DictOfH (nestedKind W.prog W.w) a (storedH xs (nkey k) b r0)) (hs : Heap.SameBut a s.heap h') :
    ∃ ho, Inv X pins σ (upd H a ho) { s with heap := h', toks := t' } ∧ RO W φ (upd H a ho) a (.dct (dput kvs k v)) := by
  obtain ⟨q, es, ep, hq, g2, g3, g4, _, g5⟩ := dd
  refine ⟨.ext fun h => h.get? a = some q, d_write I mu hs ⟨q, hq⟩ ⟨hq, ⟨q, hq⟩, fun h1 h2 p f => f _ p⟩, .inr ⟨dput_ne k v, dput_all k v hk ha, h3, by have := dput_len kvs k v; omega, q, es, ep, _, upd_same, g2, g3, g4, g5, ?_⟩⟩
  exact (rts_put h1 ha hk rk rv rx nd).mono0 ⟨fun _ _ z => z, TK.upd (.inr mu)⟩
theorem dofh_nodup {h : Heap} {xs : List (NestedKey × Addr × Value)} (d : h.DictOfH (nestedKind W.prog W.w) a xs) : (xs.map (·.1)).Nodup := let ⟨_, _, _, _, _, _, _, _, n⟩ := d; n
theorem dct_put (wa : At W X) (hu : A.units + 64 < cLine) (I : Inv X pins σ H s) (r : RO W φ H a (.dct kvs)) (f : fits kvs k = true) (rk : RV W φ H k y) (ry : RelV y u) (rv : RV W φ H v vv) (rx : RelV vv r0) (hz : kvs.length < sizeLine) {Q : Unit → Shared → Prop}
    (h : ∀ ho s', Inv X pins σ (upd H a ho) s' → RO W φ (upd H a ho) a (.dct (dput kvs k v)) → Q () s') : wpAny (model X.prog X.w) A (setItem (.ref a) u r0) Q E s := by
  have mu := RO.mut r rfl
  rcases fits_cases f with ⟨hk, ha⟩ | ⟨hk, ha⟩
  · obtain ⟨kk, h1, h2⟩ := view_leaf r ha
    obtain ⟨kq, hq, rfl⟩ := leaf_rk hk rk
    have nd : (kk.map (·.1)).Nodup := by
      obtain ⟨_, _, vs, rel, _, _, _, _, _, _, _, _, n⟩ := dk_of I.hok h1
      rw [rel.keys]; exact n
    refine d_setItem (by omega) I (DPut.k (v := vv) h1 (by rw [← Paired.length h2]; exact hz)) ry rx fun s' I' => h _ s' I' (.inl ⟨dput_all k v hk ha, _, upd_same, ?_⟩)
    exact (dput_leaf h2 hq rv nd).mono0 ⟨fun _ _ z => z, TK.upd (.inr mu)⟩
  · obtain ⟨xs, h1, h2, h3, _⟩ := view_tup wa I r ha
    obtain ⟨b, rfl⟩ := tup_ref hk rk
    cases ry
    rw [wa.prog, wa.w]
    refine wpAny_setItem_heap (hsz := by rw [← Paired.length h1]; omega) (room8 (W := W) (j := 0) hu) (is_of wa I rk hk) h2 fun h' dd hs => ?_
    obtain ⟨ho, I', ro⟩ := tup_stored (t' := s.toks + (nestedKind W.prog W.w).draws (nkey k)) wa I h1 ha hk rk rv rx (dofh_nodup h2) hz h3 mu dd hs
    exact h ho _ I' ro
theorem dct_get2 (wa : At W X) (hu : A.units + 64 < cLine) (I : Inv X pins σ H s) (r : RO W φ H a (.dct kvs)) (f : fits kvs k = true) (rk : RV W φ H k y) (ry : RelV y u) (rv : RV W φ H v vv) (rx : RelV vv r0) {Q : Value → Shared → Prop}
    (h : ∀ zz w' s', Inv X pins σ H s' → RV W φ H ((dget kvs k).getD v) zz → RelV zz w' → Q w' s') : wpAny (model X.prog X.w) A (call (.builtin "dict.get") [.ref a, u, r0]) Q E s := by
  rcases fits_cases f with ⟨hk, ha⟩ | ⟨hk, ha⟩
  · obtain ⟨kk, h1, h2⟩ := view_leaf r ha
    obtain ⟨kq, hq, rfl⟩ := leaf_rk hk rk
    refine d_get2 (by omega) I (DGet.k h1) ry rx fun w' s' I' rw' => ?_
    rcases dget_leaf h2 hq with ⟨n, n2⟩ | ⟨v', v2, e1, e2, e3⟩
    · rw [n2] at rw'; exact h vv w' s' I' (by rw [n]; exact rv) rw'
    · rw [e2] at rw'
      exact h _ w' s' I' (by rw [e1]; exact e3) rw'
  · obtain ⟨xs, h1, h2, h3, _⟩ := view_tup wa I r ha
    obtain ⟨b, rfl⟩ := tup_ref hk rk
    cases ry
    rw [wa.prog, wa.w]
    refine call_meetsIn PySem.F.slot_dict_get h2.typeIs PySem.F.entry_dict_get (PySem.F.args_dict_get_3 _ _ _) (meetsH_dict_get_default (nestedKind W.prog W.w) a b h3 r0) ⟨room8 (W := W) (j := 0) hu, nkey k, xs, is_of wa I rk hk, h2, ?_⟩
    rcases dget_tup h1 ha hk with ⟨n, n2⟩ | ⟨v', p, v2, x, e1, e2, e3, e4⟩
    · rw [n2]; exact h vv _ _ (I.tok _) (by rw [n]; exact rv) rx
    · rw [e2]; exact h v2 _ _ (I.tok _) (by rw [e1]; exact e3) e4
theorem dct_setd (wa : At W X) (hu : A.units + 64 < cLine) (I : Inv X pins σ H s) (r : RO W φ H a (.dct kvs)) (f : fits kvs k = true) (rk : RV W φ H k y) (ry : RelV y u) (rv : RV W φ H v vv) (rx : RelV vv r0) (hz : kvs.length < sizeLine) {Q : Value → Shared → Prop}
    (h1 : ∀ v1 zz w' s', dget kvs k = some v1 → Inv X pins σ H s' → RV W φ H v1 zz → RelV zz w' → Q w' s')
    (h2 : dget kvs k = none → ∀ ho s' w', Inv X pins σ (upd H a ho) s' → RO W φ (upd H a ho) a (.dct (dput kvs k v)) → RelV vv w' → Q w' s') : wpAny (model X.prog X.w) A (call (.builtin "dict.setdefault") [.ref a, u, r0]) Q E s := by
  have mu := RO.mut r rfl
  rcases fits_cases f with ⟨hk, ha⟩ | ⟨hk, ha⟩
  · obtain ⟨kk, g1, g2⟩ := view_leaf r ha
    obtain ⟨kq, hq, rfl⟩ := leaf_rk hk rk
    have nd : (kk.map (·.1)).Nodup := by
      obtain ⟨_, _, vs, rel, _, _, _, _, _, _, _, _, n⟩ := dk_of I.hok g1
      rw [rel.keys]; exact n
    refine d_setd I g1 ry rx (by rw [← Paired.length g2]; exact hz) (fun v' hv w' s' I' rw' => ?_) fun hn w' s' I' rw' => ?_
    · rcases dget_leaf g2 hq with ⟨n, n2⟩ | ⟨v1, v2, e1, e2, e3⟩
      · rw [n2] at hv; cases hv
      · rw [e2] at hv; cases hv
        exact h1 v1 _ w' s' e1 I' e3 rw'
    · rcases dget_leaf g2 hq with ⟨n, n2⟩ | ⟨v1, v2, e1, e2, e3⟩
      · exact h2 n _ s' w' I' (.inl ⟨dput_all k v hk ha, _, upd_same, (dput_leaf g2 hq rv nd).mono0 ⟨fun _ _ z => z, TK.upd (.inr mu)⟩⟩) rw'
      · rw [e2] at hn; cases hn
  · obtain ⟨xs, g1, g2, g3, _⟩ := view_tup wa I r ha
    obtain ⟨b, rfl⟩ := tup_ref hk rk
    cases ry
    rw [wa.prog, wa.w]
    refine call_setdefault_heap (hsz := by rw [← Paired.length g1]; omega) (room8 (W := W) (j := 0) hu) (is_of wa I rk hk) g3 g2 (fun p hp => ?_) fun hn h' dd hs => ?_
    · rcases dget_tup g1 ha hk with ⟨n, n2⟩ | ⟨v', p', v2, x, e1, e2, e3, e4⟩
      · rw [n2] at hp; cases hp
      · rw [e2] at hp; cases hp
        exact h1 v' v2 _ _ e1 (I.tok _) e3 e4
    · rcases dget_tup g1 ha hk with ⟨n, n2⟩ | ⟨v', p', v2, x, e1, e2, e3, e4⟩
      · obtain ⟨ho, I', ro⟩ := tup_stored (t' := s.toks + (nestedKind W.prog W.w).draws (nkey k)) wa I g1 ha hk rk rv rx (dofh_nodup g2) hz g3 mu dd hs
        exact h2 n ho _ _ I' ro rx
      · rw [e2] at hn; cases hn
end
end Mn
end -- Sd7
section -- Sd8
set_option linter.all false
set_option autoImplicit false
set_option maxRecDepth 100000
namespace Mn
open PySem L2
section
variable {X : Cx} {W : Wo}
theorem ixOf_eq (i : Int) (n : Nat) : ixOf i n = ixN n i := rfl
theorem RVs.atI {φ : List Addr} {H : Hp} {vs : List Val} {us : List V} (h : RVs W φ H vs us) {j : Int} {k : Nat} {v : Val} (e : ixOf j vs.length = some k) (ev : vs[k]? = some v) : ∃ u, atI us j = some u ∧ RV W φ H v u := by
  obtain ⟨u, h1, h2⟩ := h.get ev
  refine ⟨u, ?_, h2⟩
  unfold L2.atI
  rw [← h.length, ← ixOf_eq, e]
  exact h1
/-- x[i] -/
theorem ix_ok (wa : At W X) (hu : X.A.units + 64 < cLine) : IxR X (l2 W subs) := by
  intro value slice pins s σ H x y v u Q I rx ry h hs
  obtain ⟨φ, M, a, b, v', M', r, ra, rb, e, k⟩ := h
  have fin : ∀ {vs : List Val} {p : Addr} {xs : List V} (hv : RVs W φ H vs xs) (hq : SqL W.K H p xs ∨ SqT W.K H p xs) {j : Int} (ej : b = .int j) (ex : x = .ref p) (e' : ixV vs j M = Res.ok v' M'),
      wpAny (model X.prog X.w) X.A (PyProof.Rows.subscriptTail value slice v u) (EP X pins σ Q) X.xe s := fun {vs p xs} hv hq {j} ej ex e' => by
    subst ej ex
    cases rb
    cases e1 : ixOf j vs.length with
    | none => simp [ixV, e1] at e'
    | some m =>
      have e' : ofO vs[m]? M = .ok v' M' := by simpa [ixV, e1] using e'
      obtain ⟨e2, rfl⟩ := ofO_ok e'
      obtain ⟨z, hz, rz⟩ := hv.atI e1 e2
      refine ix_seq value slice pins s σ H _ _ v u Q I rx ry ?_ hs
      rcases hq with hq | hq
      · exact .inl ⟨p, xs, j, z, rfl, rfl, by rw [wa.K]; exact hq, hz, k.here r rz⟩
      · exact .inr (.inl ⟨p, xs, j, z, rfl, rfl, by rw [wa.K]; exact hq, hz, k.here r rz⟩)
  cases ra with
  | tup h1 h2 =>
    cases b with
    | int j => exact fin h2 (.inr h1) rfl rfl e
    | _ => cases e
  | str z =>
    cases b with
    | int j =>
      cases rb
      dsimp only [subs] at e
      split at e
      · rename_i k0 e0
        split at e0
        · rename_i hz
          obtain ⟨e2, rfl⟩ := ofO_ok e
          cases e3 : z.cps[k0]? with
          | none => rw [e3] at e2; cases e2
          | some c =>
            rw [e3] at e2
            cases e2
            refine ix_str value slice pins s σ H _ _ v u Q I rx ry ⟨z, j, c, rfl, rfl, hz, ?_, k.here r (.str _)⟩ hs
            unfold L2.atI
            have hl : z.cps.toList.length = z.length := by simp [Str.length]
            rw [hl, ← ixOf_eq, e0]
            show z.cps.toList[k0]? = some c
            rw [Array.getElem?_toList]
            exact e3
        · cases e0
      · cases e
    | _ => cases e
  | ref ha =>
    rename_i n p
    cases em : M[n]? with
    | none => simp [subs, em] at e
    | some o =>
      cases o with
      | lst vs =>
        cases b with
        | int j =>
          obtain ⟨xs, g1, g2⟩ := r.seqL (.inl em) ha
          exact fin g2 (.inl g1) rfl rfl (by simpa [subs, em] using e)
        | _ => simp [subs, em] at e
      | rol vs =>
        cases b with
        | int j =>
          obtain ⟨xs, g1, g2⟩ := r.seqL (.inr em) ha
          exact fin g2 (.inl g1) rfl rfl (by simpa [subs, em] using e)
        | _ => simp [subs, em] at e
      | dct kvs =>
        have e : chk (fits kvs b) (ofO (dget kvs b) M) = .ok v' M' := by simpa [subs, em] using e
        obtain ⟨f, e⟩ := chk_ok e
        obtain ⟨e2, rfl⟩ := ofO_ok e
        have ro := r.obj n _ p em ha
        cases rx
        exact PyProof.Rows.tail_any (dct_type wa I ro) PySem.F.slot_dict_getitem.lookup (dct_get wa hu I ro f rb ry e2 fun vv w' s' I' rv' rw' => ⟨vv, H, I', rw', k.here r rv'⟩) hs
      | ins C fs => simp [subs, em] at e
  | _ => cases e
/-! ### slices -/
theorem RVs.cut {φ : List Addr} {H : Hp} {vs : List Val} {us : List V} (h : RVs W φ H vs us) (lo hi : Option Int) : RVs W φ H (Mn.cut vs lo hi) (cutV us lo hi) := by
  unfold Mn.cut cutV
  rw [h.length]
  exact (h.drop _).take _
theorem cut_all {α : Type} {vs : List α} {lo hi : Option Int} (h : HT.sIx vs.length 0 lo = 0 ∧ HT.sIx vs.length vs.length hi = vs.length) : Mn.cut vs lo hi = vs := by
  unfold Mn.cut
  rw [h.1, h.2]
  simp
def lS (W : Wo) : V → Option Int → Option Int → Hp → VK → Prop := fun x l h H Q => ∃ φ M a v M', RM W φ M H ∧ RV W φ H a x ∧ sliceB a l h M = .ok v M' ∧ Kont W φ H v M' Q
theorem sl_ok (wa : At W X) : SlR X (lS W) := by
  intro pins s σ H x v vl vu lo hi sl Q I rx hs pl pu h
  obtain ⟨φ, M, a, v', M', r, ra, e, k⟩ := h
  cases ra with
  | tup h1 h2 =>
    cases e
    refine sl_tupA pins s σ H _ v vl vu lo hi sl Q I rx hs pl pu ⟨_, _, rfl, by rw [wa.K]; exact h1, fun hw => ?_, fun hw p hp => k.tup r (h2.cut lo hi) hp⟩
    rw [← h2.length] at hw
    rw [cut_all hw] at k
    exact k.here r (.tup h1 h2)
  | ref ha =>
    rename_i n p
    have fin : ∀ {vs : List Val}, (M[n]? = some (.lst vs) ∨ M[n]? = some (.rol vs)) → new (.lst (cut vs lo hi)) M = .ok v' M' →
        ∃ T id, typeLookup (.type T) "__getitem__" = pure (some (.builtin id)) ∧ s.TypeIs v T ∧ wpAny (model X.prog X.w) X.A (getItem v (.ref sl)) (EP X pins σ Q) X.xe s := fun {vs} hm e => by
      cases e
      obtain ⟨xs, g1, g2⟩ := r.seqL hm ha
      exact sl_list pins s σ H _ v vl vu lo hi sl Q I rx hs pl pu ⟨p, xs, rfl, by rw [wa.K]; exact g1, fun q hq => k.new r hq rfl ⟨_, upd_same, (g2.cut lo hi).mono (Ext.new hq)⟩⟩
    cases em : M[n]? with
    | none => simp [sliceB, em] at e
    | some o =>
      cases o with
      | lst vs => exact fin (.inl em) (by simpa [sliceB, em] using e)
      | rol vs => exact fin (.inr em) (by simpa [sliceB, em] using e)
      | dct kvs => simp [sliceB, em] at e
      | ins C fs => simp [sliceB, em] at e
  | _ => cases e
end
end Mn
end -- Sd8
section -- Sd9
set_option linter.all false
set_option autoImplicit false
set_option maxRecDepth 100000
namespace Mn
open PySem L2
section
variable {X : Cx} {W : Wo}
theorem RVs.one {φ : List Addr} {H : Hp} {vs : List Val} {v : Val} {xs : List V} (h : RVs W φ H [v] xs) : ∃ u, xs = [u] ∧ RV W φ H v u := by
  cases h with
  | cons r rs => cases rs; exact ⟨_, rfl, r⟩
theorem RVs.two {φ : List Addr} {H : Hp} {v w : Val} {xs : List V} (h : RVs W φ H [v, w] xs) : ∃ u z, xs = [u, z] ∧ RV W φ H v u ∧ RV W φ H w z := by
  cases h with
  | cons r rs =>
    cases rs with
    | cons r2 rs => cases rs; exact ⟨_, _, rfl, r, r2⟩
theorem RM.lstOf {φ : List Addr} {M : Mem} {H : Hp} (r : RM W φ M H) {v : Val} {u : V} {vs : List Val} (h : Mn.lstOf M v = some vs) (rv : RV W φ H v u) : ∃ a xs, u = .ref a ∧ SqL W.K H a xs ∧ RVs W φ H vs xs := by
  cases rv with
  | ref ha =>
    rename_i n a
    dsimp only [Mn.lstOf] at h
    cases e : M[n]? with
    | none => rw [e] at h; cases h
    | some o =>
      rw [e] at h
      cases o with
      | lst ws => cases h; obtain ⟨xs, h1, h2⟩ := r.seqL (.inl e) ha; exact ⟨a, xs, rfl, h1, h2⟩
      | rol ws => cases h; obtain ⟨xs, h1, h2⟩ := r.seqL (.inr e) ha; exact ⟨a, xs, rfl, h1, h2⟩
      | dct kvs => cases h
      | ins C fs => cases h
  | _ => cases h
theorem ints_map {φ : List Addr} {H : Hp} : ∀ {vs : List Val} {is : List Int} {xs : List V}, intsOf vs = some is → RVs W φ H vs xs → xs = is.map V.int
  | [], _, _, h, .nil => by cases h; rfl
  | v :: vs, is, _, h, .cons r rs => by
    cases v with
    | int i =>
      simp only [intsOf] at h
      cases e : intsOf vs with
      | none => rw [e] at h; cases h
      | some js =>
        rw [e] at h
        cases h
        cases r
        rw [ints_map e rs]
        rfl
    | _ => cases h
theorem bools_map {φ : List Addr} {H : Hp} : ∀ {vs : List Val} {is : List Bool} {xs : List V}, boolsOf vs = some is → RVs W φ H vs xs → xs = is.map V.bl
  | [], _, _, h, .nil => by cases h; rfl
  | v :: vs, is, _, h, .cons r rs => by
    cases v with
    | bl i =>
      simp only [boolsOf] at h
      cases e : boolsOf vs with
      | none => rw [e] at h; cases h
      | some js =>
        rw [e] at h
        cases h
        cases r
        rw [bools_map e rs]
        rfl
    | _ => cases h
theorem call_sum_ok (wa : At W X) (hc : X.calm = true) : CallR X (.builtin "sum") (lX W (bcall .sum)) := by
  intro pins s σ H xs us Q I r0 h
  obtain ⟨φ, M, as, v, M', r, ra, e, k⟩ := h
  match as, ra, e with
  | [x], ra, e =>
    obtain ⟨u, rfl, ru⟩ := RVs.one (vs := []) ra
    have e : (match Mn.lstOf M x with | some vs => ofO ((intsOf vs).map fun (is : List Int) => Val.int is.sum) M | none => .stuck) = .ok v M' := e
    cases e1 : Mn.lstOf M x with
    | none => rw [e1] at e; cases e
    | some vs =>
      rw [e1] at e
      obtain ⟨e2, rfl⟩ := ofO_ok e
      cases e3 : intsOf vs with
      | none => rw [e3] at e2; cases e2
      | some is =>
        rw [e3] at e2
        cases e2
        obtain ⟨a, ys, rfl, h1, h2⟩ := r.lstOf e1 ru
        have z := ints_map e3 h2
        subst z
        exact cr_sum hc pins s σ H _ us Q I r0 ⟨a, is, rfl, by rw [wa.K]; exact h1, k.here r (.int _)⟩
  | [], _, e => cases e
  | _ :: _ :: _, _, e => cases e
theorem call_all_ok (wa : At W X) (hc : X.calm = true) : CallR X (.builtin "all") (lX W (bcall .all)) := by
  intro pins s σ H xs us Q I r0 h
  obtain ⟨φ, M, as, v, M', r, ra, e, k⟩ := h
  match as, ra, e with
  | [x], ra, e =>
    obtain ⟨u, rfl, ru⟩ := RVs.one (vs := []) ra
    have e : (match Mn.lstOf M x with | some vs => ofO ((boolsOf vs).map fun (is : List Bool) => Val.bl (is.all id)) M | none => .stuck) = .ok v M' := e
    cases e1 : Mn.lstOf M x with
    | none => rw [e1] at e; cases e
    | some vs =>
      rw [e1] at e
      obtain ⟨e2, rfl⟩ := ofO_ok e
      cases e3 : boolsOf vs with
      | none => rw [e3] at e2; cases e2
      | some is =>
        rw [e3] at e2
        cases e2
        obtain ⟨a, ys, rfl, h1, h2⟩ := r.lstOf e1 ru
        have z := bools_map e3 h2
        subst z
        exact cr_all hc pins s σ H _ us Q I r0 ⟨a, is, rfl, by rw [wa.K]; exact h1, k.here r (.bl _)⟩
  | [], _, e => cases e
  | _ :: _ :: _, _, e => cases e
theorem call_any_ok (wa : At W X) (hc : X.calm = true) : CallR X (.builtin "any") (lX W (bcall .any)) := by
  intro pins s σ H xs us Q I r0 h
  obtain ⟨φ, M, as, v, M', r, ra, e, k⟩ := h
  match as, ra, e with
  | [x], ra, e =>
    obtain ⟨u, rfl, ru⟩ := RVs.one (vs := []) ra
    have e : (match Mn.lstOf M x with | some vs => ofO ((boolsOf vs).map fun (is : List Bool) => Val.bl (is.any id)) M | none => .stuck) = .ok v M' := e
    cases e1 : Mn.lstOf M x with
    | none => rw [e1] at e; cases e
    | some vs =>
      rw [e1] at e
      obtain ⟨e2, rfl⟩ := ofO_ok e
      cases e3 : boolsOf vs with
      | none => rw [e3] at e2; cases e2
      | some is =>
        rw [e3] at e2
        cases e2
        obtain ⟨a, ys, rfl, h1, h2⟩ := r.lstOf e1 ru
        have z := bools_map e3 h2
        subst z
        exact cr_any hc pins s σ H _ us Q I r0 ⟨a, is, rfl, by rw [wa.K]; exact h1, k.here r (.bl _)⟩
  | [], _, e => cases e
  | _ :: _ :: _, _, e => cases e
theorem call_abs_ok : CallR X (.builtin "abs") (lX W (bcall .abs)) := by
  intro pins s σ H xs us Q I r0 h
  obtain ⟨φ, M, as, v, M', r, ra, e, k⟩ := h
  match as, ra, e with
  | [.int i], ra, e =>
    obtain ⟨u, rfl, ru⟩ := RVs.one (vs := []) ra
    cases ru
    cases e
    exact call_abs pins s σ H _ us Q I r0 ⟨i, rfl, k.here r (.int _)⟩
theorem call_int_ok : CallR X (.type "int") (lX W (bcall .int)) := by
  intro pins s σ H xs us Q I r0 h
  obtain ⟨φ, M, as, v, M', r, ra, e, k⟩ := h
  match as, ra, e with
  | [.int i], ra, e =>
    obtain ⟨u, rfl, ru⟩ := RVs.one (vs := []) ra
    cases ru
    cases e
    exact call_int1 pins s σ H _ us Q I r0 (.inl ⟨i, rfl, k.here r (.int _)⟩)
  | [.bl i], ra, e =>
    obtain ⟨u, rfl, ru⟩ := RVs.one (vs := []) ra
    cases ru
    cases e
    exact call_int1 pins s σ H _ us Q I r0 (.inr ⟨i, rfl, k.here r (.int _)⟩)
theorem call_str_ok : CallR X (.type "str") (lX W (bcall .str)) := by
  intro pins s σ H xs us Q I r0 h
  obtain ⟨φ, M, as, v, M', r, ra, e, k⟩ := h
  match as, ra, e with
  | [.int i], ra, e =>
    obtain ⟨u, rfl, ru⟩ := RVs.one (vs := []) ra
    cases ru
    obtain ⟨c, e⟩ := chk_ok e
    cases e
    exact call_str_int pins s σ H _ us Q I r0 ⟨i, rfl, of_decide_eq_true c, k.here r (.str _)⟩
theorem call_len_ok (wa : At W X) (hu : X.A.units + 64 < cLine) : CallR X (.builtin "len") (lX W (bcall .len)) := by
  intro pins s σ H xs us Q I r0 h
  obtain ⟨φ, M, as, v, M', r, ra, e, k⟩ := h
  match as, ra, e with
  | [x], ra, e =>
    obtain ⟨u, rfl, ru⟩ := RVs.one (vs := []) ra
    have e : ofO ((lenOf M x).map fun n => Val.int n) M = .ok v M' := e
    obtain ⟨e2, rfl⟩ := ofO_ok e
    cases e3 : lenOf M x with
    | none => rw [e3] at e2; cases e2
    | some n =>
      rw [e3] at e2
      cases e2
      cases ru with
      | tup h1 h2 =>
        cases e3
        rw [h2.length] at k
        exact call_len_seq pins s σ H _ us Q I r0 ⟨_, _, rfl, .inr (by rw [wa.K]; exact h1), k.here r (.int _)⟩
      | str z =>
        simp only [lenOf] at e3
        split at e3
        · cases e3
          exact call_len_str pins s σ H _ us Q I r0 ⟨z, rfl, by assumption, k.here r (.int _)⟩
        · cases e3
      | @ref m a ha =>
        cases em : M[m]? with
        | none => simp [lenOf, em] at e3
        | some o =>
          cases o with
          | lst vs =>
            obtain ⟨ys, h1, h2⟩ := r.seqL (.inl em) ha
            have e3 : some vs.length = some n := by simpa [lenOf, em] using e3
            cases e3
            rw [h2.length] at k
            exact call_len_seq pins s σ H _ us Q I r0 ⟨_, _, rfl, .inl (by rw [wa.K]; exact h1), k.here r (.int _)⟩
          | rol vs =>
            obtain ⟨ys, h1, h2⟩ := r.seqL (.inr em) ha
            have e3 : some vs.length = some n := by simpa [lenOf, em] using e3
            cases e3
            rw [h2.length] at k
            exact call_len_seq pins s σ H _ us Q I r0 ⟨_, _, rfl, .inl (by rw [wa.K]; exact h1), k.here r (.int _)⟩
          | dct kvs =>
            have e3 : kvs.length = n := by simpa [lenOf, em] using e3
            subst e3
            cases r0 with
            | cons r1 r2 =>
              cases r2
              cases r1
              rcases r.obj m _ a em ha with ⟨hl, kk, h1, h2⟩ | z
              · rw [Paired.length h2] at k
                exact d_len I (.inl h1) fun t s' I' => ⟨.int _, H, I', ⟨t, rfl⟩, k.here r (.int _)⟩
              · have hz := z.sz
                obtain ⟨xs, g1, g2, g3, _⟩ := z.dict wa I
                rw [Paired.length g1] at k hz
                rw [sizeLine_eq] at hz
                rw [← wa.prog, ← wa.w] at g2
                exact call_len_dictH g3 g2 (by omega) ⟨.int _, H, I.tok _, ⟨_, rfl⟩, k.here r (.int _)⟩
          | ins C fs => simp [lenOf, em] at e3
      | _ => cases e3
  | [], _, e => cases e
  | _ :: _ :: _, _, e => cases e
end
end Mn
end -- Sd9
section -- Sd10
set_option linter.all false
set_option autoImplicit false
set_option maxRecDepth 100000
namespace Mn
open PySem L2
abbrev rn : Nat → Option PyData := fun _ => none
mutual
theorem dat_inj : ∀ (v w : Val) (d : PyData), dat rn v = some d → dat rn w = some d → v = w
  | .non, w, _, h, g => by
    cases h
    cases w with
    | non => rfl
    | tup ws => simp only [dat] at g; cases e : dats rn ws <;> (rw [e] at g; cases g)
    | _ => cases g
  | .bl b, w, _, h, g => by
    cases h
    cases w with
    | bl c => cases g; rfl
    | tup ws => simp only [dat] at g; cases e : dats rn ws <;> (rw [e] at g; cases g)
    | _ => cases g
  | .int i, w, _, h, g => by
    cases h
    cases w with
    | int c => cases g; rfl
    | tup ws => simp only [dat] at g; cases e : dats rn ws <;> (rw [e] at g; cases g)
    | _ => cases g
  | .str i, w, _, h, g => by
    cases h
    cases w with
    | str c => cases g; rfl
    | tup ws => simp only [dat] at g; cases e : dats rn ws <;> (rw [e] at g; cases g)
    | _ => cases g
  | .tup vs, w, d, h, g => by
    simp only [dat] at h
    cases e : dats rn vs with
    | none => rw [e] at h; cases h
    | some ds =>
      rw [e] at h
      cases h
      cases w with
      | tup ws =>
        simp only [dat] at g
        cases e2 : dats rn ws with
        | none => rw [e2] at g; cases g
        | some es =>
          rw [e2] at g
          cases g
          rw [dats_inj vs ws ds e e2]
      | _ => cases g
  | .ref _, _, _, h, _ => by cases h
  | .ty _, _, _, h, _ => by cases h
  | .glo _, _, _, h, _ => by cases h
theorem dats_inj : ∀ (vs ws : List Val) (ds : List PyData), dats rn vs = some ds → dats rn ws = some ds → vs = ws
  | [], ws, _, h, g => by
    cases h
    cases ws with
    | nil => rfl
    | cons w ws =>
      simp only [dats] at g
      cases e1 : dat rn w <;> cases e2 : dats rn ws <;> (rw [e1, e2] at g; cases g)
  | v :: vs, ws, ds, h, g => by
    simp only [dats] at h
    cases e1 : dat rn v with
    | none => rw [e1] at h; cases h
    | some d =>
      cases e2 : dats rn vs with
      | none => rw [e1, e2] at h; cases h
      | some es =>
        rw [e1, e2] at h
        cases h
        cases ws with
        | nil => cases g
        | cons w ws =>
          simp only [dats] at g
          cases f1 : dat rn w with
          | none => rw [f1] at g; cases g
          | some d' =>
            cases f2 : dats rn ws with
            | none => rw [f1, f2] at g; cases g
            | some es' =>
              rw [f1, f2] at g
              cases g
              rw [dat_inj v w d e1 f1, dats_inj vs ws es e2 f2]
end
theorem dats_all : ∀ {vs : List Val} {ds : List PyData}, dats rn vs = some ds → ds = vs.map pd ∧ ∀ v ∈ vs, dat rn v = some (pd v)
  | [], _, h => by cases h; exact ⟨rfl, fun v hv => by cases hv⟩
  | v :: vs, ds, h => by
    simp only [dats] at h
    cases e1 : dat rn v with
    | none => rw [e1] at h; cases h
    | some d =>
      cases e2 : dats rn vs with
      | none => rw [e1, e2] at h; cases h
      | some es =>
        rw [e1, e2] at h
        cases h
        obtain ⟨h1, h2⟩ := dats_all e2
        have hp : pd v = d := by unfold pd; rw [show dat (fun _ => none) v = dat rn v from rfl, e1]; rfl
        refine ⟨by rw [List.map_cons, hp, ← h1], fun w hw => ?_⟩
        rcases List.mem_cons.mp hw with rfl | hw
        · rw [hp]; exact e1
        · exact h2 w hw
mutual
/-- pure data are the same, however references read -/
theorem dat_pure : ∀ (v : Val) (d : PyData) (rd : Nat → Option PyData), dat rn v = some d → dat rd v = some d
  | .non, _, _, h => h
  | .bl _, _, _, h => h
  | .int _, _, _, h => h
  | .str _, _, _, h => h
  | .tup vs, d, rd, h => by
    simp only [dat] at h ⊢
    cases e : dats rn vs with
    | none => rw [e] at h; cases h
    | some ds => rw [e] at h; cases h; rw [dats_pure vs ds rd e]; rfl
  | .ref _, _, _, h => by cases h
  | .ty _, _, _, h => by cases h
  | .glo _, _, _, h => by cases h
theorem dats_pure : ∀ (vs : List Val) (ds : List PyData) (rd : Nat → Option PyData), dats rn vs = some ds → dats rd vs = some ds
  | [], _, _, h => h
  | v :: vs, ds, rd, h => by
    simp only [dats] at h ⊢
    cases e1 : dat rn v with
    | none => rw [e1] at h; cases h
    | some d =>
      cases e2 : dats rn vs with
      | none => rw [e1, e2] at h; cases h
      | some es =>
        rw [e1, e2] at h
        cases h
        rw [dat_pure v d rd e1, dats_pure vs es rd e2]
end
theorem sortable_alike {ds : List PyData} (h : sortable ds = true) : PySem.W.AllAlike ds ∧ PySem.W.Sortable ds ∧ (∀ d ∈ ds, SeqAt.shaped d = true) ∧ (∀ d ∈ ds, d ≠ .none) := by
  unfold sortable at h
  simp only [Bool.and_eq_true, Bool.or_eq_true, List.all_eq_true] at h
  obtain ⟨⟨h1, h2⟩, h3⟩ := h
  refine ⟨fun d hd d' hd' => h1 d hd d' hd', ?_, h2, fun d hd => ?_⟩
  · rcases h3 with h3 | h3
    · refine .inl fun d hd => ?_
      have z := h3 d hd
      split at z
      · exact ⟨_, _, rfl⟩
      · cases z
    · refine .inr fun d hd => ?_
      have z := h3 d hd
      refine ⟨fun e => ?_, fun xs e => ?_⟩ <;> (subst e; cases z)
  · rcases h3 with h3 | h3
    · have z := h3 d hd
      split at z
      · intro e; cases e
      · cases z
    · have z := h3 d hd
      intro e; subst e; cases z
theorem depthAll_le : ∀ {ds : List PyData}, (∀ d ∈ ds, SeqAt.shaped d = true) → PyData.depthAll ds ≤ 64
  | [], _ => Nat.zero_le _
  | d :: ds, h => by
    have h1 := SeqAt.depth_of_shaped (h d List.mem_cons_self)
    have h2 := depthAll_le (ds := ds) fun e he => h e (List.mem_cons_of_mem _ he)
    show max d.depth (PyData.depthAll ds) ≤ 64
    omega
theorem vmin_pd (v : Val) : ∀ vs : List Val, pd (vs.foldl (fun m x => if PySem.W.dataLt (pd x) (pd m) then x else m) v) = PySem.W.minD (pd v) (vs.map pd) ∧ (vs.foldl (fun m x => if PySem.W.dataLt (pd x) (pd m) then x else m) v) ∈ v :: vs := by
  intro vs
  induction vs generalizing v with
  | nil => exact ⟨rfl, List.mem_cons_self⟩
  | cons x vs ih =>
    obtain ⟨h1, h2⟩ := ih (if PySem.W.dataLt (pd x) (pd v) then x else v)
    refine ⟨?_, ?_⟩
    · rw [List.foldl_cons, h1]
      unfold PySem.W.minD
      rw [List.map_cons, List.foldl_cons]
      congr 1
      split <;> rfl
    · rw [List.foldl_cons]
      rcases List.mem_cons.mp h2 with h2 | h2
      · rw [h2]; split
        · exact List.mem_cons_of_mem _ List.mem_cons_self
        · exact List.mem_cons_self
      · exact List.mem_cons_of_mem _ (List.mem_cons_of_mem _ h2)
theorem vmax_pd (v : Val) : ∀ vs : List Val, pd (vs.foldl (fun m x => if PySem.W.dataLt (pd m) (pd x) then x else m) v) = PySem.W.maxD (pd v) (vs.map pd) ∧ (vs.foldl (fun m x => if PySem.W.dataLt (pd m) (pd x) then x else m) v) ∈ v :: vs := by
  intro vs
  induction vs generalizing v with
  | nil => exact ⟨rfl, List.mem_cons_self⟩
  | cons x vs ih =>
    obtain ⟨h1, h2⟩ := ih (if PySem.W.dataLt (pd v) (pd x) then x else v)
    refine ⟨?_, ?_⟩
    · rw [List.foldl_cons, h1]
      unfold PySem.W.maxD
      rw [List.map_cons, List.foldl_cons]
      congr 1
      split <;> rfl
    · rw [List.foldl_cons]
      rcases List.mem_cons.mp h2 with h2 | h2
      · rw [h2]; split
        · exact List.mem_cons_of_mem _ List.mem_cons_self
        · exact List.mem_cons_self
      · exact List.mem_cons_of_mem _ (List.mem_cons_of_mem _ h2)
section
variable {X : Cx} {W : Wo}
theorem ReadsAllOf (wa : At W X) {φ : List Addr} {M : Mem} {H : Hp} {pins : List (Addr × PySem.Obj)} {σ : L2.St} {s : Shared} (I : Inv X pins σ H s) (r : RM W φ M H) {vs : List Val} {us : List V} {ds : List PyData} {xs : List Value} (h : RVs W φ H vs us) (e : dats rn vs = some ds) (rx : Vals us xs) : ∃ as, ReadsAll s.heap xs ds as :=
  Dp.readsAll I ds us xs (by rw [wa.K]; exact datsM_dp r h (dats_pure vs ds _ e)) rx
/-- the item that min, max hand back -/
theorem best_item (wa : At W X) {φ : List Addr} {M : Mem} {H : Hp} {pins : List (Addr × PySem.Obj)} {σ : L2.St} {s : Shared} (I : Inv X pins σ H s) (r : RM W φ M H) {vs : List Val} {us : List V} {xs : List Value} {best : Val} (h : RVs W φ H vs us) (rx : Vals us xs)
    (hp : ∀ v ∈ vs, dat rn v = some (pd v)) (hal : ∀ v ∈ vs, ∀ w ∈ vs, PySem.W.alike (pd v) (pd w) = true) (hb : best ∈ vs) {i : Nat} {x : Value} {h' : Heap} {bs : List Addr} (hi : xs[i]? = some x) (hk : ∀ b o, s.heap.get? b = some o → h'.get? b = some o) (hr : Reads h' x (pd best) bs) :
    ∃ u, RelV u x ∧ RV W φ H best u := by
  have hlt : i < vs.length := by
    have := (List.getElem?_eq_some_iff.mp hi).1
    rw [h.length, Paired.length rx]; exact this
  have hv : vs[i]? = some vs[i] := List.getElem?_eq_getElem hlt
  obtain ⟨u, hu, ru⟩ := h.get hv
  obtain ⟨x', hx', rux⟩ := rx.get hu
  rw [hi] at hx'
  cases hx'
  have mem : vs[i] ∈ vs := List.getElem_mem hlt
  obtain ⟨as, r1⟩ := ReadsOf wa I r ru (dat_pure _ _ _ (hp _ mem)) rux
  have e : pd vs[i] = pd best := PySem.W.alike_unique _ _ _ _ _ (hal _ mem _ hb) (PySem.W.reads_keeps hk r1) hr
  have e2 : vs[i] = best := dat_inj _ _ _ (hp _ mem) (by rw [e]; exact hp _ hb)
  exact ⟨u, rux, by rw [← e2]; exact ru⟩
theorem alikes_ok {vs : List Val} (h : alikes vs = true) : ∃ ds, dats rn vs = some ds ∧ sortable ds = true := by
  unfold alikes at h
  split at h
  · exact ⟨_, by assumption, h⟩
  · cases h
theorem call_min_ok (wa : At W X) (hc : X.calm = true) (hu : X.A.units + 80 < cLine) : CallR X (.builtin "min") (lX W (bcall .min)) := by
  intro pins s σ H xs us Q I r0 h
  obtain ⟨φ, M, as, v, M', r, ra, e, k⟩ := h
  match as, ra, e with
  | [x], ra, e =>
    obtain ⟨u, rfl, ru⟩ := RVs.one (vs := []) ra
    have e : (match seqOf M x with | some vs => chk (alikes vs) (ofO (vmin vs) M) | none => .stuck) = .ok v M' := e
    cases e1 : seqOf M x with
    | none => rw [e1] at e; cases e
    | some vs =>
      rw [e1] at e
      obtain ⟨c, e⟩ := chk_ok e
      obtain ⟨e2, rfl⟩ := ofO_ok e
      cases vs with
      | nil => cases e2
      | cons v0 vs =>
        obtain ⟨a, ys, rfl, h1, h2⟩ := r.seq e1 ru
        obtain ⟨ds, hd, hs⟩ := alikes_ok c
        obtain ⟨z1, z2⟩ := dats_all hd
        obtain ⟨s1, s2, s3, s4⟩ := sortable_alike hs
        obtain ⟨m1, m2⟩ := vmin_pd v0 vs
        cases r0 with
        | cons q0 q1 =>
          cases q1
          cases q0
          have e3 : v = vs.foldl (fun m x => if PySem.W.dataLt (pd x) (pd m) then x else m) v0 := (Option.some.inj e2).symm
          rw [← e3] at m1 m2
          subst z1
          rw [List.map_cons] at hd s1 s3 s4
          have hal : ∀ v ∈ v0 :: vs, ∀ w ∈ v0 :: vs, PySem.W.alike (pd v) (pd w) = true := fun v hv w hw => s1 _ (List.mem_map_of_mem (f := pd) hv) _ (List.mem_map_of_mem (f := pd) hw)
          have hroom : X.A.units + 1 + PyData.depthAll (pd v0 :: vs.map pd) < cLine := by have := depthAll_le s3; omega
          rcases h1 with h1 | h1
          · obtain ⟨its, rv, hl, _⟩ := I.list (by rw [wa.K]; exact h1)
            obtain ⟨as, hR⟩ := ReadsAllOf wa I r h2 hd rv
            refine PySem.W.min_list_data (I.ok.hd hc) hl.isList (by simpa using hR) ⟨fun x hx y hy => s1 x hx y hy, s4⟩ hroom fun i x h' tk bs hi hr hk => ?_
            obtain ⟨u, g1, g2⟩ := best_item wa I r h2 rv z2 hal m2 (by simpa using hi) hk (by rw [m1]; exact hr)
            exact ⟨u, H, I.kept hk, g1, k.here r g2⟩
          · obtain ⟨its, rv, hl, _⟩ := I.tuple (by rw [wa.K]; exact h1)
            obtain ⟨as, hR⟩ := ReadsAllOf wa I r h2 hd rv
            refine PySem.W.min_tuple_data (I.ok.hd hc) hl (by simpa using hR) ⟨fun x hx y hy => s1 x hx y hy, s4⟩ hroom fun i x h' tk bs hi hr hk => ?_
            obtain ⟨u, g1, g2⟩ := best_item wa I r h2 rv z2 hal m2 (by simpa using hi) hk (by rw [m1]; exact hr)
            exact ⟨u, H, I.kept hk, g1, k.here r g2⟩
  | [x, y], ra, e =>
    obtain ⟨u, z, rfl, ru, rz⟩ := RVs.two ra
    cases ru with
    | int i =>
      cases rz with
      | int j => cases e; exact call_min2 hc pins s σ H _ us Q I r0 ⟨i, j, rfl, k.here r (.int _)⟩
      | _ => cases e
    | _ => cases e
  | [], _, e => cases e
  | _ :: _ :: _ :: _, _, e => cases e
theorem call_max_ok (wa : At W X) (hc : X.calm = true) (hu : X.A.units + 80 < cLine) : CallR X (.builtin "max") (lX W (bcall .max)) := by
  intro pins s σ H xs us Q I r0 h
  obtain ⟨φ, M, as, v, M', r, ra, e, k⟩ := h
  match as, ra, e with
  | [x], ra, e =>
    obtain ⟨u, rfl, ru⟩ := RVs.one (vs := []) ra
    have e : (match seqOf M x with | some vs => chk (alikes vs) (ofO (vmax vs) M) | none => .stuck) = .ok v M' := e
    cases e1 : seqOf M x with
    | none => rw [e1] at e; cases e
    | some vs =>
      rw [e1] at e
      obtain ⟨c, e⟩ := chk_ok e
      obtain ⟨e2, rfl⟩ := ofO_ok e
      cases vs with
      | nil => cases e2
      | cons v0 vs =>
        obtain ⟨a, ys, rfl, h1, h2⟩ := r.seq e1 ru
        obtain ⟨ds, hd, hs⟩ := alikes_ok c
        obtain ⟨z1, z2⟩ := dats_all hd
        obtain ⟨s1, s2, s3, s4⟩ := sortable_alike hs
        obtain ⟨m1, m2⟩ := vmax_pd v0 vs
        cases r0 with
        | cons q0 q1 =>
          cases q1
          cases q0
          have e3 : v = vs.foldl (fun m x => if PySem.W.dataLt (pd m) (pd x) then x else m) v0 := (Option.some.inj e2).symm
          rw [← e3] at m1 m2
          subst z1
          rw [List.map_cons] at hd s1 s3 s4
          have hal : ∀ v ∈ v0 :: vs, ∀ w ∈ v0 :: vs, PySem.W.alike (pd v) (pd w) = true := fun v hv w hw => s1 _ (List.mem_map_of_mem (f := pd) hv) _ (List.mem_map_of_mem (f := pd) hw)
          have hroom : X.A.units + 1 + PyData.depthAll (pd v0 :: vs.map pd) < cLine := by have := depthAll_le s3; omega
          rcases h1 with h1 | h1
          · obtain ⟨its, rv, hl, _⟩ := I.list (by rw [wa.K]; exact h1)
            obtain ⟨as, hR⟩ := ReadsAllOf wa I r h2 hd rv
            refine PySem.W.max_list_data (I.ok.hd hc) hl.isList (by simpa using hR) ⟨fun x hx y hy => s1 x hx y hy, s4⟩ hroom fun i x h' tk bs hi hr hk => ?_
            obtain ⟨u, g1, g2⟩ := best_item wa I r h2 rv z2 hal m2 (by simpa using hi) hk (by rw [m1]; exact hr)
            exact ⟨u, H, I.kept hk, g1, k.here r g2⟩
          · obtain ⟨its, rv, hl, _⟩ := I.tuple (by rw [wa.K]; exact h1)
            obtain ⟨as, hR⟩ := ReadsAllOf wa I r h2 hd rv
            refine PySem.W.max_tuple_data (I.ok.hd hc) hl (by simpa using hR) ⟨fun x hx y hy => s1 x hx y hy, s4⟩ hroom fun i x h' tk bs hi hr hk => ?_
            obtain ⟨u, g1, g2⟩ := best_item wa I r h2 rv z2 hal m2 (by simpa using hi) hk (by rw [m1]; exact hr)
            exact ⟨u, H, I.kept hk, g1, k.here r g2⟩
  | [x, y], ra, e =>
    obtain ⟨u, z, rfl, ru, rz⟩ := RVs.two ra
    cases ru with
    | int i =>
      cases rz with
      | int j => cases e; exact call_max2 hc pins s σ H _ us Q I r0 ⟨i, j, rfl, k.here r (.int _)⟩
      | _ => cases e
    | _ => cases e
  | [], _, e => cases e
  | _ :: _ :: _ :: _, _, e => cases e
end
end Mn
end -- Sd10
section -- Sd11
set_option linter.all false
set_option autoImplicit false
set_option maxRecDepth 100000
namespace Mn
open PySem L2
section
variable {X : Cx} {W : Wo}
theorem mergeSort_mem {α : Type} {le : α → α → Bool} {l : List α} {a : α} (h : a ∈ l.mergeSort le) : a ∈ l := (List.mergeSort_perm l le).mem_iff.mp h
/-- items that go together, one by one -/
theorem each_of {φ : List Addr} {H : Hp} : ∀ {vs : List Val} {us : List V} {xs : List Value}, RVs W φ H vs us → Vals us xs → PySem.W.EachIs (fun x v => ∃ u, RV W φ H v u ∧ RelV u x) xs vs
  | _, _, _, .nil, .nil => .nil
  | _, _, _, .cons r rs, .cons q qs => .cons ⟨_, r, q⟩ (each_of rs qs)
theorem each_back {φ : List Addr} {H : Hp} : ∀ {vs : List Val} {xs : List Value}, PySem.W.EachIs (fun x v => ∃ u, RV W φ H v u ∧ RelV u x) xs vs → ∃ us, RVs W φ H vs us ∧ Vals us xs
  | _, _, .nil => ⟨[], .nil, .nil⟩
  | _, _, .cons ⟨u, r, q⟩ hs => let ⟨us, rs, qs⟩ := each_back hs; ⟨u :: us, .cons r rs, .cons q qs⟩
theorem each_reads (wa : At W X) {φ : List Addr} {M : Mem} {H : Hp} {pins : List (Addr × PySem.Obj)} {σ : L2.St} {s : Shared} (I : Inv X pins σ H s) (r : RM W φ M H) : ∀ {vs : List Val} {us : List V} {xs : List Value}, RVs W φ H vs us → Vals us xs → (∀ v ∈ vs, dat rn v = some (pd v)) →
    PySem.W.EachIs (fun x v => ∃ as, Reads s.heap x (pd v) as) xs vs
  | _, _, _, .nil, .nil, _ => .nil
  | _, _, _, .cons q qs, .cons z zs, h => .cons (ReadsOf wa I r q (dat_pure _ _ _ (h _ List.mem_cons_self)) z) (each_reads wa I r qs zs fun v hv => h v (List.mem_cons_of_mem _ hv))
theorem call_sorted_ok (wa : At W X) (hu : X.A.units + 80 < cLine) : CallR X (.builtin "sorted") (lX W (bcall .sorted)) := by
  intro pins s σ H xs us Q I r0 h
  obtain ⟨φ, M, as, v, M', r, ra, e, k⟩ := h
  match as, ra, e with
  | [x], ra, e =>
    obtain ⟨u, rfl, ru⟩ := RVs.one (vs := []) ra
    have e : (match Mn.lstOf M x with | some vs => (match vsort vs with | some ws => new (.lst ws) M | none => .stuck) | none => .stuck) = .ok v M' := e
    cases e1 : Mn.lstOf M x with
    | none => rw [e1] at e; cases e
    | some vs =>
      rw [e1] at e
      obtain ⟨a, ys, rfl, h1, h2⟩ := r.lstOf e1 ru
      simp only [vsort_def] at e
      cases hd : dats (fun _ => none) vs with
      | none => rw [hd] at e; cases e
      | some ds =>
        rw [hd] at e
        dsimp only at e
        by_cases hc : (sortable ds && decide (vs.length ≤ sizeLine)) = true
        · rw [if_pos hc] at e
          cases e
          rw [Bool.and_eq_true] at hc
          obtain ⟨z1, z2⟩ := dats_all hd
          obtain ⟨s1, s2, s3, s4⟩ := sortable_alike hc.1
          subst z1
          cases r0 with
          | cons q0 q1 =>
            cases q1
            cases q0
            obtain ⟨its, rv, hl, hz⟩ := I.list (by rw [wa.K]; exact h1)
            refine PySem.W.sorted_data (bs := vs) (enc := pd) hl.isList (each_of h2 rv) (each_reads wa I r h2 rv z2) s1 s2 (of_decide_eq_true hc.2) (fun b hb => ?_) fun out ho he => ?_
            · have := SeqAt.depth_of_shaped (s3 _ (List.mem_map_of_mem (f := pd) hb)); omega
            · obtain ⟨ws, g1, g2⟩ := each_back he
              obtain ⟨ep, he'⟩ := PyProof.Rows.sortedAll_at s.heap its out.toArray
              have hlen : ws.length ≤ sizeLine := by rw [← g1.length, List.length_mergeSort]; exact of_decide_eq_true hc.2
              have hp := I.hok.fresh (Nat.le_succ s.heap.objs.size)
              refine ⟨.ref _, upd H (s.heap.objs.size + 1) (.lst ws), I.laid (t' := s.toks) (fun _ _ => PyProof.Rows.sortedAll_old) (Nat.le_succ _) ⟨hlen, out, ep, g2, he'⟩, rfl, ?_⟩
              exact k.new r hp rfl ⟨ws, upd_same, g1.mono (Ext.new hp)⟩
        · rw [if_neg hc] at e; cases e
  | [], _, e => cases e
  | _ :: _ :: _, _, e => cases e
theorem RTs.refs {φ : List Addr} {H : Hp} {kvs : List (Val × Val)} {xs : List (NestedKey × Addr × Value)} (r : RTs W φ H kvs xs) : RVs W φ H (kvs.map (·.1)) (xs.map fun x => V.ref x.2.1) := by
  induction r with
  | nil => exact .nil
  | cons h hs ih => exact .cons h.2.1 ih
theorem RKs.keysV {φ : List Addr} {H : Hp} {kvs : List (Val × Val)} {xs : List (Key × V)} (r : RKs W φ H kvs xs) : RVs W φ H (kvs.map (·.1)) (xs.map fun x => kV x.1) := by
  induction r with
  | nil => exact .nil
  | @cons p q ps qs h hs ih =>
    have key : ∀ (x : Val) (y : Key), RK x y → RV W φ H x (kV y) := fun x y h1 => by
      cases h1 with
      | int i => exact .int i
      | str i => exact .str i
    exact .cons (key _ _ h.1) ih
theorem refsV : ∀ xs : List (NestedKey × Addr × Value), Vals (xs.map fun x => V.ref x.2.1) (xs.map fun x => Value.ref x.2.1)
  | [] => .nil
  | _ :: xs => .cons rfl (refsV xs)
theorem call_list_ok (wa : At W X) (hc : X.calm = true) : CallR X (.type "list") (lX W (bcall .list)) := by
  intro pins s σ H xs us Q I r0 h
  obtain ⟨φ, M, as, v, M', r, ra, e, k⟩ := h
  match as, ra, e with
  | [x], ra, e =>
    obtain ⟨u, rfl, ru⟩ := RVs.one (vs := []) ra
    have e : (match itemsOf M x with | some vs => new (.lst vs) M | none => .stuck) = .ok v M' := e
    cases e1 : itemsOf M x with
    | none => rw [e1] at e; cases e
    | some vs =>
      rw [e1] at e
      cases e
      cases ru with
      | tup h1 h2 =>
        cases e1
        exact call_list_of pins s σ H _ us Q I r0 ⟨_, _, rfl, .inr (by rw [wa.K]; exact h1), fun l hl => k.new r hl rfl ⟨_, upd_same, h2.mono (Ext.new hl)⟩⟩
      | @ref m a ha =>
        cases em : M[m]? with
        | none => simp [itemsOf, em] at e1
        | some o =>
          cases o with
          | lst ws =>
            obtain ⟨ys, h1, h2⟩ := r.seqL (.inl em) ha
            have e1 : some ws = some vs := by simpa [itemsOf, em] using e1
            cases e1
            exact call_list_of pins s σ H _ us Q I r0 ⟨_, _, rfl, .inl (by rw [wa.K]; exact h1), fun l hl => k.new r hl rfl ⟨_, upd_same, h2.mono (Ext.new hl)⟩⟩
          | rol ws =>
            obtain ⟨ys, h1, h2⟩ := r.seqL (.inr em) ha
            have e1 : some ws = some vs := by simpa [itemsOf, em] using e1
            cases e1
            exact call_list_of pins s σ H _ us Q I r0 ⟨_, _, rfl, .inl (by rw [wa.K]; exact h1), fun l hl => k.new r hl rfl ⟨_, upd_same, h2.mono (Ext.new hl)⟩⟩
          | dct kvs =>
            have e1 : kvs.map (·.1) = vs := by simpa [itemsOf, em] using e1
            subst e1
            have ro := r.obj m _ a em ha
            rcases ro with ⟨hl, kk, h1, h2⟩ | z
            · refine call_list_dK hc pins s σ H _ us Q I r0 ⟨a, kk, rfl, h1, fun q hq => k.new r hq rfl ⟨_, upd_same, (RKs.keysV h2).mono (Ext.new hq)⟩⟩
            · obtain ⟨ne, hk, hs, hz, o, es, ep, xs, g1, g3, g4, g5, g6, g7⟩ := z
              have hg : s.heap.get? a = some o := (I.hok a _ g1).1
              have l1 : es.size = xs.length := size_of_entries g5
              have l2 : kvs.length = xs.length := Paired.length g7
              cases r0 with
              | cons q0 q1 =>
                cases q1
                cases q0
                refine PySem.W.kdl_call (prog := X.prog) (w := X.w) (L2.kdl_raw hs g3 g4) (I.ok.hd hc) hg ?_ fun h' tk acc c kp e it => ?_
                · omega
                · have hp := I.hok.fresh (Nat.le_refl s.heap.objs.size)
                  have ea : acc.toList = xs.map fun x => Value.ref x.2.1 := by
                    apply List.ext_getElem?
                    intro j
                    rw [List.getElem?_map]
                    cases hj : acc.toList[j]? with
                    | none =>
                      have w1 := List.getElem?_eq_none_iff.mp hj
                      rw [Array.length_toList, it.1] at w1
                      rw [List.getElem?_eq_none (by omega)]
                      rfl
                    | some y =>
                      obtain ⟨en, w2, w3⟩ := it.2 j y (by rw [← Array.getElem?_toList]; exact hj)
                      have w4 := entry_at g5 j
                      rw [w2] at w4
                      cases w5 : xs[j]? with
                      | none => rw [w5] at w4; cases w4
                      | some b =>
                        rw [w5] at w4
                        have w6 : en = entryOfKey (nestedKind W.prog W.w) b := Option.some.inj w4
                        rw [w3, w6]
                        rfl
                  have rv : Vals (xs.map fun x => V.ref x.2.1) acc.toList := by
                    rw [ea]
                    exact refsV xs
                  refine ⟨.ref _, upd H s.heap.objs.size (.lst (xs.map fun x => V.ref x.2.1)), I.laid (t' := tk) kp (Nat.le_refl _) ⟨by rw [List.length_map]; omega, acc.toList, c, rv, by rw [Array.toArray_toList]; exact e⟩, rfl, ?_⟩
                  exact k.new r hp rfl ⟨_, upd_same, (RTs.refs g7).mono (Ext.new hp)⟩
          | ins C fs => simp [itemsOf, em] at e1
      | _ => cases e1
  | [], _, e => cases e
  | _ :: _ :: _, _, e => cases e
theorem call_tuple_ok (wa : At W X) : CallR X (.type "tuple") (lX W (bcall .tuple)) := by
  intro pins s σ H xs us Q I r0 h
  obtain ⟨φ, M, as, v, M', r, ra, e, k⟩ := h
  match as, ra, e with
  | [x], ra, e =>
    obtain ⟨u, rfl, ru⟩ := RVs.one (vs := []) ra
    have e : (match seqOf M x with | some vs => Res.ok (Val.tup vs) M | none => .stuck) = .ok v M' := e
    cases e1 : seqOf M x with
    | none => rw [e1] at e; cases e
    | some vs =>
      rw [e1] at e
      cases e
      cases ru with
      | tup h1 h2 =>
        cases e1
        exact call_tuple_of pins s σ H _ us Q I r0 ⟨_, _, rfl, .inr ⟨by rw [wa.K]; exact h1, k.here r (.tup h1 h2)⟩⟩
      | @ref m a ha =>
        obtain ⟨a', ys, e2, h1, h2⟩ := r.seq e1 (.ref ha)
        cases e2
        rcases h1 with h1 | h1
        · exact call_tuple_of pins s σ H _ us Q I r0 ⟨_, _, rfl, .inl ⟨by rw [wa.K]; exact h1, fun l hl => k.tup r h2 hl⟩⟩
        · exact call_tuple_of pins s σ H _ us Q I r0 ⟨_, _, rfl, .inr ⟨by rw [wa.K]; exact h1, k.here r (.tup h1 h2)⟩⟩
      | _ => cases e1
  | [], _, e => cases e
  | _ :: _ :: _, _, e => cases e
theorem repr_any {prog : Program} {w : World} {A : Around} {E : Value → Shared → Prop} {s : Shared} {v : Value} {d : PyData} {bs : List Addr} {Q : Value → Shared → Prop} (hR : Reads s.heap v d bs) (hs : d.showable = true) (hn : d.hasDict = false) (hg : A.guards = some [])
    (hu : A.units + 66 < cLine) (hd : d.depth ≤ 64) (hz : d.shown.length ≤ sizeLine)
    (h : ∀ h' t tk, (∀ b o, s.heap.get? b = some o → h'.get? b = some o) → Q (.str d.shown t) { s with heap := h', toks := tk }) : wpAny (model prog w) A (call (.builtin "repr") [v]) Q E s := by
  cases hR with
  | none => exact P.repr_of_none (h _ _ _ fun _ _ e => e)
  | bool b => exact P.repr_of_bool (h _ _ _ fun _ _ e => e)
  | int i t => exact P.repr_of_int (of_decide_eq_true hs) (h _ _ _ fun _ _ e => e)
  | str x t => exact P.repr_of_str (h _ _ _ fun _ _ e => e) hz
  | list h1 h2 h3 h4 => exact repr_of_reads' (.list h1 h2 h3 h4) hs (PyData.noDict_hsm hn) hg (by omega) (fun _ _ e => e) (fun h' u tk hk => h h' u tk hk) hz
  | tuple h1 h2 h3 h4 => exact repr_of_reads' (.tuple h1 h2 h3 h4) hs (PyData.noDict_hsm hn) hg (by omega) (fun _ _ e => e) (fun h' u tk hk => h h' u tk hk) hz
  | dict _ _ _ _ _ => cases hn
theorem call_repr_ok (wa : At W X) (hu : X.A.units + 80 < cLine) (hg : X.A.guards = some []) : CallR X (.builtin "repr") (lX W (bcall .repr)) := by
  intro pins s σ H xs us Q I r0 h
  obtain ⟨φ, M, as, v, M', r, ra, e, k⟩ := h
  match as, ra, e with
  | [x], ra, e =>
    obtain ⟨u, rfl, ru⟩ := RVs.one (vs := []) ra
    have e : (match datM M x with | some d => chk (shownOk d) (Res.ok (Val.str d.shown) M) | none => .stuck) = .ok v M' := e
    cases e1 : datM M x with
    | none => rw [e1] at e; cases e
    | some d =>
      rw [e1] at e
      obtain ⟨c, e⟩ := chk_ok e
      cases e
      unfold shownOk at c
      simp only [Bool.and_eq_true, decide_eq_true_eq] at c
      obtain ⟨⟨c1, c2⟩, c3⟩ := c
      have hd := SeqAt.depth_of_shaped c3
      have hz : d.shown.length ≤ sizeLine := by omega
      cases r0 with
      | cons q0 q1 =>
        rename_i x0 xs0
        cases q1
        obtain ⟨bs, hR⟩ := ReadsOf wa I r ru e1 q0
        have hn : d.hasDict = false := PyData.hasDict_of_canLay d (SeqAt.canLay_of_shaped c3)
        refine repr_any hR c1 hn hg (by omega) hd hz fun h' t tk hk => ⟨.str _, H, I.kept hk, ⟨_, rfl⟩, k.here r (.str _)⟩
  | [], _, e => cases e
  | _ :: _ :: _, _, e => cases e
theorem isTy_kit {K : PySem.W.Frag} {a t : String} {b : Bool} (ha : a ∈ ["NoneType", "bool", "int", "str", "tuple", "list", "dict"]) (h : isTy a t = some b) : PySem.W.kitOne K (.type a) (.type t) = some b := by
  have ht : t ∈ ["int", "bool", "str", "tuple", "list", "dict"] := by
    unfold isTy at h
    split at h
    · simp_all
    · split at h
      · simp_all
      · split at h
        · simp_all
        · split at h
          · simp_all
          · split at h
            · simp_all
            · split at h
              · simp_all
              · cases h
  refine kit_ty ?_
  have key : ∀ a ∈ ["NoneType", "bool", "int", "str", "tuple", "list", "dict"], ∀ t ∈ ["int", "bool", "str", "tuple", "list", "dict"], kitB a t = isTy a t := by decide +kernel
  rw [key a ha t ht, h]
theorem call_isi_ok (wa : At W X) : CallR X (.builtin "isinstance") (lX W (bcall .isinstance)) := by
  intro pins s σ H xs us Q I r0 h
  obtain ⟨φ, M, as, v, M', r, ra, e, k⟩ := h
  match as, ra, e with
  | [x, y], ra, e =>
    obtain ⟨u, z, rfl, ru, rz⟩ := RVs.two ra
    cases rz with
    | ty t =>
      have e : ofO ((isA M x t).map .bl) M = .ok v M' := e
      obtain ⟨e2, rfl⟩ := ofO_ok e
      cases e3 : isA M x t with
      | none => rw [e3] at e2; cases e2
      | some b =>
        rw [e3] at e2
        cases e2
        unfold isA at e3
        cases e4 : tyName M x with
        | none => rw [e4] at e3; cases e3
        | some a =>
          rw [e4] at e3
          have e3 : isTy a t = some b := e3
          cases r0 with
          | cons q0 q1 =>
            cases q1 with
            | cons p0 p1 =>
              cases p1
              cases p0
              have fin : ∀ {P : Heap → Prop} {w0 : Value}, RelV u w0 → PySem.W.KitX X.K w0 (.type a) P → P s.heap → w0 ≠ .builtin "__main__.__loader__#opaque" → a ∈ ["NoneType", "bool", "int", "str", "tuple", "list", "dict"] →
                  wpAny (model X.prog X.w) X.A (call (.builtin "isinstance") [w0, .type t]) (EP X pins σ Q) X.xe s := fun {P w0} _ Z p hx ha =>
                PySem.W.kia_one Z I.kIn p (isTy_kit ha e3) hx fun tk => ⟨.bl b, H, I.tok tk, rfl, k.here r (.bl _)⟩
              cases ru with
              | non => cases q0; cases e4; exact fin (show RelV .non Value.none from rfl) PySem.W.kitx_none trivial (fun z => nomatch z) (by decide)
              | bl b => cases q0; cases e4; exact fin rfl PySem.W.kitx_bool trivial (fun z => nomatch z) (by decide)
              | int i => obtain ⟨t0, rfl⟩ := q0; cases e4; exact fin ⟨_, rfl⟩ PySem.W.kitx_int trivial (fun z => nomatch z) (by decide)
              | str i => obtain ⟨t0, rfl⟩ := q0; cases e4; exact fin ⟨_, rfl⟩ PySem.W.kitx_str trivial (fun z => nomatch z) (by decide)
              | tup h1 h2 =>
                cases q0; cases e4
                obtain ⟨its, rv, ⟨o, g1, g2, _⟩, _⟩ := I.tuple (by rw [wa.K]; exact h1)
                exact fin rfl PySem.W.kitx_tuple ⟨o, g1, g2⟩ (fun z => nomatch z) (by decide)
              | @ref m ad ha =>
                cases q0
                cases em : M[m]? with
                | none => simp [tyName, em] at e4
                | some o =>
                  cases o with
                  | lst ws =>
                    obtain ⟨ys, h1, h2⟩ := r.seqL (.inl em) ha
                    have e4 : "list" = a := by simpa [tyName, em] using e4
                    subst e4
                    obtain ⟨its, rv, pl, _⟩ := I.list (by rw [wa.K]; exact h1)
                    exact fin rfl PySem.W.kitx_list pl.isList.typeIs (fun z => nomatch z) (by decide)
                  | rol ws =>
                    obtain ⟨ys, h1, h2⟩ := r.seqL (.inr em) ha
                    have e4 : "list" = a := by simpa [tyName, em] using e4
                    subst e4
                    obtain ⟨its, rv, pl, _⟩ := I.list (by rw [wa.K]; exact h1)
                    exact fin rfl PySem.W.kitx_list pl.isList.typeIs (fun z => nomatch z) (by decide)
                  | dct kvs =>
                    have e4 : "dict" = a := by simpa [tyName, em] using e4
                    subst e4
                    exact fin rfl PySem.W.kitx_dict (dct_type wa I (r.obj m _ ad em ha)) (fun z => nomatch z) (by decide)
                  | ins C fs => simp [tyName, em] at e4
              | _ => cases e4
    | _ => cases e
  | [], _, e => cases e
  | [_], _, e => cases e
  | _ :: _ :: _ :: _, _, e => cases e
end
end Mn
end -- Sd11
section -- Sd12
set_option linter.all false
set_option autoImplicit false
set_option maxRecDepth 100000
namespace Mn
section
open PySem PySem.Spec PyProof.Rows L2
section
variable {X : Cx}
theorem ext_tup (l : Addr) (u : Array Value) (n : Nat) (b : Addr) (w : Array Value) (m : Nat) (dd : Option Addr) (sl : Array (Option Value)) (h0 : ¬(!u.isEmpty && Builtin.List.listTooLong (u.size + w.size)) = true) (h1 : u.size ≤ sizeLine) (h2 : u.size + w.size ≤ sizeLine + 1) :
    Meets (Builtin.«list.extend» ⟨[.ref l, .ref b], []⟩) (fun _ R s => s.heap.get? l = some { cls := .type "list", dict := none, data := .seq u n, slots := #[] } ∧ s.heap.get? b = some { cls := .type "tuple", dict := dd, data := .seq w m, slots := sl } ∧
      R (.ok (.ret Value.none)) { s with heap := s.heap.update l (Obj.mapSeq fun x => x ++ w), toks := s.toks }) :=
  .of_wp fun prog ww A R s h => by
    obtain ⟨hp, g, d, tk, os⟩ := s
    obtain ⟨hl, hb, h⟩ := h
    have f1 := AutoSeq1.idx_int; have f2 := AutoSeq1.sub_tuple_tuple; have f3 := AutoSeq1.sub_list_list; have f4 := AutoSeq1.sub_tuple_list; have f5 := AutoSeq1.sub_list_tuple
    have h3 : (u ++ w).size ≤ sizeLine + 1 := by rw [Array.size_append]; exact h2
    wp_walk using (wpAny_updateSeq hl rfl (hz := h1) (_hz' := h3)), wpAny_loadPart' hl, wpAny_loadPart' hb
    exact ⟨_, rfl, h⟩
/-- xs.extend(a tuple) -/
def rExtT (K : PySem.W.Frag) : V → List V → Hp → VK → Prop := fun x vs H Q => ∃ l b xs zs, x = .ref l ∧ vs = [.ref b] ∧ H l = some (.lst xs) ∧ SqT K H b zs ∧ xs.length + zs.length ≤ sizeLine ∧ Q .non (upd H l (.lst (xs ++ zs)))
theorem mt_extT : MtM X "list.extend" (rExtT X.K) := by
  intro pins s σ H x vs v us Q I rx rv h
  obtain ⟨l, b, xs, zs, rfl, rfl, hH, hB, hz, q⟩ := h
  cases rx
  obtain ⟨u, rfl, ru⟩ := rv.one
  cases ru
  obtain ⟨z, its, n, r, hl, e⟩ := I.lstM hH
  obtain ⟨its2, r2, ⟨⟨cls, dd, data, sl⟩, e2, hc, n2, hd⟩, hz2⟩ := I.tuple hB
  simp only at hc hd
  subst hc hd
  have hl2 := r2.length
  have hsz : its.toArray.size + its2.toArray.size ≤ sizeLine := by rw [List.size_toArray, List.size_toArray]; omega
  have hlong : ¬ (!its.toArray.isEmpty && Builtin.List.listTooLong (its.toArray.size + its2.toArray.size)) = true := by
    rw [notLongL hsz, Bool.and_false]
    decide
  refine call_meets F.slot_list_extend ⟨_, e, rfl⟩ F.entry_list_extend (F.args_list_extend_2 _ _) (ext_tup l its.toArray n b its2.toArray n2 dd sl hlong (by rw [List.size_toArray]; omega) (by omega)) ⟨e, e2, ?_⟩
  refine ⟨.non, _, I.lset (its' := its ++ its2) hH e (by simp) (r.append r2) ?_, rfl, q⟩
  rw [List.length_append]
  omega
end
end
open PySem L2
section
variable {X : Cx} {W : Wo}
theorem ownL_ok {φ : List Addr} {M : Mem} {H : Hp} (r : RM W φ M H) {x : Val} {u : V} {p : Nat × List Val} (h : ownL M x = some p) (rx : RV W φ H x u) : ∃ a, u = .ref a ∧ x = .ref p.1 ∧ M[p.1]? = some (.lst p.2) ∧ φ[p.1]? = some a := by
  cases rx with
  | @ref n a ha =>
    cases e : M[n]? with
    | none => simp [ownL, e] at h
    | some o =>
      cases o with
      | lst vs => have h : (n, vs) = p := by simpa [ownL, e] using h
                  subst h; exact ⟨a, rfl, rfl, e, ha⟩
      | _ => simp [ownL, e] at h
  | _ => cases h
theorem ownD_ok {φ : List Addr} {M : Mem} {H : Hp} (r : RM W φ M H) {x : Val} {u : V} {p : Nat × List (Val × Val)} (h : ownD M x = some p) (rx : RV W φ H x u) : ∃ a, u = .ref a ∧ x = .ref p.1 ∧ M[p.1]? = some (.dct p.2) ∧ φ[p.1]? = some a := by
  cases rx with
  | @ref n a ha =>
    cases e : M[n]? with
    | none => simp [ownD, e] at h
    | some o =>
      cases o with
      | dct vs => have h : (n, vs) = p := by simpa [ownD, e] using h
                  subst h; exact ⟨a, rfl, rfl, e, ha⟩
      | _ => simp [ownD, e] at h
  | _ => cases h
/-- a tracked list changes -/
theorem Kont.setL {φ : List Addr} {M : Mem} {H : Hp} {n : Nat} {a : Addr} {vs ws : List Val} {xs : List V} {v : Val} {u : V} {Q : VK} (k : Kont W φ H v (M.set n (.lst ws)) Q) (r : RM W φ M H) (hn : M[n]? = some (.lst vs)) (ha : φ[n]? = some a) (h : RVs W φ H ws xs) (rv : RV W φ H v u) : Q u (upd H a (.lst xs)) := by
  have mu : Mut (H a) := (r.obj n _ a hn ha).mut rfl
  have ex : Ext W φ H φ (upd H a (.lst xs)) := Ext.upd (.inr ⟨mu, n, (r.own n _ hn).mp rfl, ha⟩)
  exact k φ _ u ex (r.set hn rfl ha rfl ⟨xs, upd_same, h.mono ex⟩) (rv.mono ex)
theorem Kont.setD {φ : List Addr} {M : Mem} {H : Hp} {n : Nat} {a : Addr} {kvs ws : List (Val × Val)} {ho : HO} {v : Val} {u : V} {Q : VK} (k : Kont W φ H v (M.set n (.dct ws)) Q) (r : RM W φ M H) (hn : M[n]? = some (.dct kvs)) (ha : φ[n]? = some a) (h : RO W φ (upd H a ho) a (.dct ws)) (rv : RV W φ H v u) : Q u (upd H a ho) := by
  have mu : Mut (H a) := (r.obj n _ a hn ha).mut rfl
  have ex : Ext W φ H φ (upd H a ho) := Ext.upd (.inr ⟨mu, n, (r.own n _ hn).mp rfl, ha⟩)
  exact k φ _ u ex (r.set hn rfl ha rfl h) (rv.mono ex)
theorem mt_append_ok (wa : At W X) : MtR X "list.append" (lM W (bmeth .append)) := by
  intro pins s σ H x xs v us Q I rx rxs h
  obtain ⟨φ, M, a, as, v', M', r, ra, ras, e, k⟩ := h
  replace e : (match ownL M a with | some p => mList .append p.1 p.2 as M | none => .stuck) = .ok v' M' := e
  cases e1 : ownL M a with
  | none => rw [e1] at e; cases e
  | some p =>
    rw [e1] at e
    dsimp only at e
    obtain ⟨n, vs⟩ := p
    obtain ⟨ad, rfl, rfl, hm, ha⟩ := ownL_ok r e1 ra
    dsimp only at e hm ha
    obtain ⟨ys, h1, h2⟩ := r.lst hm ha
    match as, ras, e with
    | [y], ras, e =>
      obtain ⟨u, rfl, ru⟩ := RVs.one (vs := []) ras
      obtain ⟨c, e⟩ := chk_ok e
      cases e
      exact mt_append pins s σ H _ _ v us Q I rx rxs ⟨ad, ys, u, rfl, rfl, h1, by rw [← h2.length]; exact of_decide_eq_true c, k.setL r hm ha (h2.append (.cons ru .nil)) .non⟩
    | [], _, e => cases e
    | _ :: _ :: _, _, e => cases e
theorem mt_extend_ok (wa : At W X) : MtR X "list.extend" (lM W (bmeth .extend)) := by
  intro pins s σ H x xs v us Q I rx rxs h
  obtain ⟨φ, M, a, as, v', M', r, ra, ras, e, k⟩ := h
  replace e : (match ownL M a with | some p => mList .extend p.1 p.2 as M | none => .stuck) = .ok v' M' := e
  cases e1 : ownL M a with
  | none => rw [e1] at e; cases e
  | some p =>
    rw [e1] at e
    dsimp only at e
    obtain ⟨n, vs⟩ := p
    obtain ⟨ad, rfl, rfl, hm, ha⟩ := ownL_ok r e1 ra
    dsimp only at e hm ha
    obtain ⟨ys, h1, h2⟩ := r.lst hm ha
    match as, ras, e with
    | [y], ras, e =>
      obtain ⟨u, rfl, ru⟩ := RVs.one (vs := []) ras
      simp only [mList] at e
      cases e2 : ownL M y with
      | some q =>
        rw [e2] at e
        obtain ⟨n2, ws⟩ := q
        obtain ⟨ad2, rfl, rfl, hm2, ha2⟩ := ownL_ok r e2 ru
        obtain ⟨zs, h3, h4⟩ := r.lst hm2 ha2
        obtain ⟨c, e⟩ := chk_ok e
        cases e
        exact mt_extend pins s σ H _ _ v us Q I rx rxs ⟨ad, ad2, ys, zs, rfl, rfl, h1, h3, by rw [← h2.length, ← h4.length]; exact of_decide_eq_true c, k.setL r hm ha (h2.append h4) .non⟩
      | none =>
        rw [e2] at e
        cases ru with
        | tup hT h4 =>
          obtain ⟨c, e⟩ := chk_ok e
          cases e
          exact mt_extT pins s σ H _ _ v us Q I rx rxs ⟨ad, _, ys, _, rfl, rfl, h1, by rw [wa.K]; exact hT, by rw [← h2.length, ← h4.length]; exact of_decide_eq_true c, k.setL r hm ha (h2.append h4) .non⟩
        | _ => cases e
    | [], _, e => cases e
    | _ :: _ :: _, _, e => cases e
theorem mt_pop_ok (wa : At W X) : MtR X "list.pop" (lM W (bmeth .pop)) := by
  intro pins s σ H x xs v us Q I rx rxs h
  obtain ⟨φ, M, a, as, v', M', r, ra, ras, e, k⟩ := h
  replace e : (match ownL M a with | some p => mList .pop p.1 p.2 as M | none => .stuck) = .ok v' M' := e
  cases e1 : ownL M a with
  | none => rw [e1] at e; cases e
  | some p =>
    rw [e1] at e
    dsimp only at e
    obtain ⟨n, vs⟩ := p
    obtain ⟨ad, rfl, rfl, hm, ha⟩ := ownL_ok r e1 ra
    dsimp only at e hm ha
    obtain ⟨ys, h1, h2⟩ := r.lst hm ha
    match as, ras, e with
    | [], ras, e =>
      cases ras
      replace e : (match vs[vs.length - 1]? with | some v => setO n (.lst vs.dropLast) v M | none => .stuck) = .ok v' M' := e
      cases e2 : vs[vs.length - 1]? with
      | none => rw [e2] at e; cases e
      | some w =>
        rw [e2] at e
        cases e
        obtain ⟨z, hz, rz⟩ := h2.get e2
        exact mt_pop pins s σ H _ _ v us Q I rx rxs ⟨ad, ys, z, rfl, rfl, h1, by rw [← h2.length]; exact hz, k.setL r hm ha h2.dropLast rz⟩
    | [y], ras, e =>
      obtain ⟨u, rfl, ru⟩ := RVs.one (vs := []) ras
      cases ru with
      | int j =>
        replace e : (match ixOf j vs.length with | some m => (match vs[m]? with | some v => setO n (.lst (vs.eraseIdx m)) v M | none => .stuck) | none => .stuck) = .ok v' M' := e
        cases e2 : ixOf j vs.length with
        | none => rw [e2] at e; cases e
        | some m =>
          rw [e2] at e
          dsimp only at e
          cases e3 : vs[m]? with
          | none => rw [e3] at e; cases e
          | some w =>
            rw [e3] at e
            cases e
            obtain ⟨z, hz, rz⟩ := h2.get e3
            have hl := (I.lstM h1).1
            have hs := sizeLine_eq
            obtain ⟨q1, q2, q3, q4⟩ := ixN_seq (n := vs.length) (i := j) (j := m) e2
            have hl' := h2.length
            exact mt_popAt pins s σ H _ _ v us Q I rx rxs ⟨ad, ys, j, m, z, rfl, rfl, h1, by omega, by omega, by rw [← h2.length]; exact q1, hz, k.setL r hm ha (h2.eraseIdx m) rz⟩
      | _ => cases e
    | _ :: _ :: _, _, e => cases e
theorem mt_insert_ok (wa : At W X) : MtR X "list.insert" (lM W (bmeth .insert)) := by
  intro pins s σ H x xs v us Q I rx rxs h
  obtain ⟨φ, M, a, as, v', M', r, ra, ras, e, k⟩ := h
  replace e : (match ownL M a with | some p => mList .insert p.1 p.2 as M | none => .stuck) = .ok v' M' := e
  cases e1 : ownL M a with
  | none => rw [e1] at e; cases e
  | some p =>
    rw [e1] at e
    dsimp only at e
    obtain ⟨n, vs⟩ := p
    obtain ⟨ad, rfl, rfl, hm, ha⟩ := ownL_ok r e1 ra
    dsimp only at e hm ha
    obtain ⟨ys, h1, h2⟩ := r.lst hm ha
    match as, ras, e with
    | [y, w], ras, e =>
      obtain ⟨u, z, rfl, ru, rz⟩ := RVs.two ras
      cases ru with
      | int j =>
        obtain ⟨c, e⟩ := chk_ok e
        cases e
        simp only [Bool.and_eq_true, decide_eq_true_eq] at c
        obtain ⟨c1, c2⟩ := c
        subst c1
        refine mt_insert pins s σ H _ _ v us Q I rx rxs ⟨ad, ys, 0, z, rfl, rfl, h1, by rw [← h2.length]; exact c2, by omega, by omega, ?_⟩
        have e2 : ys.take (0 : Int).toNat ++ [z] ++ ys.drop (0 : Int).toNat = z :: ys := by simp
        rw [e2]
        exact k.setL r hm ha (.cons rz h2) .non
      | _ => cases e
    | [], _, e => cases e
    | [_], _, e => cases e
    | _ :: _ :: _ :: _, _, e => cases e
theorem mt_count_ok (wa : At W X) : MtR X "list.count" (lM W (bmeth .count)) := by
  intro pins s σ H x xs v us Q I rx rxs h
  obtain ⟨φ, M, a, as, v', M', r, ra, ras, e, k⟩ := h
  replace e : (match lstOf M a with | some vs => mRead .count vs as M | none => .stuck) = .ok v' M' := e
  cases e1 : lstOf M a with
  | none => rw [e1] at e; cases e
  | some vs =>
    rw [e1] at e
    dsimp only at e
    obtain ⟨ad, ys, rfl, h1, h2⟩ := r.lstOf e1 ra
    match as, ras, e with
    | [y], ras, e =>
      obtain ⟨u, rfl, ru⟩ := RVs.one (vs := []) ras
      replace e : (match intsOf vs, y with | some is, .int i => Res.ok (Val.int (is.count i)) M | _, _ => .stuck) = .ok v' M' := e
      split at e
      · rename_i is i e2
        cases e
        cases ru
        have z := ints_map e2 h2
        subst z
        exact mt_lcount pins s σ H _ _ v us Q I rx rxs ⟨ad, is, i, rfl, rfl, by rw [wa.K]; exact h1, k.here r (.int _)⟩
      · cases e
    | [], _, e => cases e
    | _ :: _ :: _, _, e => cases e
theorem mt_get_ok (wa : At W X) (hu : X.A.units + 64 < cLine) : MtR X "dict.get" (lM W (bmeth .get)) := by
  intro pins s σ H x xs v us Q I rx rxs h
  obtain ⟨φ, M, a, as, v', M', r, ra, ras, e, k⟩ := h
  replace e : (match ownD M a with | some p => mDict .get p.1 p.2 as M | none => .stuck) = .ok v' M' := e
  cases e1 : ownD M a with
  | none => rw [e1] at e; cases e
  | some p =>
    rw [e1] at e
    dsimp only at e
    obtain ⟨n, kvs⟩ := p
    obtain ⟨ad, rfl, rfl, hm, ha⟩ := ownD_ok r e1 ra
    dsimp only at e hm ha
    match as, ras, e with
    | [y, w], ras, e =>
      obtain ⟨u, z, rfl, ru, rz⟩ := RVs.two ras
      obtain ⟨c, e⟩ := chk_ok e
      cases e
      cases rx
      cases rxs with
      | cons p1 p2 =>
        cases p2 with
        | cons p2 p3 =>
          cases p3
          exact dct_get2 wa hu I (r.obj _ _ ad hm ha) c ru p1 rz p2 fun zz w' s' I' rz' rw' => ⟨zz, H, I', rw', k.here r rz'⟩
    | [], _, e => cases e
    | [_], _, e => cases e
    | _ :: _ :: _ :: _, _, e => cases e
theorem mt_setd_ok (wa : At W X) (hu : X.A.units + 64 < cLine) : MtR X "dict.setdefault" (lM W (bmeth .setdefault)) := by
  intro pins s σ H x xs v us Q I rx rxs h
  obtain ⟨φ, M, a, as, v', M', r, ra, ras, e, k⟩ := h
  replace e : (match ownD M a with | some p => mDict .setdefault p.1 p.2 as M | none => .stuck) = .ok v' M' := e
  cases e1 : ownD M a with
  | none => rw [e1] at e; cases e
  | some p =>
    rw [e1] at e
    dsimp only at e
    obtain ⟨n, kvs⟩ := p
    obtain ⟨ad, rfl, rfl, hm, ha⟩ := ownD_ok r e1 ra
    dsimp only at e hm ha
    match as, ras, e with
    | [y, w], ras, e =>
      obtain ⟨u, z, rfl, ru, rz⟩ := RVs.two ras
      obtain ⟨c, e⟩ := chk_ok e
      rw [Bool.and_eq_true] at c
      cases rx
      cases rxs with
      | cons p1 p2 =>
        cases p2 with
        | cons p2 p3 =>
          cases p3
          refine dct_setd wa hu I (r.obj _ _ ad hm ha) c.1 ru p1 rz p2 (of_decide_eq_true c.2) (fun v1 zz w' s' hv I' rz' rw' => ?_) fun hn ho s' w' I' ro rw' => ?_
          · rw [hv] at e
            cases e
            exact ⟨zz, H, I', rw', k.here r rz'⟩
          · rw [hn] at e
            cases e
            exact ⟨z, _, I', rw', k.setD r hm ha ro rz⟩
    | [], _, e => cases e
    | [_], _, e => cases e
    | _ :: _ :: _ :: _, _, e => cases e
end
end Mn
end -- Sd12
section -- Sd13
set_option linter.all false
set_option autoImplicit false
set_option maxRecDepth 100000
namespace Mn
open PySem L2
section
variable {X : Cx} {W : Wo}
theorem op_mul_ok (wa : At W X) : OpR X (binaryOp .Mult) (l2 W (binop .Mult)) := by
  intro pins s σ H x y v u Q I rx ry h
  obtain ⟨φ, M, a, b, v', M', r, ra, rb, e, k⟩ := h
  cases rb with
  | int j =>
    cases ra with
    | int i =>
      obtain ⟨c, e⟩ := chk_ok e
      cases e
      exact op_mul pins s σ H _ _ v u Q I rx ry ⟨i, j, rfl, rfl, (show (-(2 ^ 64) < i ∧ i < 2 ^ 64) ∨ (-(2 ^ 64) < j ∧ j < 2 ^ 64) from of_decide_eq_true c), k.here r (.int _)⟩
    | ref ha =>
      dsimp only [binop] at e
      split at e
      · rename_i xs ea
        obtain ⟨c, e⟩ := chk_ok e
        obtain ⟨c1, c2, c3⟩ := of_decide_eq_true c
        cases e
        obtain ⟨us, h1, h2⟩ := r.lst ea ha
        exact op_rep pins s σ H _ _ v u Q I rx ry ⟨_, j, us, rfl, rfl, h1, c1, c2, by rw [← h2.length]; exact c3, fun p hp => k.new r hp rfl ⟨_, upd_same, (h2.rep _).mono (Ext.new hp)⟩⟩
      · cases e
    | tup h1 h2 =>
      obtain ⟨c, e⟩ := chk_ok e
      obtain ⟨c0, c1, c2, c3⟩ := of_decide_eq_true c
      cases e
      refine op_repT pins s σ H _ _ v u Q I rx ry ⟨_, j, _, rfl, rfl, by rw [wa.K]; exact h1, fun z => ?_, c1, c2, by rw [← h2.length]; exact c3, fun p hp => k.tup r (h2.rep _) hp⟩
      subst z
      cases h2
      exact c0 rfl
    | _ => cases e
  | non => cases ra <;> cases e
  | bl _ => cases ra <;> cases e
  | str _ => cases ra <;> cases e
  | ty _ => cases ra <;> cases e
  | ref _ => cases ra <;> cases e
  | glo _ => cases ra <;> cases e
  | tup _ _ => cases ra <;> cases e
theorem op_bin_ok (wa : At W X) (op : Operator) : OpR X (binaryOp op) (l2 W (binop op)) := by
  have stuck : (∀ x y M, binop op x y M = .stuck) → OpR X (binaryOp op) (l2 W (binop op)) := fun hs => by
    intro pins s σ H x y v u Q I rx ry h
    obtain ⟨φ, M, a, b, v', M', r, ra, rb, e, k⟩ := h
    rw [hs] at e
    cases e
  cases op with
  | Add => exact op_add_ok wa
  | Sub => exact op_sub_ok
  | Mult => exact op_mul_ok wa
  | FloorDiv => exact op_fdiv_ok
  | Mod => exact op_mod_ok
  | Pow => exact op_pow_ok
  | _ => exact stuck fun x y M => by cases x <;> cases y <;> rfl
/-- in, not in -/
theorem cin_run (wa : At W X) (hu : X.A.units + 65 < cLine) (neg : Bool) : OpR X (compareOp (if neg then .NotIn else .In)) (l2 W (cmpV (if neg then .NotIn else .In))) := by
  intro pins s σ H x y v u Q I rx ry h
  obtain ⟨φ, M, a, b, v', M', r, ra, rb, e, k⟩ := h
  obtain ⟨c, e0, rfl, rfl⟩ := cmpV_ok e
  clear e
  obtain ⟨d, e, rfl⟩ : ∃ d, cin a b M = some d ∧ c = (if neg then !d else d) := by
    cases neg with
    | false => exact ⟨c, e0, rfl⟩
    | true =>
      have e : (cin a b M).map (!·) = some c := e0
      cases z : cin a b M with
      | none => rw [z] at e; cases e
      | some d => rw [z] at e; cases e; exact ⟨d, rfl, rfl⟩
  have fin : Q (.bl (if neg then !d else d)) H := k.here r (.bl _)
  cases rb with
  | tup h1 h2 => exact vin_run wa hu neg I r ra rfl (.tup h1 h2) rx ry e fin
  | str t =>
    cases ra with
    | str z =>
      have e : d = _ := (Option.some.inj e).symm
      cases neg with
      | false => exact op_in_str pins s σ H _ _ v u Q I rx ry ⟨z, t, rfl, rfl, by rw [← e]; exact fin⟩
      | true => exact op_notin_str pins s σ H _ _ v u Q I rx ry ⟨z, t, rfl, rfl, by rw [← e]; exact fin⟩
    | _ => cases e
  | @ref n p hp =>
    cases em : M[n]? with
    | none => simp [cin, em] at e
    | some o =>
      cases o with
      | lst ys => exact vin_run (b := .ref n) (ys := ys) wa hu neg I r ra (by simp [seqOf, em]) (.ref hp) rx ry (by simpa [cin, em] using e) fin
      | rol ys => exact vin_run (b := .ref n) (ys := ys) wa hu neg I r ra (by simp [seqOf, em]) (.ref hp) rx ry (by simpa [cin, em] using e) fin
      | dct kvs =>
        have e : (if fits kvs a then some (dget kvs a).isSome else none) = some d := by simpa [cin, em] using e
        split at e
        · rename_i f
          cases e
          cases ry
          exact dct_in wa (by omega) neg I (r.obj n _ p em hp) f ra rx fun s' I' => ⟨.bl _, H, I', rfl, fin⟩
        · cases e
      | ins C fs => simp [cin, em] at e
  | non => cases e
  | bl _ => cases e
  | int _ => cases e
  | ty _ => cases e
  | glo _ => cases e
theorem op_cmp_ok (wa : At W X) (hu : X.A.units + 80 < cLine) (op : CmpOp) : OpR X (compareOp op) (l2 W (cmpV op)) := by
  cases op with
  | Eq => exact op_Eq_ok wa (by omega)
  | NotEq => exact op_NotEq_ok wa (by omega)
  | Lt => exact op_Lt_ok wa (by omega)
  | LtE => exact op_LtE_ok
  | Gt => exact op_Gt_ok
  | GtE => exact op_GtE_ok
  | Is => exact op_Is_ok
  | IsNot => exact op_IsNot_ok
  | In => exact cin_run wa (by omega) false
  | NotIn => exact cin_run wa (by omega) true
end
end Mn
end -- Sd13
section -- Sd14
set_option linter.all false
set_option autoImplicit false
set_option maxRecDepth 100000
namespace Mn
open PySem PyProof PyProof.Rows L2
/-! ### enumerate of a tuple -/
def Iet (K : PySem.W.Frag) (a : Addr) : It where
  go i H := ∃ (xs : List V) (x : V), SqT K H a xs ∧ xs[i]? = some x
  yld i H v H' := ∃ p x, v = .ref p ∧ H p = none ∧ H' = upd H p (.tup [.int (i : Nat), x]) ∧ ∀ xs, SqT K H a xs → xs[i]? = some x
  stop i H := ∃ xs : List V, SqT K H a xs ∧ xs.length = i
theorem apart_seq {h : Heap} {a b : Addr} {its : Array Value} {o : PySem.Obj} {fs : Array Value} (t : IsTup h a its) (e : h.get? b = some o) (d : o.data = .fields fs) : a ≠ b := fun z => by
  obtain ⟨q, e1, _, n, e2⟩ := t
  rw [z, e] at e1
  cases e1
  rw [d] at e2
  cases e2
theorem turn_et {P : Program} {w : World} {K : PySem.W.Frag} {elts : List Expr} {kk : Nat} {tpos : Pos} (a e it : Addr) :
    Turn P w K (.Tuple elts kk tpos) (Iet K a) [e, it] e (fun i h => (∃ old, IsEnum h e it ((i : Nat) : Int) old) ∧ h.IsTupleIter it a i ∧ e ≠ it) := by
  refine ⟨List.mem_cons_self, fun i h st b hb => ?_, fun i h h' st k => ?_, ?_, ?_, ?_⟩
  · obtain ⟨⟨old, he⟩, ⟨o, ho, hc, hd⟩, _⟩ := st
    rcases List.mem_cons.mp hb with rfl | hb
    · exact ⟨_, he, fun v q => nomatch q⟩
    · rw [List.mem_singleton.mp hb]
      exact ⟨o, ho, fun v q => by rw [hd] at q; cases q⟩
  · obtain ⟨⟨old, he⟩, hi, ne⟩ := st
    exact ⟨⟨old, k e (by simp) _ he⟩, hi.at fun o q => k it (by simp) o q, ne⟩
  · intro X hP hw hK hc i pins s σ H E I hf st hg
    subst hP hw hK
    obtain ⟨⟨old, he⟩, hit, ne⟩ := st
    obtain ⟨xs, x, hq, hx⟩ := hg
    obtain ⟨its, rv, p, hz⟩ := I.tuple hq
    obtain ⟨u, hu, ru⟩ := rv.get hx
    have hl := rv.length
    have hi : i < its.length := by rw [← hl]; exact (List.getElem?_eq_some_iff.mp hx).1
    have na : a ≠ it := by obtain ⟨o, e1, _, e2⟩ := id hit; exact apart_seq p e1 e2
    have nb : a ≠ e := apart_seq p he rfl
    have D := Draws.tuple (prog := X.prog) (w := X.w) (A := X.A.in1) (I.ok.hd hc) it a na its.toArray
    have hel : e < s.heap.objs.size := Heap.lt_size he
    have hil : it < s.heap.objs.size := by obtain ⟨_, q, _⟩ := id hit; exact Heap.lt_size q
    refine wpAny_pyNext_enum_itemD D he ⟨hit, p⟩ (by simpa using hi) ne (by simp [ne, Ne.symm nb]) fun z h' tk hz' ho st' hT hsz hk => ?_
    have ez : z = u := by
      have q : its.toArray[i]? = some z := hz'
      rw [List.getElem?_toArray, hu] at q
      exact (Option.some.inj q).symm
    subst ez
    refine ⟨_, rfl, wpAny_letOwnedTupleGo_enum (s := { s with heap := h', toks := tk + 1 }) ho fun h2 he2 sb => ?_⟩
    have hT2 : h2.get? s.heap.objs.size = some { cls := .type "tuple", data := .seq #[.int i tk, z] } := (sb.2 _ (Nat.ne_of_gt hel)).trans hT
    have new : ObjOk X.prog X.w (upd H s.heap.objs.size (.tup [.int (i : Nat), x])) h2 s.heap.objs.size (.tup [.int (i : Nat), x]) :=
      ⟨by show 2 ≤ sizeLine; decide, [.int i tk, z], .cons ⟨_, rfl⟩ (.cons ru .nil), ⟨_, hT2, rfl, _, rfl⟩⟩
    have kk' : ∀ b o, b ∉ [e, it] → s.heap.get? b = some o → h2.get? b = some o := fun b o hb q => by
      simp only [List.mem_cons, List.not_mem_nil, or_false, not_or] at hb
      rw [sb.2 b hb.1]
      exact hk b o hb.1 hb.2 q
    have I1 := I.turnedNew (t' := tk + 1) kk' hf (Nat.le_refl _) new
    refine ⟨.ref s.heap.objs.size, _, I1, rfl, ⟨_, x, rfl, I.hok.fresh (Nat.le_refl _), rfl, fun ys hy => by rw [I.tuple_inj hy hq]; exact hx⟩, ⟨⟨z, ?_⟩, st'.1.at fun o q => by rw [← q]; exact sb.2 it (Ne.symm ne), ne⟩, fun b hb => ?_⟩
    · have e1 : ((i + 1 : Nat) : Int) = (i : Int) + 1 := by omega
      rw [e1]
      exact he2
    · have hlt : b < s.heap.objs.size := by
        rcases List.mem_cons.mp hb with rfl | hb
        · exact hel
        · rw [List.mem_singleton.mp hb]; exact hil
      rw [upd_ne (Nat.ne_of_lt hlt)]
      exact (hf b hb).1
  · intro X hP hw hK hc i pins s σ H E I hf st hg
    subst hP hw hK
    obtain ⟨⟨old, he⟩, hit, ne⟩ := st
    obtain ⟨xs, hq, hx⟩ := hg
    obtain ⟨its, rv, p, hz⟩ := I.tuple hq
    have na : a ≠ it := by obtain ⟨o, e1, _, e2⟩ := id hit; exact apart_seq p e1 e2
    obtain ⟨f0, f1, f2, f3, f4, f5⟩ := hf it (by simp)
    have hl := rv.length
    have D := Draws.tuple (prog := X.prog) (w := X.w) (A := X.A.in1) (I.ok.hd hc) it a na its.toArray
    have ei : i = its.toArray.size := by simp; omega
    refine wpAny_pyNext_enum_endD D he (by rw [← ei]; exact ⟨hit, p⟩) fun h' eb => ⟨rfl, I.turned (t' := s.toks) (fun b o hb q => eb b o hb q) f0 f1 f3 f4 f5⟩
  · intro A i s Q E st h
    obtain ⟨⟨_, he⟩, _⟩ := st
    exact wpAny_pyIter_enum he h
/-- enumerate(v): its new objects, v of any kind that begins a walk -/
theorem meets_enum1 {v : Value} {o : PySem.Obj} {C : Heap → Prop} (B : Begins v o C) :
    Meets (Builtin.«enumerate.__new__» ⟨[.type "enumerate", v], []⟩) (fun _ R s => C s.heap ∧
      R (.ok (.ret (.ref (s.heap.push o).objs.size))) { s with heap := (s.heap.push o).push { cls := .type "enumerate", data := .fields #[.none, .bool false, .ref s.heap.objs.size, rawInt 0, .none, .none] } }) :=
  .of_wp fun prog w A R s h => by
    obtain ⟨hp, g, d, tk, os⟩ := s
    obtain ⟨h1, h⟩ := h
    have sub := sub_enumerate
    have go : ∀ {A' : Around} {E : Value → Shared → Prop} {Q : Value → Shared → Prop}, Q (.ref hp.objs.size) ⟨hp.push o, g, d, tk, os⟩ → wpAny (model prog w) A' (pyIter v) Q E ⟨hp, g, d, tk, os⟩ := fun q => B.iter prog w _ _ ⟨hp, g, d, tk, os⟩ _ h1 q
    wp_walk using go
    refine wpAny_stack_any fun st => wpAny_pure ?_
    split
    · rename_i c _ _ _ _ _
      cases (c == Value.type "enumerate") <;> (wp_walk using go; exact ⟨_, rfl, h⟩)
    · wp_walk using go
      exact ⟨_, rfl, h⟩
theorem call_enum1 {prog : Program} {w : World} {A : Around} {E : Value → Shared → Prop} {s : Shared} {v : Value} {o : PySem.Obj} {C : Heap → Prop} {Q : Value → Shared → Prop} (B : Begins v o C) (h1 : C s.heap)
    (h : ∀ h', IsEnum h' (s.heap.objs.size + 1) s.heap.objs.size 0 .none → h'.get? s.heap.objs.size = some o → (∀ b u, s.heap.get? b = some u → h'.get? b = some u) → Q (.ref (s.heap.objs.size + 1)) { s with heap := h' }) :
    wpAny (model prog w) A (call (.type "enumerate") [v]) Q E s := by
  refine callType_new F.called_enumerate (by decide) (F.typeCall_enumerate_1 _) (F.newCall_enumerate_1 _) (fun obj => F.args_object_init_2 obj _) F.entry_enumerate_new (meets_enum1 B) ⟨h1, ?_⟩
  have hz : (s.heap.push o).objs.size = s.heap.objs.size + 1 := Heap.size_push ..
  show _ ∧ _
  rw [hz]
  have he := Heap.get?_push_size (s.heap.push o) (o := { cls := .type "enumerate", data := .fields #[.none, .bool false, .ref s.heap.objs.size, rawInt 0, .none, .none] }) rfl
  rw [hz] at he
  exact ⟨⟨_, he, rfl⟩, h _ he (Heap.get?_push_of_some _ (Heap.get?_push_size _ B.free)) fun b u q => Heap.get?_push_of_some _ (Heap.get?_push_of_some _ q)⟩
/-- enumerate(xs), a list or a tuple -/
def iEnumA (K : PySem.W.Frag) (ta : TA) : TI := fun σ H R => ta σ H fun vs H1 => ∃ a xs, vs = [.ref a] ∧ ((SqL K H1 a xs ∧ R (Ite K a) H1) ∨ (SqT K H1 a xs ∧ R (Iet K a) H1))
theorem pi_enumA {X : Cx} {e : Expr} {ta : TA} {p pos tpos : Pos} {elts : List Expr} {kk : Nat} (hg : Gl X "enumerate") (hm : X.mg "enumerate" = none) (ha : PA X [e] ta) (hs : starEach [e] X.env = [(false, eval e X.env)]) :
    PI X (.Tuple elts kk tpos) (.Call (.Name "enumerate" p) [e] [] pos) (iEnumA X.K ta) := by
  refine ⟨fun pins s σ H R I h => ?_⟩
  refine Call_ (ld_blt I hg hm boot_enumerate (callWith_type1 (thn (ha.run pos pins s σ H _ I h) fun us s1 ⟨vs, H1, I1, r1, a, xs, ex, q⟩ => ?_) hs rfl))
  subst ex
  cases r1 with
  | cons r rr =>
    cases rr
    cases r
    have fp : ∀ b ∈ [s1.heap.objs.size + 1, s1.heap.objs.size], FpOk X pins H1 b := fun b hb => by
      have hle : s1.heap.objs.size ≤ b := by
        rcases List.mem_cons.mp hb with rfl | hb
        · exact Nat.le_succ _
        · rw [List.mem_singleton.mp hb]; exact Nat.le_refl _
      exact I1.fpOk hle (I1.hok.fresh hle)
    rcases q with ⟨hq, q⟩ | ⟨hq, q⟩
    · obtain ⟨its, rv, p', hz⟩ := I1.list hq
      refine call_enum1 (begins_list a its.toArray) p'.isList fun h' he ho hk => wpAny_pyIter_enum he ?_
      exact ⟨s1.heap.objs.size + 1, _, _, _, H1, rfl, I1.kept (t' := s1.toks) hk, turn_enum a (s1.heap.objs.size + 1) s1.heap.objs.size, ⟨⟨.none, he⟩, ⟨_, ho, rfl, rfl⟩, Nat.succ_ne_self _⟩, fp, q⟩
    · obtain ⟨its, rv, p', hz⟩ := I1.tuple hq
      refine call_enum1 (begins_tuple a its.toArray) p' fun h' he ho hk => wpAny_pyIter_enum he ?_
      exact ⟨s1.heap.objs.size + 1, _, _, _, H1, rfl, I1.kept (t' := s1.toks) hk, turn_et a (s1.heap.objs.size + 1) s1.heap.objs.size, ⟨⟨.none, he⟩, ⟨_, ho, rfl, rfl⟩, Nat.succ_ne_self _⟩, fp, q⟩
end Mn
end -- Sd14
section -- Sd15
set_option linter.all false
set_option autoImplicit false
set_option maxRecDepth 100000
namespace Mn
open PySem L2

/-- a call of a value: f is called with values by place and by name -/
def CallOk (W : Wo) (k : Nat) (f : Value) (n : Nat) (ks : List Str) (g : List Val → List (Str × Val) → Mem → Res Val) : Prop :=
  ∀ (X : Cx), At W X → Room k X.A → X.A.guards = some [] → ∀ (pins : List (Addr × PySem.Obj)) (σ : L2.St) (s : Shared) (H : Hp) (φ : List Addr) (M : Mem) (vs ws : List Val) (xs ys : List V) (us zs : List Value) (v : Val) (M' : Mem) (Q : VK),
    Inv X pins σ H s → RM W φ M H → vs.length = n → ws.length = ks.length → RVs W φ H vs xs → RVs W φ H ws ys → Vals xs us → Vals ys zs → g vs (ks.zip ws) M = .ok v M' → Kont W φ H v M' Q →
    wpAny (model X.prog X.w) X.A (call f us (ks.zip zs)) (EP X pins σ Q) X.xe s
structure Facts (W : Wo) (G : GT) (Γ : Gam) (k : Nat) : Prop where
  blt : ∀ x, G.blt.contains x = true → W.mg x = none
  glb : ∀ x v, Γ.glob x = some v → ∃ u uv, W.mg x = some uv ∧ RelV u uv ∧ ∀ φ H, RV W φ H v u
  fld : ∀ C f, Γ.fld C f = true → ∃ Ca, W.mg C = some (.ref Ca) ∧ Cls W.K Ca ∧ NoAttr W.K Ca f
  call : ∀ f n ks, cSig G f n ks = true → ∃ fa, W.mg f = some (.ref fa) ∧ PySem.W.keepIn W.K (.ref fa) = true ∧ CallOk W k (.ref fa) n ks fun vs kw M => Γ.call f vs kw M
  make : ∀ C n ks, cSigC G C n ks = true → ∃ Ca, W.mg C = some (.ref Ca) ∧ PySem.W.keepIn W.K (.ref Ca) = true ∧ CallOk W k (.ref Ca) n ks fun vs kw M => Γ.make C vs kw M
  meth : ∀ C m n ks, cSigM G C m n ks = true → ∃ Ca ga, W.mg C = some (.ref Ca) ∧ Cls W.K Ca ∧ Meth W.K Ca m ga ∧ CallOk W k (.ref ga) (n + 1) ks fun vs kw M => Γ.call (C ++ Str.ofString "." ++ m) vs kw M
/-- X runs what c tells -/
structure OkX (W : Wo) (G : GT) (Γ : Gam) (k : Nat) (c : CC) (X : Cx) : Prop where
  facts : Facts W G Γ k
  at_ : At W X
  sc : X.env.scope = c.sc
  N : X.N = c.N
  nd : X.N.Nodup
  fn : X.fn = c.fn
  calm : X.calm = true
  room : Room k X.A
  grd : X.A.guards = some []
  xe : X.xe = fun _ _ => False
def RecOk (W : Wo) (G : GT) (Γ : Gam) (k : Nat) (rec : CC → Expr → Option E) : Prop :=
  ∀ (c : CC) (X : Cx) (e : Expr) (x : E), OkX W G Γ k c X → rec c e = some x → PE X e (lE W (evE Γ x)) ∧ PT X e (lT W (evT Γ x))

theorem optAll_map {α β : Type} {f : α → Option β} : ∀ {l : List α} {r : List β}, optAll (l.map f) = some r → Paired (fun a b => f a = some b) l r
  | [], r, h => by cases h; exact .nil
  | a :: l, r, h => by
    rw [List.map_cons] at h
    cases e : f a with
    | none => rw [e] at h; cases h
    | some b =>
      rw [e] at h
      have h : (optAll (l.map f)).map (b :: ·) = some r := h
      cases e2 : optAll (l.map f) with
      | none => rw [e2] at h; cases h
      | some bs => rw [e2] at h; cases h; exact .cons e (optAll_map e2)
theorem star_cons {e : Expr} {es : List Expr} {env : PySem.Env} (h : isStar e = false) : starEach (e :: es) env = (false, eval e env) :: starEach es env := by
  cases e <;> first | rfl | (cases h; done)
theorem star_any {env : PySem.Env} {pos : Pos} : ∀ {es : List Expr}, es.any isStar = false → (backTo pos (starEach es env)).any (·.1) = false
  | [], _ => rfl
  | e :: es, h => by
    rw [List.any_cons, Bool.or_eq_false_iff] at h
    rw [star_cons h.1]
    show (false || (backTo pos (starEach es env)).any (·.1)) = false
    rw [star_any h.2]; rfl
theorem star_all {env : PySem.Env} {pos : Pos} : ∀ {es : List Expr}, es.any isStar = false → (backTo pos (starEach es env)).all (fun x => !x.1) = true
  | [], _ => rfl
  | e :: es, h => by
    rw [List.any_cons, Bool.or_eq_false_iff] at h
    rw [star_cons h.1]
    show (true && (backTo pos (starEach es env)).all (fun x => !x.1)) = true
    rw [star_all h.2]; rfl
theorem glB_gl {X : Cx} {c : CC} (hs : X.env.scope = c.sc) {x : Str} (h : glB c.sc x = true) : Gl X x := by
  unfold glB at h
  show X.env.scope.names.lookup x = _
  rw [hs]
  split at h
  · assumption
  · cases h
theorem okN_d {x : Str} (h : okN x = true) : (x == ("__debug__" : Str)) = false ∧ (x == ("__classdict__" : Str)) = false := by
  unfold okN at h
  simpa using h
theorem visB_vis {sc : Scope} {x : Str} (h : visB sc x = true) : Vis sc x := by
  unfold visB at h
  split at h
  · exact .inl (by assumption)
  · exact .inr (.inl (by assumption))
  · exact .inr (.inr (by assumption))
  · cases h
theorem slotOf_at {c : CC} {x : Str} {i : Nat} (h : slotOf c x = some i) : c.N[i]? = some x ∧ okN x = true := by
  unfold slotOf at h
  split at h
  · rename_i ho
    obtain ⟨hl, h1, _⟩ := List.findIdx?_eq_some_iff_getElem.mp h
    have e : c.N[i] = x := by simpa using h1
    exact ⟨by rw [← e]; simp [hl], ho⟩
  · cases h
section
variable {W : Wo} {G : GT} {Γ : Gam} {k : Nat} {c : CC} {X : Cx} {rec : CC → Expr → Option E}
theorem OkX.units (ok : OkX W G Γ k c X) : X.A.units + 80 < cLine := by have := ok.room.un; omega
theorem recs_ok {es : List Expr} {xs : List E} (h : recs rec c es = some xs) : es.length ≤ 1000 ∧ es.any isStar = false ∧ Paired (fun e x => rec c e = some x) es xs := by
  unfold recs at h
  split at h
  · rename_i hc
    rw [Bool.and_eq_true, decide_eq_true_eq, Bool.not_eq_true'] at hc
    exact ⟨hc.1, hc.2, optAll_map h⟩
  · cases h
theorem evEs_len {Γ : Gam} : ∀ {xs : List E} {ρ : Env} {M M' : Mem} {vs : List Val}, evEs Γ xs ρ M = .ok vs M' → vs.length = xs.length
  | [], ρ, M, M', vs, h => by cases h; rfl
  | x :: xs, ρ, M, M', vs, h => by
    have h : (evE Γ x ρ M).bind (fun v M => (evEs Γ xs ρ M).bind fun vs M => .ok (v :: vs) M) = .ok vs M' := h
    obtain ⟨a, M1, h1, h2⟩ := Res.bind_ok h
    obtain ⟨as, M2, h3, h4⟩ := Res.bind_ok h2
    cases h4
    rw [List.length_cons, List.length_cons, evEs_len h3]
theorem pa_list (ok : OkX W G Γ k c X) (hr : RecOk W G Γ k rec) {es : List Expr} {xs : List E} (h : Paired (fun e x => rec c e = some x) es xs) (hs : es.any isStar = false) : PA X es (lA W (evEs Γ xs)) := by
  induction h with
  | nil =>
    refine pa_weak pa_nil ?_
    rintro σ H Q ⟨φ, M, ρ, vs, M', r, re, e, q⟩
    cases e
    exact q φ H [] .refl r .nil
  | @cons e x es xs h hs' ih =>
    rw [List.any_cons, Bool.or_eq_false_iff] at hs
    refine pa_weak (pa_cons (hr c X e x ok h).1 (ih hs.2) (star_cons hs.1)) ?_
    rintro σ H Q ⟨φ, M, ρ, vs, M', r, re, ev, q⟩
    have ev : (evE Γ x ρ M).bind (fun v M => (evEs Γ xs ρ M).bind fun vs M => .ok (v :: vs) M) = .ok vs M' := ev
    obtain ⟨a, M1, h1, h2⟩ := Res.bind_ok ev
    obtain ⟨as, M2, h3, h4⟩ := Res.bind_ok h2
    cases h4
    exact ⟨φ, M, ρ, a, M1, r, re, h1, fun φ1 H1 u e1 r1 ru => ⟨φ1, M1, ρ, as, _, r1, re.mono e1, h3, fun φ2 H2 us e2 r2 rus => q φ2 H2 (u :: us) (e1.trans e2) r2 (.cons (ru.mono e2) rus)⟩⟩
/-- the truth of a value as a test -/
theorem pt_of (ok : OkX W G Γ k c X) {e : Expr} {x : E} (h : PE X e (lE W (evE Γ x))) (he : ∀ whole, isTrue e X.env whole = (do let v ← whole; standAt e.pos; holding [v] (truthy v))) : PT X e (lT W (evT Γ x)) := by
  refine pt_weak (pt_truth h he) ?_
  rintro σ H Q ⟨φ, M, ρ, b, M', r, re, e, q⟩
  obtain ⟨a, M1, h1, h2⟩ := Res.bind_ok e
  obtain ⟨h3, rfl⟩ := ofO_ok h2
  exact ⟨φ, M, ρ, a, M1, r, re, h1, fun φ1 H1 u e1 r1 ru => ⟨b, by rw [ok.at_.K]; exact truth_ok r1 ru h3, q φ1 H1 e1 r1⟩⟩
theorem pe_const {v : Val} {u : V} {e : Expr} {x : E} (h : PE X e (tC u)) (hx : ∀ ρ M, evE Γ x ρ M = .ok v M) (hr : ∀ φ H, RV W φ H v u) : PE X e (lE W (evE Γ x)) := by
  refine pe_weak h ?_
  rintro σ H Q ⟨φ, M, ρ, v', M', r, re, e, q⟩
  rw [hx] at e
  cases e
  exact q φ H u .refl r (hr φ H)
theorem c_name (ok : OkX W G Γ k c X) {s : Str} {x : E} {pos : Pos} (h : cName G c s = some x) : PE X (.Name s pos) (lE W (evE Γ x)) := by
  unfold cName at h
  split at h
  · rename_i hv
    cases e : slotOf c s with
    | none => rw [e] at h; cases h
    | some i =>
      rw [e] at h
      cases h
      obtain ⟨hN, ho⟩ := slotOf_at e
      obtain ⟨d1, d2⟩ := okN_d ho
      refine pe_weak (pe_var (i := i) (by rw [ok.N]; exact hN) (by rw [ok.sc]; exact visB_vis hv) d1 d2) ?_
      rintro σ H Q ⟨φ, M, ρ, v, M', r, re, e, q⟩
      have e : (match ρ[i]? with | some (some v) => Res.ok v M | _ => .stuck) = .ok v M' := e
      split at e
      · rename_i w hw
        cases e
        obtain ⟨u, h1, h2⟩ := re.get i _ hw
        exact ⟨u, h1, q φ H u .refl r h2⟩
      · cases e
  · split at h
    · rename_i hg
      rw [Bool.and_eq_true] at hg
      obtain ⟨d1, d2⟩ := okN_d hg.2
      split at h
      · cases h
        refine ⟨fun pins st σ H Q I hw => ?_⟩
        obtain ⟨φ, M, ρ, v, M', r, re, e, q⟩ := hw
        obtain ⟨e2, rfl⟩ := ofO_ok (show ofO (Γ.glob s) M = .ok v M' from e)
        obtain ⟨u, uv, h1, h2, h3⟩ := ok.facts.glb s v e2
        exact (pe_glob (v := u) (u := uv) (glB_gl ok.sc hg.1) (by rw [ok.at_.mg]; exact h1) h2 d1).run pins st σ H Q I (q φ H u .refl r (h3 φ H))
      · split at h
        · rename_i hb
          unfold bltB at hb
          simp only [Bool.and_eq_true, Bool.not_eq_true', beq_eq_false_iff_ne] at hb
          obtain ⟨⟨⟨b1, b2⟩, b3⟩, b4⟩ := hb
          cases e : tyOf s with
          | none => rw [e] at h; cases h
          | some t =>
            rw [e] at h
            cases h
            have hm : X.mg s = none := by rw [ok.at_.mg]; exact ok.facts.blt s b2
            have hv : bootBuiltins s = some (.type t) := by
              unfold tyOf at e
              split at e
              · rename_i z; subst z; cases e; exact PyProof.Rows.boot_int
              · split at e
                · rename_i z; subst z; cases e; exact PyProof.Rows.boot_bool
                · split at e
                  · rename_i z; subst z; cases e; exact PyProof.Rows.boot_str
                  · split at e
                    · rename_i z; subst z; cases e; exact PyProof.Rows.boot_tuple
                    · split at e
                      · rename_i z; subst z; cases e; exact PyProof.Rows.boot_list
                      · split at e
                        · rename_i z; subst z; cases e; exact PyProof.Rows.boot_dict
                        · cases e
            exact pe_const (v := .ty t) (u := .ty t) (pe_bltn (glB_gl ok.sc hg.1) hm hv rfl b4 d1) (fun _ _ => rfl) fun _ _ => .ty t
        · cases h
    · cases h
theorem c_const {q : Const} {x : E} {j : Nat} {pos : Pos} (h : cConst q = some x) : PE X (.Constant q j pos) (lE W (evE Γ x)) := by
  cases q with
  | none => cases h; exact pe_const (v := .non) pe_non (fun _ _ => rfl) fun _ _ => .non
  | bool b => cases h; exact pe_const (v := .bl b) pe_bl (fun _ _ => rfl) fun _ _ => .bl b
  | int i => cases h; exact pe_const (v := .int i) pe_int (fun _ _ => rfl) fun _ _ => .int i
  | str z => cases h; exact pe_const (v := .str z) pe_str (fun _ _ => rfl) fun _ _ => .str z
  | _ => cases h
theorem c_tup (ok : OkX W G Γ k c X) (hr : RecOk W G Γ k rec) {es : List Expr} {xs : List E} (h : recs rec c es = some xs) {j : Nat} {pos : Pos} : PE X (.Tuple es j pos) (lE W (evE Γ (.tup xs))) := by
  obtain ⟨h1, h2, h3⟩ := recs_ok h
  refine pe_weak (pe_tup (pa_list ok hr h3 h2)) ?_
  rintro σ H Q ⟨φ, M, ρ, v, M', r, re, e, q⟩
  have e : (evEs Γ xs ρ M).bind (fun vs M => Res.ok (.tup vs) M) = .ok v M' := e
  obtain ⟨vs, M1, e1, e2⟩ := Res.bind_ok e
  cases e2
  refine ⟨φ, M, ρ, vs, _, r, re, e1, fun φ1 H1 us x1 r1 rus => ⟨?_, fun p hp => (q.step x1).tup r1 rus hp⟩⟩
  rw [← rus.length, evEs_len e1, ← Paired.length h3, sizeLine_eq]
  omega
theorem c_lst (ok : OkX W G Γ k c X) (hr : RecOk W G Γ k rec) {es : List Expr} {xs : List E} (h : recs rec c es = some xs) {pos : Pos} : PE X (.List es pos) (lE W (evE Γ (.lst xs))) := by
  obtain ⟨h1, h2, h3⟩ := recs_ok h
  refine pe_weak (pe_lst (pa_list ok hr h3 h2)) ?_
  rintro σ H Q ⟨φ, M, ρ, v, M', r, re, e, q⟩
  have e : (evEs Γ xs ρ M).bind (fun vs M => new (.lst vs) M) = .ok v M' := e
  obtain ⟨vs, M1, e1, e2⟩ := Res.bind_ok e
  cases e2
  refine ⟨φ, M, ρ, vs, _, r, re, e1, fun φ1 H1 us x1 r1 rus => ⟨?_, fun p hp => (q.step x1).new r1 hp rfl ⟨_, upd_same, rus.mono (Ext.new hp)⟩⟩⟩
  rw [← rus.length, evEs_len e1, ← Paired.length h3, sizeLine_eq]
  omega
theorem c_dct {pos : Pos} : PE X (.Dict [] [] pos) (lE W (evE Γ (.dct [] []))) := by
  refine pe_weak pe_dnewK ?_
  rintro σ H Q ⟨φ, M, ρ, v, M', r, re, e, q⟩
  cases e
  exact fun p hp => q.new r hp rfl (.inl ⟨rfl, _, upd_same, .nil⟩)
/-- two expressions in a row, then an operation -/
theorem two_weak {r : R2} {g : Val → Val → Mem → Res Val} {f : Env → Mem → Res Val} {x y : E} (hr : ∀ a b H Q, l2 W g a b H Q → r a b H Q) (hf : ∀ ρ M, f ρ M = (evE Γ x ρ M).bind fun a M => (evE Γ y ρ M).bind fun b M => g a b M) :
    ∀ σ H Q, lE W f σ H Q → tOp r (lE W (evE Γ x)) (lE W (evE Γ y)) σ H Q := by
  rintro σ H Q ⟨φ, M, ρ, v, M', r0, re, e, q⟩
  rw [hf] at e
  obtain ⟨a, M1, e1, e2⟩ := Res.bind_ok e
  obtain ⟨b, M2, e3, e4⟩ := Res.bind_ok e2
  exact ⟨φ, M, ρ, a, M1, r0, re, e1, fun φ1 H1 u x1 r1 ru => ⟨φ1, M1, ρ, b, M2, r1, re.mono x1, e3, fun φ2 H2 w x2 r2 rw' => hr _ _ _ _ ⟨φ2, M2, a, b, v, M', r2, ru.mono x2, rw', e4, q.step (x1.trans x2)⟩⟩⟩
theorem c_bin (ok : OkX W G Γ k c X) {a b : Expr} {op : Operator} {x y : E} {pos : Pos} (ha : PE X a (lE W (evE Γ x))) (hb : PE X b (lE W (evE Γ y))) : PE X (.BinOp a op b pos) (lE W (evE Γ (.bin op x y))) :=
  pe_weak (pe_op (op_bin_ok ok.at_ op) ha hb) (two_weak (fun _ _ _ _ z => z) fun _ _ => rfl)
theorem c_neg {a : Expr} {x : E} {pos : Pos} (ha : PE X a (lE W (evE Γ x))) : PE X (.UnaryOp .USub a pos) (lE W (evE Γ (.neg x))) := by
  refine pe_weak (pe_un (op_neg_ok (W := W)) ha) ?_
  rintro σ H Q ⟨φ, M, ρ, v, M', r, re, e, q⟩
  obtain ⟨a, M1, e1, e2⟩ := Res.bind_ok (show (evE Γ x ρ M).bind (fun x M => match x with | .int i => .ok (.int (-i)) M | _ => .stuck) = .ok v M' from e)
  exact ⟨φ, M, ρ, a, M1, r, re, e1, fun φ1 H1 u x1 r1 ru => ⟨φ1, M1, a, v, M', r1, ru, e2, q.step x1⟩⟩
theorem c_not (ok : OkX W G Γ k c X) {a : Expr} {x : E} {pos : Pos} (ha : PE X a (lE W (evE Γ x))) (ht : PT X a (lT W (evT Γ x))) : PE X (.UnaryOp .Not a pos) (lE W (evE Γ (.not x))) ∧ PT X (.UnaryOp .Not a pos) (lT W (evT Γ (.not x))) := by
  constructor
  · refine pe_weak (pe_notT ha) ?_
    rintro σ H Q ⟨φ, M, ρ, v, M', r, re, e, q⟩
    obtain ⟨a, M1, e1, e2⟩ := Res.bind_ok (show (evE Γ x ρ M).bind (fun x M => ofO ((truth M x).map fun b => Val.bl (!b)) M) = .ok v M' from e)
    obtain ⟨e3, rfl⟩ := ofO_ok e2
    cases e4 : truth M1 a with
    | none => rw [e4] at e3; cases e3
    | some b =>
      rw [e4] at e3
      cases e3
      exact ⟨φ, M, ρ, a, M1, r, re, e1, fun φ1 H1 u x1 r1 ru => ⟨b, by rw [ok.at_.K]; exact truth_ok r1 ru e4, q φ1 H1 _ x1 r1 (.bl _)⟩⟩
  · refine pt_weak (pt_not ht) ?_
    rintro σ H Q ⟨φ, M, ρ, d, M', r, re, e, q⟩
    obtain ⟨v, M2, e0, e5⟩ := Res.bind_ok e
    obtain ⟨a, M1, e1, e2⟩ := Res.bind_ok (show (evE Γ x ρ M).bind (fun x M => ofO ((truth M x).map fun b => Val.bl (!b)) M) = .ok v M2 from e0)
    obtain ⟨e3, rfl⟩ := ofO_ok e2
    obtain ⟨e6, rfl⟩ := ofO_ok e5
    cases e4 : truth M1 a with
    | none => rw [e4] at e3; cases e3
    | some b =>
      rw [e4] at e3
      cases e3
      cases e6
      exact ⟨φ, M, ρ, b, M1, r, re, by unfold evT; rw [e1]; show ofO (truth M1 a) M1 = _; rw [e4]; rfl, fun φ1 H1 x1 r1 => q φ1 H1 x1 r1⟩
/-- a value's test again -/
theorem evT_of {x : E} {ρ : Env} {M M1 : Mem} {a : Val} {b : Bool} (e : evE Γ x ρ M = .ok a M1) (t : truth M1 a = some b) : evT Γ x ρ M = .ok b M1 := by
  unfold evT; rw [e]; show ofO (truth M1 a) M1 = _; rw [t]; rfl
theorem evT_inv {x : E} {ρ : Env} {M M1 : Mem} {b : Bool} (e : evT Γ x ρ M = .ok b M1) : ∃ a, evE Γ x ρ M = .ok a M1 ∧ truth M1 a = some b := by
  obtain ⟨a, M2, e1, e2⟩ := Res.bind_ok e
  obtain ⟨e3, rfl⟩ := ofO_ok e2
  exact ⟨a, e1, e3⟩
theorem c_ite (ok : OkX W G Γ k c X) {t a b : Expr} {x y z : E} {pos : Pos} (ht : PT X t (lT W (evT Γ x))) (ha : PE X a (lE W (evE Γ y))) (hb : PE X b (lE W (evE Γ z))) : PE X (.IfExp t a b pos) (lE W (evE Γ (.ite x y z))) := by
  refine pe_weak (pe_ifExp ht ha hb) ?_
  rintro σ H Q ⟨φ, M, ρ, v, M', r, re, e, q⟩
  obtain ⟨w, M1, e1, e2⟩ := Res.bind_ok (show (evE Γ x ρ M).bind (fun w M => match truth M w with | some true => evE Γ y ρ M | some false => evE Γ z ρ M | none => .stuck) = .ok v M' from e)
  cases e3 : truth M1 w with
  | none => rw [e3] at e2; cases e2
  | some d =>
    rw [e3] at e2
    refine ⟨φ, M, ρ, d, M1, r, re, evT_of e1 e3, fun φ1 H1 x1 r1 => ?_⟩
    cases d with
    | true => exact ⟨φ1, M1, ρ, v, M', r1, re.mono x1, e2, q.step x1⟩
    | false => exact ⟨φ1, M1, ρ, v, M', r1, re.mono x1, e2, q.step x1⟩
end
end Mn
end -- Sd15
section -- Sd16
set_option linter.all false
set_option autoImplicit false
set_option maxRecDepth 100000
namespace Mn
open PySem L2
section
variable {W : Wo} {G : GT} {Γ : Gam} {k : Nat} {c : CC} {X : Cx} {rec : CC → Expr → Option E}
/-! ### and, or -/
theorem c_bool (ok : OkX W G Γ k c X) (hr : RecOk W G Γ k rec) (op : BoolOp) {pos : Pos} : ∀ {es : List Expr} {xs : List E} {x : E}, Paired (fun e x => rec c e = some x) es xs → boolC op xs = some x →
    PE X (.BoolOp op es pos) (lE W (evE Γ x)) ∧ PW X (.BoolOp op es pos) (lT W (evT Γ x))
  | _, _, _, .nil, h => by cases h
  | _, _, _, .cons (b := y) h1 .nil, h => by
    cases h
    obtain ⟨pe, pt⟩ := hr c X _ _ ok h1
    cases op with
    | And => exact ⟨pe_one pe, pw_and1 pt⟩
    | Or => exact ⟨pe_one pe, pw_or1 pt⟩
  | _, _, x, .cons (b := y) h1 (.cons (b := y2) (l₂ := ys) h2 h3), h => by
    have h : (boolC op (y2 :: ys)).map (boolE op y) = some x := h
    cases e : boolC op (y2 :: ys) with
    | none => rw [e] at h; cases h
    | some z =>
      rw [e] at h
      obtain ⟨pe, pt⟩ := hr c X _ _ ok h1
      obtain ⟨qe, qw⟩ := c_bool ok hr op (.cons h2 h3) e
      cases op with
      | And =>
        cases h
        constructor
        · refine pe_weak (pe_andT pe qe) ?_
          rintro σ H Q ⟨φ, M, ρ, v, M', r, re, e, q⟩
          obtain ⟨a, M1, e1, e2⟩ := Res.bind_ok (show (evE Γ y ρ M).bind (fun x M => match truth M x with | some true => evE Γ z ρ M | some false => .ok x M | none => .stuck) = .ok v M' from e)
          cases e3 : truth M1 a with
          | none => rw [e3] at e2; cases e2
          | some d =>
            rw [e3] at e2
            refine ⟨φ, M, ρ, a, M1, r, re, e1, fun φ1 H1 u x1 r1 ru => ⟨d, by rw [ok.at_.K]; exact truth_ok r1 ru e3, ?_⟩⟩
            cases d with
            | true => exact ⟨φ1, M1, ρ, v, M', r1, re.mono x1, e2, q.step x1⟩
            | false => cases e2; exact q φ1 H1 u x1 r1 ru
        · refine ⟨fun wh pins s σ H Q I hw => (pw_and pt qw).run wh pins s σ H Q I ?_⟩
          obtain ⟨φ, M, ρ, b, M', r, re, e, q⟩ := hw
          obtain ⟨v, e0, e5⟩ := evT_inv e
          obtain ⟨a, M1, e1, e2⟩ := Res.bind_ok (show (evE Γ y ρ M).bind (fun x M => match truth M x with | some true => evE Γ z ρ M | some false => .ok x M | none => .stuck) = .ok v M' from e0)
          cases e3 : truth M1 a with
          | none => rw [e3] at e2; cases e2
          | some d =>
            rw [e3] at e2
            refine ⟨φ, M, ρ, d, M1, r, re, evT_of e1 e3, fun φ1 H1 x1 r1 => ?_⟩
            cases d with
            | true => exact ⟨φ1, M1, ρ, b, M', r1, re.mono x1, evT_of e2 e5, fun φ2 H2 x2 r2 => q φ2 H2 (x1.trans x2) r2⟩
            | false => cases e2; rw [e3] at e5; cases e5; exact q φ1 H1 x1 r1
      | Or =>
        cases h
        constructor
        · refine pe_weak (pe_orT pe qe) ?_
          rintro σ H Q ⟨φ, M, ρ, v, M', r, re, e, q⟩
          obtain ⟨a, M1, e1, e2⟩ := Res.bind_ok (show (evE Γ y ρ M).bind (fun x M => match truth M x with | some false => evE Γ z ρ M | some true => .ok x M | none => .stuck) = .ok v M' from e)
          cases e3 : truth M1 a with
          | none => rw [e3] at e2; cases e2
          | some d =>
            rw [e3] at e2
            refine ⟨φ, M, ρ, a, M1, r, re, e1, fun φ1 H1 u x1 r1 ru => ⟨d, by rw [ok.at_.K]; exact truth_ok r1 ru e3, ?_⟩⟩
            cases d with
            | false => exact ⟨φ1, M1, ρ, v, M', r1, re.mono x1, e2, q.step x1⟩
            | true => cases e2; exact q φ1 H1 u x1 r1 ru
        · refine ⟨fun wh pins s σ H Q I hw => (pw_or pt qw).run wh pins s σ H Q I ?_⟩
          obtain ⟨φ, M, ρ, b, M', r, re, e, q⟩ := hw
          obtain ⟨v, e0, e5⟩ := evT_inv e
          obtain ⟨a, M1, e1, e2⟩ := Res.bind_ok (show (evE Γ y ρ M).bind (fun x M => match truth M x with | some false => evE Γ z ρ M | some true => .ok x M | none => .stuck) = .ok v M' from e0)
          cases e3 : truth M1 a with
          | none => rw [e3] at e2; cases e2
          | some d =>
            rw [e3] at e2
            refine ⟨φ, M, ρ, d, M1, r, re, evT_of e1 e3, fun φ1 H1 x1 r1 => ?_⟩
            cases d with
            | false => exact ⟨φ1, M1, ρ, b, M', r1, re.mono x1, evT_of e2 e5, fun φ2 H2 x2 r2 => q φ2 H2 (x1.trans x2) r2⟩
            | true => cases e2; rw [e3] at e5; cases e5; exact q φ1 H1 x1 r1
/-! ### comparisons -/
theorem cmp_bl {op : CmpOp} {a b v : Val} {M M' : Mem} (h : cmpV op a b M = .ok v M') {d : Bool} (t : truth M' v = some d) : v = .bl d := by
  obtain ⟨q, h1, h2, h3⟩ := cmpV_ok h
  subst h2
  cases t
  rfl
theorem c_cmp (ok : OkX W G Γ k c X) {a b : Expr} {op : CmpOp} {x y : E} {pos : Pos} (ha : PE X a (lE W (evE Γ x))) (hb : PE X b (lE W (evE Γ y))) (hm : behindInMarks op b = false) :
    PE X (.Compare a [op] [b] pos) (lE W (evE Γ (.cmp op x y))) ∧ PT X (.Compare a [op] [b] pos) (lT W (evT Γ (.cmp op x y))) := by
  have two := two_weak (W := W) (Γ := Γ) (r := l2 W (cmpV op)) (g := cmpV op) (f := evE Γ (.cmp op x y)) (x := x) (y := y) (fun _ _ _ _ z => z) fun _ _ => rfl
  constructor
  · exact pe_weak (pe_cmpR (op_cmp_ok ok.at_ ok.units op) ha hb hm) two
  · refine pt_weak (pt_cmpR (op_cmp_ok ok.at_ ok.units op) ha hb hm) ?_
    rintro σ H Q ⟨φ, M, ρ, d, M', r, re, e, q⟩
    obtain ⟨v, e0, e5⟩ := evT_inv e
    refine two σ H _ ⟨φ, M, ρ, v, M', r, re, e0, fun φ1 H1 u x1 r1 ru => ?_⟩
    obtain ⟨p, M1, e1, e2⟩ := Res.bind_ok (show (evE Γ x ρ M).bind (fun p M => (evE Γ y ρ M).bind fun t M => cmpV op p t M) = .ok v M' from e0)
    obtain ⟨t, M2, e3, e4⟩ := Res.bind_ok e2
    have ev := cmp_bl e4 e5
    subst ev
    cases ru
    exact ⟨d, rfl, q φ1 H1 x1 r1⟩
theorem c_chain (ok : OkX W G Γ k c X) {a b d : Expr} {op op' : CmpOp} {x y z : E} {pos : Pos} (ha : PE X a (lE W (evE Γ x))) (hb : PE X b (lE W (evE Γ y))) (hd : PE X d (lE W (evE Γ z))) (hm : behindInMarks op' d = false) :
    PE X (.Compare a [op, op'] [b, d] pos) (lE W (evE Γ (.chain op op' x y z))) ∧ PT X (.Compare a [op, op'] [b, d] pos) (lT W (evT Γ (.chain op op' x y z))) := by
  have main : ∀ σ H Q, lE W (evE Γ (.chain op op' x y z)) σ H Q → tChain (l2 W (cmpV op)) (l2 W (cmpV op')) (lE W (evE Γ x)) (lE W (evE Γ y)) (lE W (evE Γ z)) σ H Q := by
    rintro σ H Q ⟨φ, M, ρ, v, M', r, re, e, q⟩
    obtain ⟨p, M1, e1, e2⟩ := Res.bind_ok (show (evE Γ x ρ M).bind (fun x M => (evE Γ y ρ M).bind fun y M => match cmpop op x y M with
      | some true => (evE Γ z ρ M).bind fun z M => ofO ((cmpop op' y z M).map .bl) M
      | some false => .ok (.bl false) M
      | none => .stuck) = .ok v M' from e)
    obtain ⟨t, M2, e3, e4⟩ := Res.bind_ok e2
    refine ⟨φ, M, ρ, p, M1, r, re, e1, fun φ1 H1 u x1 r1 ru => ⟨φ1, M1, ρ, t, M2, r1, re.mono x1, e3, fun φ2 H2 w x2 r2 rw' => ?_⟩⟩
    cases e5 : cmpop op p t M2 with
    | none => rw [e5] at e4; cases e4
    | some m =>
      rw [e5] at e4
      refine ⟨φ2, M2, p, t, .bl m, M2, r2, ru.mono x2, rw', by unfold cmpV; rw [e5]; rfl, fun φ3 H3 uu x3 r3 ruu => ?_⟩
      cases ruu
      refine ⟨m, rfl, ?_⟩
      cases m with
      | true =>
        obtain ⟨s, M3, e6, e7⟩ := Res.bind_ok e4
        exact ⟨φ3, M2, ρ, s, M3, r3, re.mono (x1.trans (x2.trans x3)), e6, fun φ4 H4 us x4 r4 rus => ⟨φ4, M3, t, s, v, M', r4, rw'.mono (x3.trans x4), rus, e7, q.step (x1.trans (x2.trans (x3.trans x4)))⟩⟩
      | false => cases e4; exact q φ3 H3 _ (x1.trans (x2.trans x3)) r3 (.bl _)
  have lm : lastMarks [op, op'] [b, d] = false := hm
  constructor
  · exact pe_weak (pe_chain (op_cmp_ok ok.at_ ok.units op) (op_cmp_ok ok.at_ ok.units op') ha hb hd lm) main
  · refine pt_weak (pt_chain (op_cmp_ok ok.at_ ok.units op) (op_cmp_ok ok.at_ ok.units op') ha hb hd lm) ?_
    rintro σ H Q ⟨φ, M, ρ, w, M', r, re, e, q⟩
    obtain ⟨v, e0, e5⟩ := evT_inv e
    refine main σ H _ ⟨φ, M, ρ, v, M', r, re, e0, fun φ1 H1 u x1 r1 ru => ?_⟩
    have ev : v = .bl w := by
      obtain ⟨p, M1, e1, e2⟩ := Res.bind_ok (show (evE Γ x ρ M).bind (fun x M => (evE Γ y ρ M).bind fun y M => match cmpop op x y M with
        | some true => (evE Γ z ρ M).bind fun z M => ofO ((cmpop op' y z M).map .bl) M
        | some false => .ok (.bl false) M
        | none => .stuck) = .ok v M' from e0)
      obtain ⟨t, M2, e3, e4⟩ := Res.bind_ok e2
      cases e6 : cmpop op p t M2 with
      | none => rw [e6] at e4; cases e4
      | some m =>
        rw [e6] at e4
        cases m with
        | true =>
          obtain ⟨s, M3, e7, e8⟩ := Res.bind_ok e4
          exact cmp_bl (op := op') e8 e5
        | false => cases e4; cases e5; rfl
    subst ev
    cases ru
    exact ⟨w, rfl, q φ1 H1 x1 r1⟩
/-! ### attributes, subscripts, slices -/
theorem base_of {o : Expr} {f : Str} {env : PySem.Env} {wh : Sem Value} (h : isBare o = false) : attributeBase o f env wh = wh := by
  unfold attributeBase
  split
  · cases h
  · rfl
theorem c_attr (ok : OkX W G Γ k c X) {o : Expr} {f : Str} {x : E} {pos : Pos} (ho : PE X o (lE W (evE Γ x))) (hb : isBare o = false) : PE X (.Attribute o f pos) (lE W (evE Γ (.attr x f))) := by
  refine pe_weak (pe_fld ho (base_of hb)) ?_
  rintro σ H Q ⟨φ, M, ρ, v, M', r, re, e, q⟩
  obtain ⟨a, M1, e1, e2⟩ := Res.bind_ok (show (evE Γ x ρ M).bind (fun x M => match x with
    | .ref n => match M[n]? with
      | some (.ins C fs) => if Γ.fld C f then ofO (fs.lookup f) M else .stuck
      | _ => .stuck
    | _ => .stuck) = .ok v M' from e)
  refine ⟨φ, M, ρ, a, M1, r, re, e1, fun φ1 H1 u x1 r1 ru => ?_⟩
  cases ru with
  | @ref n ad hn =>
    dsimp only at e2
    split at e2
    · rename_i C fs em
      split at e2
      · rename_i hf
        obtain ⟨e3, rfl⟩ := ofO_ok e2
        obtain ⟨Ca, dx, us, g1, g2, g3⟩ := r1.obj n _ ad em hn
        obtain ⟨Cb, f1, f2, f3⟩ := ok.facts.fld C f hf
        have ec : Cb = Ca := by rw [g1] at f1; cases f1; rfl
        subst ec
        obtain ⟨w, l1, l2⟩ : ∃ w, us.lookup f = some w ∧ RV W φ1 H1 v w := by
          clear e2 hf em g2
          revert e3
          induction g3 with
          | nil => intro e3; cases e3
          | @cons p q ps qs hh hs ih =>
            obtain ⟨p1, p2⟩ := p
            obtain ⟨q1, q2⟩ := q
            obtain ⟨h1, h2⟩ := hh
            dsimp only at h1 h2
            subst h1
            intro e3
            rw [List.lookup_cons] at e3
            rw [List.lookup_cons]
            cases z : f == p1 with
            | true => rw [z] at e3; cases e3; exact ⟨q2, rfl, h2⟩
            | false => rw [z] at e3; exact ih e3
        exact ⟨ad, Cb, dx, us, w, rfl, g2, by rw [ok.at_.K]; exact f2, by rw [ok.at_.K]; exact f3, l1, q φ1 H1 w x1 r1 l2⟩
      · cases e2
    · cases e2
  | _ => cases e2
theorem c_idx (ok : OkX W G Γ k c X) {a i : Expr} {x y : E} {pos : Pos} (ha : PE X a (lE W (evE Γ x))) (hi : PE X i (lE W (evE Γ y))) (hs : isSlice i = false) : PE X (.Subscript a i pos) (lE W (evE Γ (.idx x y))) :=
  pe_weak (pe_ix (ix_ok ok.at_ (by have := ok.units; omega)) ha hi (fun o j => by cases i <;> first | rfl | (cases hs; done))) (two_weak (fun _ _ _ _ z => z) fun _ _ => rfl)
def lO (W : Wo) (f : Env → Mem → Res (Option Int)) : TO := fun σ H Q => ∃ φ M ρ o M', RM W φ M H ∧ RE W φ H ρ σ ∧ f ρ M = .ok o M' ∧ ∀ φ' H', Ext W φ H φ' H' → RM W φ' M' H' → Q o H'
theorem po_of (ok : OkX W G Γ k c X) (hr : RecOk W G Γ k rec) {p : Option Expr} {l : E} (h : cPart rec c p = some l) : PO X p (lO W fun ρ M => part l.isNon (evE Γ l ρ M) M) := by
  cases p with
  | none =>
    cases h
    refine ⟨fun pins s σ H Q I hw => po_none.run pins s σ H Q I ?_⟩
    obtain ⟨φ, M, ρ, o, M', r, re, e, q⟩ := hw
    cases e
    exact q φ H .refl r
  | some e =>
    have h : (rec c e).bind (fun x => if x.isNon then none else some x) = some l := h
    cases e1 : rec c e with
    | none => rw [e1] at h; cases h
    | some x =>
      rw [e1] at h
      have h : (if x.isNon then none else some x) = some l := h
      split at h
      · cases h
      · rename_i hn
        cases h
        have hn : l.isNon = false := by simpa using hn
        refine ⟨fun pins s σ H Q I hw => (po_some (hr c X e l ok e1).1).run pins s σ H Q I ?_⟩
        obtain ⟨φ, M, ρ, o, M', r, re, ev, q⟩ := hw
        rw [hn] at ev
        obtain ⟨a, M1, e2, e3⟩ := Res.bind_ok (show (evE Γ l ρ M).bind (fun v M => match v with | .int i => Res.ok (some i) M | _ => .stuck) = .ok o M' from ev)
        refine ⟨φ, M, ρ, a, M1, r, re, e2, fun φ1 H1 u x1 r1 ru => ?_⟩
        cases ru with
        | int i => cases e3; exact ⟨i, rfl, q φ1 H1 x1 r1⟩
        | _ => cases e3
theorem c_sl (ok : OkX W G Γ k c X) (hr : RecOk W G Γ k rec) {a : Expr} {lo hi : Option Expr} {x l h : E} {p2 pos : Pos} (ha : PE X a (lE W (evE Γ x))) (hl : cPart rec c lo = some l) (hh : cPart rec c hi = some h) : PE X (.Subscript a (.Slice lo hi none p2) pos) (lE W (evE Γ (.sl x l h))) := by
  refine pe_weak (pe_slice (sl_ok ok.at_) ha (po_of ok hr hl) (po_of ok hr hh)) ?_
  rintro σ H Q ⟨φ, M, ρ, v, M', r, re, e, q⟩
  obtain ⟨a, M1, e1, e2⟩ := Res.bind_ok (show (evE Γ x ρ M).bind (fun x M => (part l.isNon (evE Γ l ρ M) M).bind fun l M => (part h.isNon (evE Γ h ρ M) M).bind fun h M => sliceB x l h M) = .ok v M' from e)
  obtain ⟨o1, M2, e3, e4⟩ := Res.bind_ok e2
  obtain ⟨o2, M3, e5, e6⟩ := Res.bind_ok e4
  exact ⟨φ, M, ρ, a, M1, r, re, e1, fun φ1 H1 u x1 r1 ru => ⟨φ1, M1, ρ, o1, M2, r1, re.mono x1, e3, fun φ2 H2 x2 r2 => ⟨φ2, M2, ρ, o2, M3, r2, re.mono (x1.trans x2), e5, fun φ3 H3 x3 r3 => ⟨φ3, M3, a, v, M', r3, ru.mono (x2.trans x3), e6, q.step (x1.trans (x2.trans x3))⟩⟩⟩⟩
theorem c_slr (ok : OkX W G Γ k c X) {a : Expr} {x : E} {j : Nat} {p1 p2 p3 pos : Pos} (ha : PE X a (lE W (evE Γ x))) : PE X (.Subscript a (.Slice none none (some (.UnaryOp .USub (.Constant (.int 1) j p1) p2)) p3) pos) (lE W (evE Γ (.slr x))) := by
  refine pe_weak (pe_revL ha) ?_
  rintro σ H Q ⟨φ, M, ρ, v, M', r, re, e, q⟩
  obtain ⟨a, M1, e1, e2⟩ := Res.bind_ok (show (evE Γ x ρ M).bind (fun x M => sliceRev x M) = .ok v M' from e)
  refine ⟨φ, M, ρ, a, M1, r, re, e1, fun φ1 H1 u x1 r1 ru => ?_⟩
  cases ru with
  | @ref n ad hn =>
    have e2 : (match M1[n]? with | some (.lst vs) => new (.lst vs.reverse) M1 | _ => .stuck) = .ok v M' := e2
    split at e2
    · rename_i vs em
      cases e2
      obtain ⟨us, g1, g2⟩ := r1.lst em hn
      exact ⟨ad, us, rfl, .inl (.inl g1), fun p hp => (q.step x1).new r1 hp rfl ⟨_, upd_same, g2.reverse.mono (Ext.new hp)⟩⟩
    · cases e2
  | _ => cases e2
end
end Mn
end -- Sd16
section -- Sd17
set_option linter.all false
set_option autoImplicit false
set_option maxRecDepth 100000
namespace Mn
open PySem L2
section
variable {W : Wo} {G : GT} {Γ : Gam} {k : Nat} {c : CC} {X : Cx} {rec : CC → Expr → Option E}
/-! ### built-in functions -/
theorem bltB_ok (ok : OkX W G Γ k c X) {f : Str} (h : bltB G c f = true) : Gl X f ∧ X.mg f = none ∧ f ≠ "__name__" ∧ (f == ("__debug__" : Str)) = false := by
  unfold bltB at h
  simp only [Bool.and_eq_true, Bool.not_eq_true', beq_eq_false_iff_ne] at h
  obtain ⟨⟨⟨b1, b2⟩, b3⟩, b4⟩ := h
  exact ⟨glB_gl ok.sc b1, by rw [ok.at_.mg]; exact ok.facts.blt f b2, b4, (okN_d b3).1⟩
theorem bf_ok (ok : OkX W G Γ k c X) {f : Str} {b : BF} (h : bfOf f = some b) :
    (∃ id, bootBuiltins f = some (.builtin id) ∧ CallR X (.builtin id) (lX W (bcall b))) ∨ (∃ T, bootBuiltins f = some (.type T) ∧ CallR X (.type T) (lX W (bcall b))) := by
  have hu := ok.units
  have hu' : X.A.units + 64 < cLine := by omega
  have wa := ok.at_
  have hc := ok.calm
  have m : (f, b) ∈ bfTab := PySem.mem_of_lookup h
  unfold bfTab at m
  rcases List.mem_cons.mp m with e | m
  · cases e; exact .inl ⟨_, (by decide +kernel), call_len_ok wa hu'⟩
  rcases List.mem_cons.mp m with e | m
  · cases e; exact .inl ⟨_, PyProof.Rows.boot_min, call_min_ok wa hc hu⟩
  rcases List.mem_cons.mp m with e | m
  · cases e; exact .inl ⟨_, PyProof.Rows.boot_max, call_max_ok wa hc hu⟩
  rcases List.mem_cons.mp m with e | m
  · cases e; exact .inl ⟨_, PyProof.Rows.boot_sum, call_sum_ok wa hc⟩
  rcases List.mem_cons.mp m with e | m
  · cases e; exact .inl ⟨_, PyProof.Rows.boot_all, call_all_ok wa hc⟩
  rcases List.mem_cons.mp m with e | m
  · cases e; exact .inl ⟨_, PyProof.Rows.boot_any, call_any_ok wa hc⟩
  rcases List.mem_cons.mp m with e | m
  · cases e; exact .inl ⟨_, (by decide +kernel), call_sorted_ok wa hu⟩
  rcases List.mem_cons.mp m with e | m
  · cases e; exact .inr ⟨_, PyProof.Rows.boot_list, call_list_ok wa hc⟩
  rcases List.mem_cons.mp m with e | m
  · cases e; exact .inr ⟨_, PyProof.Rows.boot_tuple, call_tuple_ok wa⟩
  rcases List.mem_cons.mp m with e | m
  · cases e; exact .inr ⟨_, PyProof.Rows.boot_int, call_int_ok⟩
  rcases List.mem_cons.mp m with e | m
  · cases e; exact .inr ⟨_, PyProof.Rows.boot_str, call_str_ok⟩
  rcases List.mem_cons.mp m with e | m
  · cases e; exact .inl ⟨_, by decide +kernel, call_repr_ok wa hu ok.grd⟩
  rcases List.mem_cons.mp m with e | m
  · cases e; exact .inl ⟨_, PyProof.Rows.boot_abs, call_abs_ok⟩
  rcases List.mem_cons.mp m with e | m
  · cases e; exact .inl ⟨_, by decide +kernel, call_isi_ok wa⟩
  cases m
theorem tcb_weak {r : List V → Hp → VK → Prop} {b : BF} {es : List E} (hr : ∀ xs H Q, lX W (bcall b) xs H Q → r xs H Q) : ∀ σ H Q, lE W (evE Γ (.bcall b es)) σ H Q → tCB r (lA W (evEs Γ es)) σ H Q := by
  rintro σ H Q ⟨φ, M, ρ, v, M', r0, re, e, q⟩
  obtain ⟨vs, M1, e1, e2⟩ := Res.bind_ok (show (evEs Γ es ρ M).bind (fun vs M => bcall b vs M) = .ok v M' from e)
  exact ⟨φ, M, ρ, vs, M1, r0, re, e1, fun φ1 H1 us x1 r1 rus => hr _ _ _ ⟨φ1, M1, vs, v, M', r1, rus, e2, q.step x1⟩⟩
theorem c_bf (ok : OkX W G Γ k c X) (hr : RecOk W G Γ k rec) {f : Str} {p pos : Pos} {es : List Expr} {xs : List E} {b : BF} (h : recs rec c es = some xs) (hb : bltB G c f = true) (hf : bfOf f = some b) (hne : es ≠ []) : PE X (.Call (.Name f p) es [] pos) (lE W (evE Γ (.bcall b xs))) := by
  obtain ⟨hl, hs, hp⟩ := recs_ok h
  obtain ⟨g1, g2, g3, g4⟩ := bltB_ok ok hb
  have pa := pa_list ok hr hp hs
  cases es with
  | nil => exact absurd rfl hne
  | cons e es =>
    rw [List.any_cons, Bool.or_eq_false_iff] at hs
    rcases bf_ok ok hf with ⟨id, h1, h2⟩ | ⟨T, h1, h2⟩
    · exact pe_weak (pe_callB h2 g1 g2 h1 pa g3 g4 (star_cons hs.1) (star_any hs.2)) (tcb_weak fun _ _ _ z => z)
    · exact pe_weak (pe_callTy h2 g1 g2 h1 pa g3 g4 (star_cons hs.1) (star_any hs.2)) (tcb_weak fun _ _ _ z => z)
/-! ### list(range(..)) -/
theorem irange_eq : ∀ (n : Nat) (lo : Int), irange lo n = (List.range n).map fun i => Val.int (lo + (i : Nat))
  | 0, _ => rfl
  | n + 1, lo => by
    rw [List.range_succ_eq_map, List.map_cons, List.map_map]
    show Val.int lo :: irange (lo + 1) n = _
    rw [irange_eq n (lo + 1)]
    congr 1
    · simp
    · apply List.map_congr_left
      intro i _
      show Val.int (lo + 1 + (i : Nat)) = Val.int (lo + ((i + 1 : Nat) : Int))
      congr 1
      omega
theorem irange_len (n : Nat) (lo : Int) : (irange lo n).length = n := by rw [irange_eq]; simp
theorem rv_ints {φ : List Addr} {H : Hp} : ∀ (l : List Nat) (g : Nat → Int), RVs W φ H (l.map fun i => Val.int (g i)) (l.map fun i => V.int (g i))
  | [], _ => .nil
  | _ :: l, g => .cons (.int _) (rv_ints l g)
theorem rv_rg {φ : List Addr} {H : Hp} (a b : Int) : RVs W φ H (irange a (b - a).toNat) (rgV a b) := by
  rw [irange_eq]
  exact rv_ints _ _
/-- what a range's values are -/
theorem range_cases {vs l : List Val} (h : rangeOf vs = some l) (h2 : vs.length ≤ 2) : (∃ j, vs = [.int j] ∧ smallI j = true ∧ l = irange 0 j.toNat) ∨ ∃ i j, vs = [.int i, .int j] ∧ smallI i = true ∧ smallI j = true ∧ l = irange i (j - i).toNat := by
  unfold rangeOf at h
  split at h
  · split at h
    · cases h; exact .inl ⟨_, rfl, by assumption, rfl⟩
    · cases h
  · split at h
    · rename_i hs
      rw [Bool.and_eq_true] at hs
      cases h
      exact .inr ⟨_, _, rfl, hs.1, hs.2, rfl⟩
    · cases h
  · simp at h2
  · cases h
theorem smallI_ok {i : Int} (h : smallI i = true) : -(2 ^ 62) ≤ i ∧ i < 2 ^ 62 := of_decide_eq_true h
def lR (W : Wo) (f : Env → Mem → Res (List Val)) : St → Hp → (Int → Int → Hp → Prop) → Prop := fun σ H Q => ∃ φ M ρ vs l M', RM W φ M H ∧ RE W φ H ρ σ ∧ f ρ M = .ok vs M' ∧ vs.length ≤ 2 ∧ rangeOf vs = some l ∧
  ∀ φ' H' a b, Ext W φ H φ' H' → RM W φ' M' H' → smallI a = true → smallI b = true → l = irange a (b - a).toNat → Q a b H'
theorem prg_of (ok : OkX W G Γ k c X) (hr : RecOk W G Γ k rec) {g : Str} {gs : List Expr} {ys : List E} {p pos : Pos} (hg : g = "range") (hb : bltB G c g = true) (h : recs rec c gs = some ys) (hl : (gs.length == 1 || gs.length == 2) = true) : PRg X (.Call (.Name g p) gs [] pos) (lR W (evEs Γ ys)) := by
  subst hg
  obtain ⟨g1, g2, _, _⟩ := bltB_ok ok hb
  obtain ⟨_, hs, hp⟩ := recs_ok h
  cases hp with
  | nil => simp at hl
  | @cons a x as xs h1 hp =>
    rw [List.any_cons, Bool.or_eq_false_iff] at hs
    have pa := (hr c X a x ok h1).1
    cases hp with
    | nil =>
      intro pins s σ H Q I hw
      obtain ⟨φ, M, ρ, vs, l, M', r, re, e, hl2, hl3, q⟩ := hw
      obtain ⟨v, M1, e1, e2⟩ := Res.bind_ok (show (evE Γ x ρ M).bind (fun v M => (evEs Γ [] ρ M).bind fun vs M => .ok (v :: vs) M) = .ok vs M' from e)
      cases e2
      refine prg_1 g1 g2 pa (star_cons hs.1) pins s σ H Q I ⟨φ, M, ρ, v, _, r, re, e1, fun φ1 H1 u x1 r1 ru => ?_⟩
      rcases range_cases hl3 hl2 with ⟨j, ev, s1, el⟩ | ⟨i, j, ev, _⟩
      · cases ev
        cases ru
        exact ⟨j, rfl, q φ1 H1 0 j x1 r1 (by decide) s1 (by rw [Int.sub_zero]; exact el)⟩
      · cases ev
    | @cons b y bs ys h2 hp =>
      cases hp with
      | cons _ _ => simp at hl
      | nil =>
        have hs2 := hs.2
        rw [List.any_cons, Bool.or_eq_false_iff] at hs2
        have pb := (hr c X b y ok h2).1
        intro pins s σ H Q I hw
        obtain ⟨φ, M, ρ, vs, l, M', r, re, e, hl2, hl3, q⟩ := hw
        obtain ⟨v, M1, e1, e2⟩ := Res.bind_ok (show (evE Γ x ρ M).bind (fun v M => (evEs Γ [y] ρ M).bind fun vs M => .ok (v :: vs) M) = .ok vs M' from e)
        obtain ⟨us, M2, e3, e4⟩ := Res.bind_ok e2
        obtain ⟨w, M3, e5, e6⟩ := Res.bind_ok (show (evE Γ y ρ M1).bind (fun v M => (evEs Γ [] ρ M).bind fun vs M => .ok (v :: vs) M) = .ok us M2 from e3)
        cases e6
        cases e4
        refine prg_2 g1 g2 pa pb (star_cons hs.1) (star_cons hs2.1) (star_any hs.2) pins s σ H Q I ⟨φ, M, ρ, v, M1, r, re, e1, fun φ1 H1 u x1 r1 ru => ⟨φ1, M1, ρ, w, _, r1, re.mono x1, e5, fun φ2 H2 z x2 r2 rz => ?_⟩⟩
        rcases range_cases hl3 hl2 with ⟨j, ev, _⟩ | ⟨i, j, ev, s1, s2, el⟩
        · cases ev
        · cases ev
          cases ru
          cases rz
          exact ⟨i, j, rfl, rfl, q φ2 H2 i j (x1.trans x2) r2 s1 s2 el⟩
theorem c_rng (ok : OkX W G Γ k c X) (hr : RecOk W G Γ k rec) {f : Str} {p pos : Pos} {es : List Expr} {x : E} (hb : bltB G c f = true) (h : cRng G rec c f es = some x) : PE X (.Call (.Name f p) es [] pos) (lE W (evE Γ x)) := by
  unfold cRng at h
  split at h
  · rename_i g gp gs gpos
    split at h
    · rename_i hc
      simp only [Bool.and_eq_true, Bool.or_eq_true, decide_eq_true_eq] at hc
      obtain ⟨⟨⟨h1, h2⟩, h3⟩, h4⟩ := hc
      cases e : recs rec c gs with
      | none => rw [e] at h; cases h
      | some ys =>
        rw [e] at h
        have pr := prg_of ok hr (p := gp) (pos := gpos) h2 h3 e (by simpa using h4)
        obtain ⟨g1, g2, _, _⟩ := bltB_ok ok hb
        have core : ∀ {b : BF} {σ : L2.St} {H : Hp} {Q : VK}, lE W (evE Γ (.bcall b [.rng ys])) σ H Q → ∃ φ M ρ vs l M' v M2, RM W φ M H ∧ RE W φ H ρ σ ∧ evEs Γ ys ρ M = .ok vs M' ∧ vs.length ≤ 2 ∧ rangeOf vs = some l ∧ l.length ≤ sizeLine ∧ bcall b [.tup l] M' = .ok v M2 ∧ Kont W φ H v M2 Q := fun {b σ H Q} hw => by
          obtain ⟨φ, M, ρ, v, M', r, re, ev, q⟩ := hw
          obtain ⟨us, M1, e1, e2⟩ := Res.bind_ok (show (evEs Γ [.rng ys] ρ M).bind (fun vs M => bcall b vs M) = .ok v M' from ev)
          obtain ⟨w, M2, e3, e4⟩ := Res.bind_ok (show (evE Γ (.rng ys) ρ M).bind (fun v M => (evEs Γ [] ρ M).bind fun vs M => .ok (v :: vs) M) = .ok us M1 from e1)
          cases e4
          obtain ⟨vs, M3, e5, e6⟩ := Res.bind_ok (show (evEs Γ ys ρ M).bind (fun vs M => match rangeOf vs with | some l => chk (decide (vs.length ≤ 2 ∧ l.length ≤ sizeLine)) (.ok (.tup l) M) | none => .stuck) = .ok w _ from e3)
          cases e7 : rangeOf vs with
          | none => rw [e7] at e6; cases e6
          | some l =>
            rw [e7] at e6
            obtain ⟨c1, c2⟩ := chk_ok e6
            cases c2
            obtain ⟨d1, d2⟩ := of_decide_eq_true c1
            exact ⟨φ, M, ρ, vs, l, _, v, M', r, re, e5, d1, e7, d2, e2, q⟩
        have rg : ∀ {a b : Int} {l : List Val}, smallI a = true → smallI b = true → l = irange a (b - a).toNat → l.length ≤ sizeLine → RgOk a b := fun {a b l} s1 s2 el hl => by
          subst el
          rw [irange_len, sizeLine_eq] at hl
          obtain ⟨p1, p2⟩ := smallI_ok s1
          obtain ⟨p3, p4⟩ := smallI_ok s2
          exact ⟨p1, p2, p3, p4, by omega⟩
        rcases h1 with h1 | h1
        · subst h1
          have hx : x = .bcall .list [.rng ys] := by
            have h : some (E.bcall .list [.rng ys]) = some x := h
            cases h; rfl
          subst hx
          refine pe_weak (pe_listRg ok.calm g1 g2 pr) ?_
          intro σ H Q hw
          obtain ⟨φ, M, ρ, vs, l, M', v, M2, r, re, e5, d1, e7, d2, e8, q⟩ := core hw
          refine ⟨φ, M, ρ, vs, l, M', r, re, e5, d1, e7, fun φ1 H1 a b x1 r1 s1 s2 el => ⟨rg s1 s2 el d2, fun t ht => ?_⟩⟩
          cases e8
          subst el
          exact (q.step x1).new r1 ht rfl ⟨_, upd_same, rv_rg a b⟩
        · subst h1
          have hx : x = .bcall .tuple [.rng ys] := by
            have h : some (E.bcall .tuple [.rng ys]) = some x := h
            cases h; rfl
          subst hx
          refine pe_weak (pe_tupRg ok.calm g1 g2 pr) ?_
          intro σ H Q hw
          obtain ⟨φ, M, ρ, vs, l, M', v, M2, r, re, e5, d1, e7, d2, e8, q⟩ := core hw
          refine ⟨φ, M, ρ, vs, l, M', r, re, e5, d1, e7, fun φ1 H1 a b x1 r1 s1 s2 el => ⟨rg s1 s2 el d2, fun t ht => ?_⟩⟩
          cases e8
          subst el
          exact (q.step x1).tup r1 (rv_rg a b) ht
    · cases h
  · cases h
/-! ### methods of lists and dicts -/
theorem isDict {h : Heap} {a : Addr} {o : PySem.Obj} (e : h.get? a = some o) (hd : o.dict = none) {v : Value} (hv : v = .ref a) : ∀ b, v = .ref b → ∃ ob, h.get? b = some ob ∧ ob.dict = none := fun b hb => by
  subst hv
  cases hb
  exact ⟨o, e, hd⟩
def bmTy : BM → String
  | .get => "dict"
  | .setdefault => "dict"
  | _ => "list"
theorem recv_ok (wa : At W X) {pins : List (Addr × PySem.Obj)} {σ : L2.St} {H : Hp} {s : Shared} {φ : List Addr} {M : Mem} (I : Inv X pins σ H s) (r : RM W φ M H) {m : BM} {x : Val} {u : V} {v : Value} (h : recvOk m M x = true) (rx : RV W φ H x u) (rv : RelV u v) :
    s.TypeIs v (bmTy m) ∧ ∀ b, v = .ref b → ∃ ob, s.heap.get? b = some ob ∧ ob.dict = none := by
  have lst : ∀ {vs : List Val}, lstOf M x = some vs → s.TypeIs v "list" ∧ ∀ b, v = .ref b → ∃ ob, s.heap.get? b = some ob ∧ ob.dict = none := fun {vs} e => by
    obtain ⟨a, xs, rfl, h1, h2⟩ := r.lstOf e rx
    cases rv
    obtain ⟨its, _, pl, _⟩ := I.list (by rw [wa.K]; exact h1)
    refine ⟨pl.isList.typeIs, ?_⟩
    obtain ⟨o, n, e1, c1, d1, _⟩ := pl
    exact isDict e1 d1 rfl
  have own : ∀ {p : Nat × List Val}, ownL M x = some p → s.TypeIs v "list" ∧ ∀ b, v = .ref b → ∃ ob, s.heap.get? b = some ob ∧ ob.dict = none := fun {p} e => by
    obtain ⟨a, _, e2, e3, _⟩ := ownL_ok r e rx
    subst e2
    exact lst (vs := p.2) (by simp [Mn.lstOf, e3])
  have dct : ∀ {p : Nat × List (Val × Val)}, ownD M x = some p → s.TypeIs v "dict" ∧ ∀ b, v = .ref b → ∃ ob, s.heap.get? b = some ob ∧ ob.dict = none := fun {p} e => by
    obtain ⟨a, rfl, e2, e3, e4⟩ := ownD_ok r e rx
    cases rv
    have ro := r.obj _ _ a e3 e4
    refine ⟨dct_type wa I ro, ?_⟩
    rcases ro with ⟨_, kk, g1, _⟩ | z
    · obtain ⟨_, _, _, _, o, _, _, g2, g3, _⟩ := I.hok a _ g1
      exact isDict g2 g3.2.1 rfl
    · obtain ⟨o, es, ep, xs, g1, g2, _⟩ := z.ob
      obtain ⟨g3, _, _⟩ := I.hok a _ g1
      exact isDict g3 g2.2.1 rfl
  cases m with
  | append => obtain ⟨p, e⟩ := Option.isSome_iff_exists.mp (show (ownL M x).isSome = true from h); exact own e
  | extend => obtain ⟨p, e⟩ := Option.isSome_iff_exists.mp (show (ownL M x).isSome = true from h); exact own e
  | pop => obtain ⟨p, e⟩ := Option.isSome_iff_exists.mp (show (ownL M x).isSome = true from h); exact own e
  | insert => obtain ⟨p, e⟩ := Option.isSome_iff_exists.mp (show (ownL M x).isSome = true from h); exact own e
  | count => obtain ⟨vs, e⟩ := Option.isSome_iff_exists.mp (show (lstOf M x).isSome = true from h); exact lst e
  | index => obtain ⟨vs, e⟩ := Option.isSome_iff_exists.mp (show (lstOf M x).isSome = true from h); exact lst e
  | get => obtain ⟨p, e⟩ := Option.isSome_iff_exists.mp (show (ownD M x).isSome = true from h); exact dct e
  | setdefault => obtain ⟨p, e⟩ := Option.isSome_iff_exists.mp (show (ownD M x).isSome = true from h); exact dct e
  | _ => cases h
end
end Mn
end -- Sd17
section -- Sd18
set_option linter.all false
set_option autoImplicit false
set_option maxRecDepth 100000
namespace Mn
open PySem L2
section
variable {W : Wo} {G : GT} {Γ : Gam} {k : Nat} {c : CC} {X : Cx} {rec : CC → Expr → Option E}
theorem bm_ok (ok : OkX W G Γ k c X) {m : Str} {b : BM} (h : bmOf m = some b) : ∃ id, PlainAttrs (bmTy b) ∧ Slot (bmTy b) m id ∧ typeOf (.builtin id) = pure (.type "method_descriptor") ∧ MtR X id (lM W (bmeth b)) := by
  have hu := ok.units
  have wa := ok.at_
  have q : (m, b) ∈ bmTab := PySem.mem_of_lookup h
  unfold bmTab at q
  rcases List.mem_cons.mp q with e | q
  · cases e; exact ⟨_, F.plainAttrs_list, F.slot_list_append, F.type_list_append, mt_append_ok wa⟩
  rcases List.mem_cons.mp q with e | q
  · cases e; exact ⟨_, F.plainAttrs_list, F.slot_list_pop, F.type_list_pop, mt_pop_ok wa⟩
  rcases List.mem_cons.mp q with e | q
  · cases e; exact ⟨_, F.plainAttrs_list, F.slot_list_insert, F.type_list_insert, mt_insert_ok wa⟩
  rcases List.mem_cons.mp q with e | q
  · cases e; exact ⟨_, F.plainAttrs_list, F.slot_list_count, F.type_list_count, mt_count_ok wa⟩
  rcases List.mem_cons.mp q with e | q
  · cases e; exact ⟨_, F.plainAttrs_dict, F.slot_dict_get, F.type_dict_get, mt_get_ok wa (by omega)⟩
  rcases List.mem_cons.mp q with e | q
  · cases e; exact ⟨_, F.plainAttrs_dict, F.slot_dict_setdefault, F.type_dict_setdefault, mt_setd_ok wa (by omega)⟩
  rcases List.mem_cons.mp q with e | q
  · cases e; exact ⟨_, F.plainAttrs_list, F.slot_list_extend, F.type_list_extend, mt_extend_ok wa⟩
  cases q
theorem c_bm (ok : OkX W G Γ k c X) (hr : RecOk W G Γ k rec) {o : Expr} {m : Str} {apos pos : Pos} {es : List Expr} {x : E} {xs : List E} {b : BM} (ho : PE X o (lE W (evE Γ x))) (h : recs rec c es = some xs) (hm : bmOf m = some b)
    (hb : isBare o = false) (hl : (apos.endLine == pos.line) = true) (hn : es.length < 28) : PE X (.Call (.Attribute o m apos) es [] pos) (lE W (evE Γ (.bmeth b x xs))) := by
  obtain ⟨_, hs, hp⟩ := recs_ok h
  obtain ⟨id, pa, slot, ty, mt⟩ := bm_ok ok hm
  have pl := pa_list ok hr hp hs
  refine ⟨fun pins s σ H Q I hw => ?_⟩
  obtain ⟨φ, M, ρ, v, M', r, re, e, q⟩ := hw
  obtain ⟨a, M1, e1, e2⟩ := Res.bind_ok (show (evE Γ x ρ M).bind (fun x M => if recvOk b M x then (evEs Γ xs ρ M).bind fun vs M => bmeth b x vs M else .stuck) = .ok v M' from e)
  split at e2
  · rename_i hv
    obtain ⟨vs, M2, e3, e4⟩ := Res.bind_ok e2
    refine wpAny_Call_method_late (base_of hb) ?_ hl rfl (thn (ho.run pins s σ H (fun u H1 => ∃ φ1, Ext W φ H φ1 H1 ∧ RM W φ1 M1 H1 ∧ RV W φ1 H1 a u) I ⟨φ, M, ρ, a, M1, r, re, e1, fun φ1 H1 u x1 r1 ru => ⟨φ1, x1, r1, ru⟩⟩) fun ov s1 ⟨u, H1, I1, ro, φ1, x1, r1, ru⟩ => ?_)
    · rw [star_all hs]
      show (true && true && decide (es.length + 0 + 0 < 30)) = true
      rw [decide_eq_true (by omega)]
      rfl
    · obtain ⟨t1, t2⟩ := recv_ok ok.at_ I1 r1 hv ru ro
      refine ⟨bmTy b, id, pa, slot, ty, t1, t2, ?_⟩
      have fin : ∀ us s2 xs' H2, Inv X pins σ H2 s2 → Vals xs' us → (∃ φ2, Ext W φ1 H1 φ2 H2 ∧ RM W φ2 M2 H2 ∧ RVs W φ2 H2 vs xs') → wpAny (model X.prog X.w) X.A (call (.builtin id) ([ov] ++ us)) (EP X pins σ Q) X.xe s2 := fun us s2 xs' H2 I2 rv ⟨φ2, x2, r2, rvs⟩ =>
        mt pins s2 σ H2 u xs' ov us Q I2 ro rv ⟨φ2, M2, a, vs, v, M', r2, ru.mono x2, rvs, e4, q.step (x1.trans x2)⟩
      have hA := pl.run pos pins s1 σ H1 (fun xs' H2 => ∃ φ2, Ext W φ1 H1 φ2 H2 ∧ RM W φ2 M2 H2 ∧ RVs W φ2 H2 vs xs') I1 ⟨φ1, M1, ρ, vs, M2, r1, re.mono x1, e3, fun φ2 H2 us x2 r2 rus => ⟨φ2, x2, r2, rus⟩⟩
      cases es with
      | nil =>
        cases hp
        cases e3
        exact Calls.callWith_builtin rfl (PySem.evalArgs_none (fin [] s1 [] H1 I1 .nil ⟨φ1, .refl, r1, .nil⟩))
      | cons e0 es =>
        rw [List.any_cons, Bool.or_eq_false_iff] at hs
        rw [star_cons hs.1] at hA ⊢
        refine Calls.callWith_builtin (by show (false || (backTo pos (starEach es X.env)).any (·.1)) = false; rw [star_any hs.2]; rfl) (Calls.evalArgs_plain ?_)
        exact thn hA fun us s2 ⟨xs', H2, I2, rv, z⟩ => fin us s2 xs' H2 I2 rv z
  · cases e2
/-! ### defs, classes, methods -/
theorem kw_names {env : PySem.Env} {pos : Pos} : ∀ {kws : List Keyword} {ks : List Str} {es : List Expr}, kwOf kws = some (ks, es) →
    (backToKw pos (keywordEach kws env)).all (·.1.isSome) = true ∧ (backToKw pos (keywordEach kws env)).filterMap (·.1) = ks ∧ (backToKw pos (keywordEach kws env)).any (·.1.isNone) = false
  | [], _, _, h => by cases h; exact ⟨rfl, rfl, rfl⟩
  | ⟨some x, e, p⟩ :: r, ks, es, h => by
    have h : (kwOf r).map (fun q => (x :: q.1, e :: q.2)) = some (ks, es) := h
    cases e1 : kwOf r with
    | none => rw [e1] at h; cases h
    | some q =>
      rw [e1] at h
      cases h
      obtain ⟨h1, h2, h3⟩ := kw_names (env := env) (pos := pos) e1
      refine ⟨?_, ?_, ?_⟩
      · show (true && (backToKw pos (keywordEach r env)).all (·.1.isSome)) = true
        rw [h1]; rfl
      · show x :: (backToKw pos (keywordEach r env)).filterMap (·.1) = _
        rw [h2]
      · show (false || (backToKw pos (keywordEach r env)).any (·.1.isNone)) = false
        rw [h3]; rfl
  | ⟨none, _, _⟩ :: _, _, _, h => by cases h
theorem pk_list (ok : OkX W G Γ k c X) (hr : RecOk W G Γ k rec) : ∀ {kws : List Keyword} {ks : List Str} {es : List Expr} {xs : List E}, kwOf kws = some (ks, es) → Paired (fun e x => rec c e = some x) es xs → PK X kws (lA W (evEs Γ xs)) ∧ ks.length = es.length
  | [], _, _, _, h, hp => by
    cases h
    cases hp
    refine ⟨⟨fun pos pins s σ H Q I hw => pk_nil.run pos pins s σ H Q I ?_⟩, rfl⟩
    obtain ⟨φ, M, ρ, vs, M', r, re, e, q⟩ := hw
    cases e
    exact q φ H [] .refl r .nil
  | ⟨some x, e, p⟩ :: r, ks, es, xs, h, hp => by
    have h : (kwOf r).map (fun q => (x :: q.1, e :: q.2)) = some (ks, es) := h
    cases e1 : kwOf r with
    | none => rw [e1] at h; cases h
    | some q =>
      rw [e1] at h
      cases h
      cases hp with
      | @cons _ y _ ys h1 h2 =>
        obtain ⟨g1, g2⟩ := pk_list ok hr e1 h2
        refine ⟨⟨fun pos pins s σ H Q I hw => (pk_cons (hr c X e y ok h1).1 g1).run pos pins s σ H Q I ?_⟩, by simp [g2]⟩
        obtain ⟨φ, M, ρ, vs, M', r, re, ev, q⟩ := hw
        obtain ⟨a, M1, h1, h2⟩ := Res.bind_ok (show (evE Γ y ρ M).bind (fun v M => (evEs Γ ys ρ M).bind fun vs M => .ok (v :: vs) M) = .ok vs M' from ev)
        obtain ⟨as, M2, h3, h4⟩ := Res.bind_ok h2
        cases h4
        exact ⟨φ, M, ρ, a, M1, r, re, h1, fun φ1 H1 u e1 r1 ru => ⟨φ1, M1, ρ, as, _, r1, re.mono e1, h3, fun φ2 H2 us e2 r2 rus => q φ2 H2 (u :: us) (e1.trans e2) r2 (.cons (ru.mono e2) rus)⟩⟩
  | ⟨none, _, _⟩ :: _, _, _, _, h, _ => by cases h
/-- what is called stands; the arguments are evaluated, then it runs -/
theorem with_run (ok : OkX W G Γ k c X) (hr : RecOk W G Γ k rec) {fv : Value} (hk : PySem.W.keepIn W.K fv = true) {args : List Expr} {kws : List Keyword} {as : List E} {p : List Str × List E} (ha : recs rec c args = some as) (hkw : cKw rec c kws = some p) {n : Nat}
    {g : List Val → List (Str × Val) → Mem → Res Val} (hc : CallOk W k fv n p.1 g) {pos : Pos} {pins : List (Addr × PySem.Obj)} {s : Shared} {σ : L2.St} {H : Hp} {φ : List Addr} {M : Mem} {ρ : Env} {Q : VK} {f0 : List Val} {x0 : List V} {u0 : List Value}
    (hn : n = f0.length + args.length) (I : Inv X pins σ H s) (r : RM W φ M H) (re : RE W φ H ρ σ) (r0 : RVs W φ H f0 x0) (v0 : Vals x0 u0) {v : Val} {M' : Mem}
    (e : ((evEs Γ as ρ M).bind fun vs M => (evEs Γ p.2 ρ M).bind fun ws M => g (f0 ++ vs) (p.1.zip ws) M) = .ok v M') (q : Kont W φ H v M' Q) :
    wpAny (model X.prog X.w) X.A (callWith pos fv u0 (backTo pos (starEach args X.env)) (backToKw pos (keywordEach kws X.env))) (EP X pins σ Q) X.xe s := by
  obtain ⟨_, hs, hp⟩ := recs_ok ha
  have pa := pa_list ok hr hp hs
  obtain ⟨q1, e1, h1⟩ : ∃ q1, kwOf kws = some q1 ∧ (recs rec c q1.2).map (fun es => (q1.1, es)) = some p := by
    unfold cKw at hkw
    cases z : kwOf kws with
    | none => rw [z] at hkw; cases hkw
    | some q1 => rw [z] at hkw; exact ⟨q1, rfl, hkw⟩
  obtain ⟨ks, es⟩ := q1
  cases e2 : recs rec c es with
  | none => simp only [e2] at h1; cases h1
  | some ys =>
    simp only [e2] at h1
    cases h1
    obtain ⟨_, _, hp2⟩ := recs_ok e2
    obtain ⟨pk, kl⟩ := pk_list ok hr e1 hp2
    obtain ⟨k1, k2, k3⟩ := kw_names (env := X.env) (pos := pos) e1
    obtain ⟨vs, M1, e3, e4⟩ := Res.bind_ok e
    obtain ⟨ws, M2, e5, e6⟩ := Res.bind_ok e4
    have hl1 : vs.length = args.length := by rw [evEs_len e3, ← Paired.length hp]
    have hl2 : ws.length = ks.length := by rw [evEs_len e5, ← Paired.length hp2, kl]
    have fin : ∀ us s2 xs H1, Inv X pins σ H1 s2 → Vals xs us → (∃ φ1, Ext W φ H φ1 H1 ∧ RM W φ1 M1 H1 ∧ RVs W φ1 H1 vs xs) →
        wpAny (model X.prog X.w) X.A (evalAll ((backToKw pos (keywordEach kws X.env)).map (·.2))) (fun zs s3 => X.K.In s3.heap ∧ wpAny (model X.prog X.w) X.A (call fv (u0 ++ us) (((backToKw pos (keywordEach kws X.env)).filterMap (·.1)).zip zs)) (EP X pins σ Q) X.xe s3) X.xe s2 := fun us s2 xs H1 I1 rv ⟨φ1, x1, r1, rvs⟩ => by
      refine thn (pk.run pos pins s2 σ H1 (fun ys H2 => ∃ φ2, Ext W φ1 H1 φ2 H2 ∧ RM W φ2 M2 H2 ∧ RVs W φ2 H2 ws ys) I1 ⟨φ1, M1, ρ, ws, M2, r1, re.mono x1, e5, fun φ2 H2 zs x2 r2 rz => ⟨φ2, x2, r2, rz⟩⟩) fun zs s3 ⟨ys', H2, I2, rz, φ2, x2, r2, rws⟩ => ⟨I2.kIn, ?_⟩
      rw [k2]
      exact hc X ok.at_ ok.room ok.grd pins σ s3 H2 φ2 M2 (f0 ++ vs) ws (x0 ++ xs) ys' (u0 ++ us) zs v M' Q I2 r2 (by rw [List.length_append, hl1, hn]) hl2 ((r0.mono (x1.trans x2)).append (rvs.mono x2)) rws (v0.append rv) rz e6 (q.step (x1.trans x2))
    have hA := pa.run pos pins s σ H (fun xs H1 => ∃ φ1, Ext W φ H φ1 H1 ∧ RM W φ1 M1 H1 ∧ RVs W φ1 H1 vs xs) I ⟨φ, M, ρ, vs, M1, r, re, e3, fun φ1 H1 us x1 r1 rus => ⟨φ1, x1, r1, rus⟩⟩
    have hk' : PySem.W.keepIn X.K fv = true := by rw [ok.at_.K]; exact hk
    cases args with
    | nil =>
      cases hp
      cases e3
      refine PySem.W.callWith_KW0 (h₀ := X.base) I.ok.mod.kin hk' k1 (fin [] s [] H I .nil ⟨φ, .refl, r, .nil⟩) ?_
      show (false || (backToKw pos (keywordEach kws X.env)).any (·.1.isNone)) = false
      rw [k3]; rfl
    | cons a args =>
      have hs2 := hs
      rw [List.any_cons, Bool.or_eq_false_iff] at hs2
      refine PySem.W.callWith_KW (h₀ := X.base) I.ok.mod.kin hk' k1 (thn hA fun us s2 ⟨xs, H1, I1, rv, z⟩ => fin us s2 xs H1 I1 rv z) ?_ (star_cons hs2.1)
      rw [star_any hs, k3]; rfl
theorem c_call (ok : OkX W G Γ k c X) (hr : RecOk W G Γ k rec) {f : Str} {p pos : Pos} {args : List Expr} {kws : List Keyword} {x : E} (h : cCall G rec c f args kws = some x) : PE X (.Call (.Name f p) args kws pos) (lE W (evE Γ x)) := by
  have un : ∀ {mk : List E → List Str → List E → E} {sg : Str → Nat → List Str → Bool}, ((recs rec c args).bind fun as => (cKw rec c kws).bind fun p => if glB c.sc f && okN f && sg f args.length p.1 then some (mk as p.1 p.2) else none) = some x →
      ∃ as q, recs rec c args = some as ∧ cKw rec c kws = some q ∧ glB c.sc f = true ∧ okN f = true ∧ sg f args.length q.1 = true ∧ x = mk as q.1 q.2 := fun {mk sg} h => by
    cases e1 : recs rec c args with
    | none => rw [e1] at h; cases h
    | some as =>
      rw [e1] at h
      cases e2 : cKw rec c kws with
      | none => rw [e2] at h; cases h
      | some q =>
        rw [e2] at h
        have h : (if glB c.sc f && okN f && sg f args.length q.1 then some (mk as q.1 q.2) else none) = some x := h
        split at h
        · rename_i hc
          simp only [Bool.and_eq_true] at hc
          cases h
          exact ⟨as, q, rfl, rfl, hc.1.1, hc.1.2, hc.2, rfl⟩
        · cases h
  unfold cCall at h
  split at h
  · obtain ⟨as, q, e1, e2, g1, g2, g3, rfl⟩ := un (sg := cSig G) h
    obtain ⟨fa, f1, f2, f3⟩ := ok.facts.call f _ _ g3
    refine ⟨fun pins s σ H Q I hw => ?_⟩
    obtain ⟨φ, M, ρ, v, M', r, re, ev, kq⟩ := hw
    exact wpAny_Call_Name_kw (ld_glob I (glB_gl ok.sc g1) (by rw [ok.at_.mg]; exact f1) (with_run ok hr f2 e1 e2 f3 (f0 := []) (by simp) I r re .nil .nil ev kq) (okN_d g2).1)
  · obtain ⟨as, q, e1, e2, g1, g2, g3, rfl⟩ := un (sg := cSigC G) h
    obtain ⟨fa, f1, f2, f3⟩ := ok.facts.make f _ _ g3
    refine ⟨fun pins s σ H Q I hw => ?_⟩
    obtain ⟨φ, M, ρ, v, M', r, re, ev, kq⟩ := hw
    exact wpAny_Call_Name_kw (ld_glob I (glB_gl ok.sc g1) (by rw [ok.at_.mg]; exact f1) (with_run ok hr f2 e1 e2 f3 (f0 := []) (by simp) I r re .nil .nil ev kq) (okN_d g2).1)
  · cases h
theorem ins_look {φ : List Addr} {H : Hp} {fs : List (Str × Val)} {us : List (Str × V)} (r : RFs W φ H fs us) {m : Str} (h : fs.lookup m = none) : us.lookup m = none := by
  induction r with
  | nil => rfl
  | @cons p q ps qs hh hs ih =>
    obtain ⟨p1, p2⟩ := p
    obtain ⟨q1, q2⟩ := q
    obtain ⟨h1, h2⟩ := hh
    dsimp only at h1
    subst h1
    rw [List.lookup_cons] at h ⊢
    cases z : m == p1 with
    | true => rw [z] at h; cases h
    | false => rw [z] at h; exact ih h
theorem call_tree {o : Expr} {m : Str} {apos pos : Pos} {args : List Expr} {kws : List Keyword} {env : PySem.Env} (hb : isBare o = false) (hl : (apos.endLine == pos.line) = true) (hs : args.any isStar = false) (hk : (backToKw pos (keywordEach kws env)).all (·.1.isSome) = true) (hn : args.length + kws.length < 28) :
    eval (.Call (.Attribute o m apos) args kws pos) env = (do
      let ov ← eval o env
      standAt apos.atName
      let (f, first) ← holding [ov] (getMethod ov m (do return (← importBound o env).getD true))
      callWith pos f first (backTo pos (starEach args env)) (backToKw pos (keywordEach kws env))) := by
  have form : methodCallForm (args.length + kws.length) (backTo pos (starEach args env)) (backToKw pos (keywordEach kws env)) = true := by
    unfold methodCallForm
    rw [star_all hs, hk]
    simp only [Bool.true_and, Bool.and_true, decide_eq_true_eq]
    split <;> omega
  rw [arm_eval_Call, base_of hb]
  congr 1
  funext ov
  congr 1
  funext _
  unfold methodCall calleeOf methodCallPos
  rw [form]
  simp only [Bool.not_true, Bool.false_or, hl, if_true]
  rfl
theorem c_um (ok : OkX W G Γ k c X) (hr : RecOk W G Γ k rec) {o : Expr} {m C : Str} {apos pos : Pos} {args : List Expr} {kws : List Keyword} {x : E} {as : List E} {p : List Str × List E} (ho : PE X o (lE W (evE Γ x))) (ha : recs rec c args = some as) (hkw : cKw rec c kws = some p)
    (hsig : cSigM G C m args.length p.1 = true) (hb : isBare o = false) (hl : (apos.endLine == pos.line) = true) (hn : args.length + kws.length < 28) :
    PE X (.Call (.Attribute o m apos) args kws pos) (lE W (evE Γ (.meth C m x as p.1 p.2))) := by
  obtain ⟨Ca, ga, f1, f2, f3, f4⟩ := ok.facts.meth C m _ _ hsig
  obtain ⟨_, hs, _⟩ := recs_ok ha
  have hks : ∃ es, kwOf kws = some (p.1, es) := by
    unfold cKw at hkw
    cases z : kwOf kws with
    | none => rw [z] at hkw; cases hkw
    | some q1 =>
      rw [z] at hkw
      have hkw : (recs rec c q1.2).map (fun es => (q1.1, es)) = some p := hkw
      cases z2 : recs rec c q1.2 with
      | none => rw [z2] at hkw; cases hkw
      | some ys => rw [z2] at hkw; cases hkw; exact ⟨q1.2, rfl⟩
  obtain ⟨es, hks⟩ := hks
  refine ⟨fun pins s σ H Q I hw => ?_⟩
  obtain ⟨φ, M, ρ, v, M', r, re, e, q⟩ := hw
  obtain ⟨a, M1, e1, e2⟩ := Res.bind_ok (show (evE Γ x ρ M).bind (fun x M => match x with
    | .ref n => match M[n]? with
      | some (.ins D fs) => if D = C ∧ fs.lookup m = none then (evEs Γ as ρ M).bind fun vs M => (evEs Γ p.2 ρ M).bind fun ws M => Γ.call (C ++ Str.ofString "." ++ m) (.ref n :: vs) (p.1.zip ws) M else .stuck
      | _ => .stuck
    | _ => .stuck) = .ok v M' from e)
  refine PySem.W.methodCall_KW (thn (ho.run pins s σ H (fun u H1 => ∃ φ1, Ext W φ H φ1 H1 ∧ RM W φ1 M1 H1 ∧ RV W φ1 H1 a u) I ⟨φ, M, ρ, a, M1, r, re, e1, fun φ1 H1 u x1 r1 ru => ⟨φ1, x1, r1, ru⟩⟩) fun ov s1 ⟨u, H1, I1, ro, φ1, x1, r1, ru⟩ => ?_) (call_tree hb hl hs (kw_names hks).1 hn)
  cases ru with
  | @ref n ad hn' =>
    dsimp only at e2
    split at e2
    · rename_i D fs em
      split at e2
      · rename_i hD
        obtain ⟨hD, hf⟩ := hD
        subst hD
        cases ro
        obtain ⟨Cb, dx, us, g1, g2, g3⟩ := r1.obj n _ ad em hn'
        have ec : Cb = Ca := by rw [g1] at f1; cases f1; rfl
        subst ec
        refine getmeth_ok I1 g2 (by rw [ok.at_.K]; exact f2) (by rw [ok.at_.K]; exact f3) (ins_look g3 hf) ?_
        exact with_run ok hr f3.kp ha hkw f4 (f0 := [.ref n]) (by simp; omega) I1 r1 (re.mono x1) (.cons (.ref hn') .nil) (.cons rfl .nil) e2 (q.step x1)
      · cases e2
    · cases e2
  | _ => cases e2
end
end Mn
end -- Sd18
section -- Sd19
set_option linter.all false
set_option autoImplicit false
set_option maxRecDepth 100000
namespace Mn
open PySem L2
/-- J walks what src tells -/
structure WalksS (W : Wo) (src : Src) (len : Nat) (J : It) (φ0 : List Addr) (H0 : Hp) : Prop where
  go : ∀ i φ H M v, Ext W φ0 H0 φ H → RM W φ M H → i < len → src.at M len i = some v → J.go i H ∧ ∀ x H2, J.yld i H x H2 → Ext W φ H φ H2 ∧ RM W φ M H2 ∧ RV W φ H2 v x
  stop : ∀ φ H M, Ext W φ0 H0 φ H → RM W φ M H → src.len M = some len → J.stop len H
def lI (W : Wo) (k : IK) (f : Env → Mem → Res (List Val)) : TI := fun σ H R => ∃ φ M ρ vs M' src len, RM W φ M H ∧ RE W φ H ρ σ ∧ f ρ M = .ok vs M' ∧ srcOf k vs M' = some src ∧ src.len M' = some len ∧
  ∀ φ' H' J, Ext W φ H φ' H' → RM W φ' M' H' → WalksS W src len J φ' H' → R J H'
section
variable {W : Wo} {φ φ' : List Addr} {H H' : Hp} {M : Mem}
theorem Sq.get_mu {n : Nat} {vs : List Val} (h : (Sq.mu n).get M = some vs) : M[n]? = some (.lst vs) ∨ M[n]? = some (.rol vs) := by
  have h : (match M[n]? with | some (.lst vs) => some vs | some (.rol vs) => some vs | _ => none) = some vs := h
  split at h
  · rename_i e; cases h; exact .inl e
  · rename_i e; cases h; exact .inr e
  · cases h
theorem sqOf_ref {n : Nat} {s : Sq} (h : sqOf M (.ref n) = some s) : s = .mu n ∧ ∃ vs, M[n]? = some (.lst vs) ∨ M[n]? = some (.rol vs) := by
  have h : (match M[n]? with | some (.lst _) => some (Sq.mu n) | some (.rol _) => some (.mu n) | _ => none) = some s := h
  split at h
  · rename_i vs e; cases h; exact ⟨rfl, vs, .inl e⟩
  · rename_i vs e; cases h; exact ⟨rfl, vs, .inr e⟩
  · cases h
theorem get_bind {o : Option (List Val)} {i : Nat} {v : Val} (h : o.bind (·[i]?) = some v) : ∃ vs, o = some vs ∧ vs[i]? = some v := by
  cases o with
  | none => cases h
  | some vs => exact ⟨vs, rfl, h⟩
theorem at_im {vs : List Val} {len i : Nat} {v : Val} (h : (Src.sq (.im vs)).at M len i = some v) : vs[i]? = some v := h
theorem at_rim {vs : List Val} {len i : Nat} {v : Val} (h : (Src.rev (.im vs)).at M len i = some v) : vs[len - 1 - i]? = some v := h
theorem map_len {o : Option (List Val)} {n : Nat} (h : o.map (·.length) = some n) : ∃ vs, o = some vs ∧ vs.length = n := by
  cases o with
  | none => cases h
  | some vs => cases h; exact ⟨vs, rfl, rfl⟩
theorem yes (r : RM W φ M H) {x : V} {v : Val} (h : RV W φ H v x) : Ext W φ H φ H ∧ RM W φ M H ∧ RV W φ H v x := ⟨.refl, r, h⟩
/-- a new tuple comes -/
theorem aside_tup (r : RM W φ M H) {p : Addr} {xs : List V} {vs : List Val} (hp : H p = none) (h : RVs W φ H vs xs) : Ext W φ H φ (upd H p (.tup xs)) ∧ RM W φ M (upd H p (.tup xs)) ∧ RV W φ (upd H p (.tup xs)) (.tup vs) (.ref p) :=
  ⟨Ext.upd (.inl hp), r.aside (.inl hp) (r.out hp), .tup (.of upd_same) (h.mono (Ext.upd (.inl hp)))⟩
theorem walk_list {n len : Nat} {a : Addr} (ha : φ[n]? = some a) : WalksS W (.sq (.mu n)) len (Itl W.K a) φ H := by
  refine ⟨fun i φ' H' M' v ex r _ hv => ?_, fun φ' H' M' ex r hl => ?_⟩
  · obtain ⟨vs, e1, e2⟩ := get_bind hv
    obtain ⟨xs, h1, h2⟩ := r.seqL (Sq.get_mu e1) (ex.pre n a ha)
    obtain ⟨u, e3, h3⟩ := h2.get e2
    refine ⟨⟨xs, u, h1, e3⟩, fun x H2 ⟨z, y⟩ => ?_⟩
    subst z
    have e4 := y xs h1
    rw [e3] at e4; cases e4
    exact yes r h3
  · obtain ⟨vs, e1, e2⟩ := map_len hl
    obtain ⟨xs, h1, h2⟩ := r.seqL (Sq.get_mu e1) (ex.pre n a ha)
    exact ⟨xs, h1, by rw [← h2.length, e2]; exact Nat.le_refl _⟩
theorem walk_tup {vs : List Val} {len : Nat} {a : Addr} {xs : List V} (ht : SqT W.K H a xs) (hv : RVs W φ H vs xs) (hlen : vs.length = len) : WalksS W (.sq (.im vs)) len (Itt W.K a) φ H := by
  subst hlen
  refine ⟨fun i φ' H' M' v ex r hlt hi => ?_, fun φ' H' M' ex r hl => ?_⟩
  · obtain ⟨u, e3, h3⟩ := (hv.mono ex).get (at_im hi)
    refine ⟨⟨xs, u, ex.tk _ _ ht, e3⟩, fun x H2 ⟨z, y⟩ => ?_⟩
    subst z
    have e4 := y xs (ex.tk _ _ ht)
    rw [e3] at e4; cases e4
    exact yes r h3
  · exact ⟨xs, ex.tk _ _ ht, by rw [← hv.length]; exact Nat.le_refl _⟩
/-- a walk whose items are known values, the store untouched -/
theorem walk_im {vs : List Val} {J : It} (hgo : ∀ i H, i < vs.length → J.go i H) (hy : ∀ i H x H2 v, vs[i]? = some v → J.yld i H x H2 → H2 = H ∧ ∀ φ, RV W φ H v x) (hs : ∀ H, J.stop vs.length H) {len : Nat} (hlen : vs.length = len) : WalksS W (.sq (.im vs)) len J φ H := by
  subst hlen
  refine ⟨fun i φ' H' M' v ex r hlt hi => ⟨hgo i H' hlt, fun x H2 y => ?_⟩, fun φ' H' M' ex r hl => hs H'⟩
  obtain ⟨rfl, h⟩ := hy i H' x H2 v (at_im hi) y
  exact yes r (h φ')
theorem irange_get {n i : Nat} {lo : Int} {v : Val} (h : (irange lo n)[i]? = some v) : v = .int (lo + (i : Nat)) ∧ i < n := by
  rw [irange_eq, List.getElem?_map] at h
  by_cases hi : i < n
  · rw [List.getElem?_range hi] at h; cases h; exact ⟨rfl, hi⟩
  · rw [List.getElem?_eq_none (by simp; omega)] at h; cases h
theorem walk_range {lo : Int} {n : Nat} : WalksS W (.sq (.im (irange lo n))) n (Itr lo n) φ H := by
  refine walk_im (J := Itr lo n) (fun i H' h => ?_) (fun i H' x H2 v e ⟨y1, y2⟩ => ⟨y1, fun φ => ?_⟩) (fun H' => ?_) (irange_len n lo)
  · rw [irange_len] at h; exact h
  · obtain ⟨rfl, _⟩ := irange_get e
    subst y2
    exact .int _
  · rw [irange_len]; exact Nat.le_refl _
theorem irangeC_eq : ∀ (n : Nat) (lo d : Int), irangeC lo d n = (List.range n).map fun i => Val.int (lo + (i : Nat) * d)
  | 0, _, _ => rfl
  | n + 1, lo, d => by
    rw [List.range_succ_eq_map, List.map_cons, List.map_map]
    show Val.int lo :: irangeC (lo + d) d n = _
    rw [irangeC_eq n (lo + d)]
    congr 1
    · simp
    · apply List.map_congr_left
      intro i _
      show Val.int (lo + d + (i : Nat) * d) = Val.int (lo + ((i + 1 : Nat) : Int) * d)
      congr 1
      have e : ((i + 1 : Nat) : Int) = (i : Int) + 1 := by omega
      rw [e, Int.add_mul]
      omega
theorem walk_rangeC {lo d : Int} {n : Nat} : WalksS W (.sq (.im (irangeC lo d n))) n (Itc lo d n) φ H := by
  have hl : (irangeC lo d n).length = n := by rw [irangeC_eq]; simp
  refine walk_im (J := Itc lo d n) (fun i H' h => ?_) (fun i H' x H2 v e ⟨y1, y2⟩ => ⟨y1, fun φ => ?_⟩) (fun H' => ?_) hl
  · rw [hl] at h; exact h
  · rw [irangeC_eq, List.getElem?_map] at e
    by_cases hi : i < n
    · rw [List.getElem?_range hi] at e; cases e; subst y2; exact .int _
    · rw [List.getElem?_eq_none (by simp; omega)] at e; cases e
  · rw [hl]; exact Nat.le_refl _
theorem walk_str {z : Str} : WalksS W (.sq (.im (z.cps.toList.map fun c => .str ⟨#[c]⟩))) z.cps.size (Its z) φ H := by
  refine walk_im (J := Its z) (fun i H' h => ?_) (fun i H' x H2 v e ⟨y1, d, y2, y3⟩ => ⟨y1, fun φ => ?_⟩) (fun H' => ?_) (by simp)
  · show i < z.cps.size
    simpa using h
  · subst y3
    rw [List.getElem?_map, Array.getElem?_toList, y2] at e
    cases e
    exact .str _
  · show z.cps.size ≤ (z.cps.toList.map fun c => Val.str ⟨#[c]⟩).length
    simp
theorem walk_revL {n len : Nat} {a : Addr} (ha : φ[n]? = some a) : WalksS W (.rev (.mu n)) len (Itv W.K a len) φ H := by
  refine ⟨fun i φ' H' M' v ex r hlt hv => ?_, fun φ' H' M' ex r hl => Nat.le_refl _⟩
  obtain ⟨vs, e1, e2⟩ := get_bind hv
  obtain ⟨xs, h1, h2⟩ := r.seqL (Sq.get_mu e1) (ex.pre n a ha)
  obtain ⟨u, e3, h3⟩ := h2.get e2
  refine ⟨⟨hlt, xs, u, h1, e3⟩, fun x H2 ⟨z, y⟩ => ?_⟩
  subst z
  have e4 := y xs h1
  rw [e3] at e4; cases e4
  exact yes r h3
theorem walk_revT {vs : List Val} {len : Nat} {a : Addr} {xs : List V} (ht : SqT W.K H a xs) (hv : RVs W φ H vs xs) : WalksS W (.rev (.im vs)) len (RT.ItvT W.K a len) φ H := by
  refine ⟨fun i φ' H' M' v ex r hlt hi => ?_, fun φ' H' M' ex r hl => Nat.le_refl _⟩
  obtain ⟨u, e3, h3⟩ := (hv.mono ex).get (at_rim hi)
  refine ⟨⟨hlt, xs, u, ex.tk _ _ ht, e3⟩, fun x H2 ⟨z, y⟩ => ?_⟩
  subst z
  have e4 := y xs (ex.tk _ _ ht)
  rw [e3] at e4; cases e4
  exact yes r h3
theorem walk_revR {a : Int} {n : Nat} : WalksS W (.rev (.im (irange a n))) n (Itc (a + (n : Nat) - 1) (-1) n) φ H := by
  refine ⟨fun i φ' H' M' v ex r hlt hi => ⟨hlt, fun x H2 ⟨z, y⟩ => ?_⟩, fun φ' H' M' ex r hl => Nat.le_refl _⟩
  subst z
  subst y
  obtain ⟨rfl, _⟩ := irange_get (at_rim hi)
  have e : a + ((n - 1 - i : Nat) : Int) = a + (n : Nat) - 1 + (i : Nat) * (-1) := by omega
  rw [e]
  exact yes r (.int _)
theorem walk_enL {n len : Nat} {a : Addr} (ha : φ[n]? = some a) : WalksS W (.enum (.mu n)) len (Ite W.K a) φ H := by
  refine ⟨fun i φ' H' M' v ex r _ hv => ?_, fun φ' H' M' ex r hl => ?_⟩
  · cases e0 : ((Sq.mu n).get M').bind (·[i]?) with
    | none => simp only [Src.at, e0] at hv; cases hv
    | some w =>
      simp only [Src.at, e0] at hv
      cases hv
      obtain ⟨vs, e1, e2⟩ := get_bind e0
      obtain ⟨xs, h1, h2⟩ := r.seqL (Sq.get_mu e1) (ex.pre n a ha)
      obtain ⟨u, e3, h3⟩ := h2.get e2
      refine ⟨⟨xs, u, h1, e3⟩, fun x H2 ⟨p, y, ex2, hp, z, hy⟩ => ?_⟩
      subst ex2; subst z
      have e4 := hy xs h1
      rw [e3] at e4; cases e4
      exact aside_tup r hp (.cons (.int _) (.cons h3 .nil))
  · obtain ⟨vs, e1, e2⟩ := map_len hl
    obtain ⟨xs, h1, h2⟩ := r.seqL (Sq.get_mu e1) (ex.pre n a ha)
    exact ⟨xs, h1, by rw [← h2.length, e2]; exact Nat.le_refl _⟩
theorem walk_enT {vs : List Val} {len : Nat} {a : Addr} {xs : List V} (ht : SqT W.K H a xs) (hv : RVs W φ H vs xs) (hlen : vs.length = len) : WalksS W (.enum (.im vs)) len (Iet W.K a) φ H := by
  subst hlen
  refine ⟨fun i φ' H' M' v ex r _ hv' => ?_, fun φ' H' M' ex r hl => ⟨xs, ex.tk _ _ ht, by rw [← hv.length]⟩⟩
  cases e0 : ((Sq.im vs).get M').bind (·[i]?) with
  | none => simp only [Src.at, e0] at hv'; cases hv'
  | some w =>
    simp only [Src.at, e0] at hv'
    cases hv'
    obtain ⟨ws, e1, e2⟩ := get_bind e0
    cases e1
    obtain ⟨u, e3, h3⟩ := (hv.mono ex).get e2
    refine ⟨⟨xs, u, ex.tk _ _ ht, e3⟩, fun x H2 ⟨p, y, ex2, hp, z, hy⟩ => ?_⟩
    subst ex2; subst z
    have e4 := hy xs (ex.tk _ _ ht)
    rw [e3] at e4; cases e4
    exact aside_tup r hp (.cons (.int _) (.cons h3 .nil))
theorem at_zip {s t : Sq} {len i : Nat} {v : Val} (h : (Src.zip s t).at M len i = some v) : ∃ vs ws a b, s.get M = some vs ∧ t.get M = some ws ∧ vs[i]? = some a ∧ ws[i]? = some b ∧ v = .tup [a, b] := by
  have h : (match (s.get M).bind (·[i]?), (t.get M).bind (·[i]?) with | some a, some b => some (Val.tup [a, b]) | _, _ => none) = some v := h
  split at h
  · rename_i a b h1 h2
    obtain ⟨vs, g1, g2⟩ := get_bind h1
    obtain ⟨ws, g3, g4⟩ := get_bind h2
    cases h
    exact ⟨vs, ws, a, b, g1, g3, g2, g4, rfl⟩
  · cases h
theorem len_zip {s t : Sq} {len : Nat} (h : (Src.zip s t).len M = some len) : ∃ vs ws, s.get M = some vs ∧ t.get M = some ws ∧ vs.length = len ∧ ws.length = len := by
  have h : (match s.get M, t.get M with | some a, some b => if a.length = b.length then some a.length else none | _, _ => none) = some len := h
  split at h
  · rename_i a b h1 h2
    split at h
    · rename_i e
      cases h
      exact ⟨a, b, h1, h2, rfl, e.symm⟩
    · cases h
  · cases h
theorem walk_zipL {n m len : Nat} {a b : Addr} (ha : φ[n]? = some a) (hb : φ[m]? = some b) : WalksS W (.zip (.mu n) (.mu m)) len (Itz W.K a b) φ H := by
  refine ⟨fun i φ' H' M' v ex r _ hv => ?_, fun φ' H' M' ex r hl => ?_⟩
  · obtain ⟨vs, ws, p, q, g1, g2, g3, g4, rfl⟩ := at_zip hv
    obtain ⟨xs, h1, h2⟩ := r.seqL (Sq.get_mu g1) (ex.pre n a ha)
    obtain ⟨ys, h3, h4⟩ := r.seqL (Sq.get_mu g2) (ex.pre m b hb)
    obtain ⟨u, e3, r3⟩ := h2.get g3
    obtain ⟨w, e4, r4⟩ := h4.get g4
    refine ⟨⟨xs, ys, u, w, h1, h3, e3, e4⟩, fun x H2 ⟨t, y, z, ex2, ht, zz, hy, hz⟩ => ?_⟩
    subst ex2; subst zz
    have q1 := hy xs h1
    have q2 := hz ys h3
    rw [e3] at q1; cases q1
    rw [e4] at q2; cases q2
    exact aside_tup r ht (.cons r3 (.cons r4 .nil))
  · obtain ⟨vs, ws, g1, g2, g3, g4⟩ := len_zip hl
    obtain ⟨xs, h1, h2⟩ := r.seqL (Sq.get_mu g1) (ex.pre n a ha)
    obtain ⟨ys, h3, h4⟩ := r.seqL (Sq.get_mu g2) (ex.pre m b hb)
    exact ⟨xs, ys, h1, h3, .inl (by rw [← h2.length, g3]; exact Nat.le_refl _)⟩
theorem walk_zipT {vs ws : List Val} {len : Nat} {a b : Addr} {xs ys : List V} (ha : SqT W.K H a xs) (hva : RVs W φ H vs xs) (hb : SqT W.K H b ys) (hvb : RVs W φ H ws ys) : WalksS W (.zip (.im vs) (.im ws)) len (RZ.ItzT W.K a b) φ H := by
  refine ⟨fun i φ' H' M' v ex r _ hv => ?_, fun φ' H' M' ex r hl => ?_⟩
  · obtain ⟨vs', ws', p, q, g1, g2, g3, g4, rfl⟩ := at_zip hv
    cases g1
    cases g2
    obtain ⟨u, e3, r3⟩ := (hva.mono ex).get g3
    obtain ⟨w, e4, r4⟩ := (hvb.mono ex).get g4
    have h1 := ex.tk _ _ ha
    have h3 := ex.tk _ _ hb
    refine ⟨⟨xs, ys, u, w, h1, h3, e3, e4⟩, fun x H2 ⟨t, y, z, ex2, ht, zz, hy, hz⟩ => ?_⟩
    subst ex2; subst zz
    have q1 := hy xs h1
    have q2 := hz ys h3
    rw [e3] at q1; cases q1
    rw [e4] at q2; cases q2
    exact aside_tup r ht (.cons r3 (.cons r4 .nil))
  · obtain ⟨vs', ws', g1, g2, g3, g4⟩ := len_zip hl
    cases g1
    cases g2
    exact ⟨xs, ys, ex.tk _ _ ha, ex.tk _ _ hb, .inl (by rw [← hva.length, g3]; exact Nat.le_refl _)⟩
end
end Mn
end -- Sd19
section -- Sd20
set_option linter.all false
set_option autoImplicit false
set_option maxRecDepth 100000
namespace Mn
open PySem L2
section
variable {W : Wo} {G : GT} {Γ : Gam} {k : Nat} {c : CC} {X : Cx} {rec : CC → Expr → Option E}
theorem ev_one {x : E} {ρ : Env} {M M' : Mem} {vs : List Val} (h : evEs Γ [x] ρ M = .ok vs M') : ∃ v, vs = [v] ∧ evE Γ x ρ M = .ok v M' := by
  obtain ⟨v, M1, e1, e2⟩ := Res.bind_ok (show (evE Γ x ρ M).bind (fun v M => (evEs Γ [] ρ M).bind fun vs M => .ok (v :: vs) M) = .ok vs M' from h)
  cases e2
  exact ⟨v, rfl, e1⟩
theorem src_ex {v : Val} {M : Mem} {src : Src} (h : srcOf .ex [v] M = some src) : (∃ s, v = .str s ∧ src = .sq (.im (s.cps.toList.map fun c => .str ⟨#[c]⟩))) ∨ (∃ vs, v = .tup vs ∧ src = .sq (.im vs)) ∨ ∃ n, v = .ref n ∧ src = .sq (.mu n) ∧ ∃ vs, M[n]? = some (.lst vs) ∨ M[n]? = some (.rol vs) := by
  cases v with
  | str s => cases h; exact .inl ⟨s, rfl, rfl⟩
  | tup vs => cases h; exact .inr (.inl ⟨vs, rfl, rfl⟩)
  | ref n =>
    have h : (sqOf M (.ref n)).map Src.sq = some src := h
    cases e : sqOf M (.ref n) with
    | none => rw [e] at h; cases h
    | some s =>
      rw [e] at h
      cases h
      obtain ⟨rfl, z⟩ := sqOf_ref e
      exact .inr (.inr ⟨n, rfl, rfl, z⟩)
  | _ => cases h
theorem pi_ex (ok : OkX W G Γ k c X) {tg e : Expr} {x : E} (he : PE X e (lE W (evE Γ x))) : PI X tg e (lI W .ex (evEs Γ [x])) := by
  refine ⟨fun pins s σ H R I hw => ?_⟩
  obtain ⟨φ, M, ρ, vs, M', src, len, r, re, ev, hs, hl, q⟩ := hw
  obtain ⟨v, rfl, e1⟩ := ev_one ev
  rcases src_ex hs with ⟨z, rfl, rfl⟩ | ⟨ws, rfl, rfl⟩ | ⟨n, rfl, rfl, ws, em⟩
  · have hl : some (z.cps.toList.map fun c => Val.str ⟨#[c]⟩).length = some len := hl
    have el : z.cps.size = len := by simpa using hl
    subst el
    exact (pi_str he).run pins s σ H R I ⟨φ, M, ρ, _, M', r, re, e1, fun φ1 H1 u x1 r1 ru => by cases ru; exact ⟨z, rfl, q φ1 H1 _ x1 r1 walk_str⟩⟩
  · have el : ws.length = len := by have hl : some ws.length = some len := hl; cases hl; rfl
    refine (pi_tup he).run pins s σ H R I ⟨φ, M, ρ, _, M', r, re, e1, fun φ1 H1 u x1 r1 ru => ?_⟩
    cases ru with
    | tup h1 h2 => exact ⟨_, rfl, ⟨_, by rw [ok.at_.K]; exact h1⟩, by rw [ok.at_.K]; exact q φ1 H1 _ x1 r1 (walk_tup h1 h2 el)⟩
  · refine (pi_list he).run pins s σ H R I ⟨φ, M, ρ, _, M', r, re, e1, fun φ1 H1 u x1 r1 ru => ?_⟩
    cases ru with
    | ref hn =>
      obtain ⟨xs, h1, _⟩ := r1.seqL em hn
      exact ⟨_, rfl, ⟨xs, by rw [ok.at_.K]; exact h1⟩, by rw [ok.at_.K]; exact q φ1 H1 _ x1 r1 (walk_list hn)⟩
theorem range_all {vs l : List Val} (h : rangeOf vs = some l) : (∃ j, vs = [.int j] ∧ smallI j = true ∧ l = irange 0 j.toNat) ∨ (∃ i j, vs = [.int i, .int j] ∧ smallI i = true ∧ smallI j = true ∧ l = irange i (j - i).toNat) ∨
    ∃ i j, vs = [.int i, .int j, .int (-1)] ∧ smallI i = true ∧ smallI j = true ∧ l = irangeC i (-1) (i - j).toNat := by
  unfold rangeOf at h
  split at h
  · split at h
    · cases h; exact .inl ⟨_, rfl, by assumption, rfl⟩
    · cases h
  · split at h
    · rename_i hs
      rw [Bool.and_eq_true] at hs
      cases h
      exact .inr (.inl ⟨_, _, rfl, hs.1, hs.2, rfl⟩)
    · cases h
  · split at h
    · rename_i hs
      simp only [Bool.and_eq_true, decide_eq_true_eq] at hs
      obtain ⟨⟨h1, h2⟩, h3⟩ := hs
      subst h3
      cases h
      exact .inr (.inr ⟨_, _, rfl, h1, h2, rfl⟩)
    · cases h
  · cases h
theorem src_rng {vs : List Val} {M : Mem} {src : Src} (h : srcOf .range vs M = some src) : ∃ l, rangeOf vs = some l ∧ src = .sq (.im l) := by
  have h : (rangeOf vs).map (fun l => Src.sq (.im l)) = some src := by
    cases vs with
    | nil => exact h
    | cons a r => exact h
  cases e : rangeOf vs with
  | none => rw [e] at h; cases h
  | some l => rw [e] at h; cases h; exact ⟨l, rfl, rfl⟩
theorem vals_int1 {φ : List Addr} {H : Hp} {j : Int} {us : List V} (r : RVs W φ H [.int j] us) : us = [.int j] := by
  cases r with
  | cons r1 r2 => cases r1; cases r2; rfl
theorem pi_rng (ok : OkX W G Γ k c X) (hr : RecOk W G Γ k rec) {tg : Expr} {p pos : Pos} {es : List Expr} {xs : List E} (h : recs rec c es = some xs) (hb : bltB G c "range" = true) (hl : (es.length == 1 || es.length == 2 || es.length == 3) = true) : PI X tg (.Call (.Name "range" p) es [] pos) (lI W .range (evEs Γ xs)) := by
  obtain ⟨g1, g2, _, _⟩ := bltB_ok ok hb
  obtain ⟨_, hs, hp⟩ := recs_ok h
  have pa := pa_list ok hr hp hs
  refine ⟨fun pins s σ H R I hw => ?_⟩
  obtain ⟨φ, M, ρ, vs, M', src, len, r, re, ev, hsrc, hlen, q⟩ := hw
  obtain ⟨l, e1, rfl⟩ := src_rng hsrc
  have hlen : l.length = len := by have hl : some l.length = some len := hlen; cases hl; rfl
  have n1 : vs.length = es.length := by rw [evEs_len ev, ← Paired.length hp]
  match es, hs, n1, pa, hl with
  | [a], hs, n1, pa, _ =>
    simp only [List.any_cons, List.any_nil, Bool.or_false] at hs
    refine (pi_range1 g1 g2 pa (star_cons hs)).run pins s σ H R I ⟨φ, M, ρ, vs, M', r, re, ev, fun φ1 H1 us x1 r1 rus => ?_⟩
    rcases range_all e1 with ⟨j, rfl, s1, rfl⟩ | ⟨i, j, rfl, _⟩ | ⟨i, j, rfl, _⟩
    · rw [irange_len] at hlen
      subst hlen
      exact ⟨j, vals_int1 rus, (smallI_ok s1).1, (smallI_ok s1).2, q φ1 H1 _ x1 r1 walk_range⟩
    · simp at n1
    · simp at n1
  | [a, b], hs, n1, pa, _ =>
    simp only [List.any_cons, List.any_nil, Bool.or_false, Bool.or_eq_false_iff] at hs
    have sb : starEach [b] X.env = [(false, eval b X.env)] := star_cons hs.2
    refine (pi_range2 g1 g2 pa (by rw [star_cons hs.1, sb]) sb).run pins s σ H R I ⟨φ, M, ρ, vs, M', r, re, ev, fun φ1 H1 us x1 r1 rus => ?_⟩
    rcases range_all e1 with ⟨j, rfl, _⟩ | ⟨i, j, rfl, s1, s2, rfl⟩ | ⟨i, j, rfl, _⟩
    · simp at n1
    · rw [irange_len] at hlen
      subst hlen
      refine ⟨i, j, ?_, ⟨(smallI_ok s1).1, (smallI_ok s1).2, (smallI_ok s2).1, (smallI_ok s2).2⟩, q φ1 H1 _ x1 r1 walk_range⟩
      cases rus with
      | cons r1 r2 => cases r1; rw [vals_int1 r2]
    · simp at n1
  | [a, b, d], hs, n1, pa, _ =>
    simp only [List.any_cons, List.any_nil, Bool.or_false, Bool.or_eq_false_iff] at hs
    refine (pi_range3 g1 g2 pa (star_cons hs.1) (star_any (by simp [hs.2.1, hs.2.2]))).run pins s σ H R I ⟨φ, M, ρ, vs, M', r, re, ev, fun φ1 H1 us x1 r1 rus => ?_⟩
    rcases range_all e1 with ⟨j, rfl, _⟩ | ⟨i, j, rfl, _⟩ | ⟨i, j, rfl, s1, s2, rfl⟩
    · simp at n1
    · simp at n1
    · have el : (i - j).toNat = len := by rw [← hlen, irangeC_eq]; simp
      subst el
      refine ⟨i, j, -1, (i - j).toNat, ?_, RgC.neg (smallI_ok s1).1 (smallI_ok s1).2 (smallI_ok s2).1 (smallI_ok s2).2, q φ1 H1 _ x1 r1 walk_rangeC⟩
      cases rus with
      | cons r1 r2 =>
        cases r1
        cases r2 with
        | cons r3 r4 => cases r3; rw [vals_int1 r4]
theorem src_en {v : Val} {M : Mem} {src : Src} (h : srcOf .enum [v] M = some src) : ∃ s, sqOf M v = some s ∧ src = .enum s := by
  have h : (sqOf M v).map Src.enum = some src := by cases v <;> exact h
  cases e : sqOf M v with
  | none => rw [e] at h; cases h
  | some s => rw [e] at h; cases h; exact ⟨s, rfl, rfl⟩
theorem src_rev {v : Val} {M : Mem} {src : Src} (h : srcOf .rev [v] M = some src) : ∃ s, sqOf M v = some s ∧ src = .rev s := by
  have h : (sqOf M v).map Src.rev = some src := by cases v <;> exact h
  cases e : sqOf M v with
  | none => rw [e] at h; cases h
  | some s => rw [e] at h; cases h; exact ⟨s, rfl, rfl⟩
theorem sq_cases {M : Mem} {v : Val} {s : Sq} (h : sqOf M v = some s) : (∃ vs, v = .tup vs ∧ s = .im vs) ∨ ∃ n, v = .ref n ∧ s = .mu n ∧ ∃ vs, M[n]? = some (.lst vs) ∨ M[n]? = some (.rol vs) := by
  cases v with
  | tup vs => cases h; exact .inl ⟨vs, rfl, rfl⟩
  | ref n => obtain ⟨rfl, z⟩ := sqOf_ref h; exact .inr ⟨n, rfl, rfl, z⟩
  | _ => cases h
theorem pi_en (ok : OkX W G Γ k c X) (hr : RecOk W G Γ k rec) {elts : List Expr} {kk : Nat} {p pos tpos : Pos} {a : Expr} {xs : List E} (h : recs rec c [a] = some xs) (hb : bltB G c "enumerate" = true) : PI X (.Tuple elts kk tpos) (.Call (.Name "enumerate" p) [a] [] pos) (lI W .enum (evEs Γ xs)) := by
  obtain ⟨g1, g2, _, _⟩ := bltB_ok ok hb
  obtain ⟨_, hs, hp⟩ := recs_ok h
  have pa := pa_list ok hr hp hs
  simp only [List.any_cons, List.any_nil, Bool.or_false] at hs
  cases hp with
  | @cons _ x _ _ h1 hp =>
    cases hp
    refine ⟨fun pins s σ H R I hw => ?_⟩
    obtain ⟨φ, M, ρ, vs, M', src, len, r, re, ev, hsrc, hlen, q⟩ := hw
    refine (pi_enumA g1 g2 pa (star_cons hs)).run pins s σ H R I ⟨φ, M, ρ, vs, M', r, re, ev, fun φ1 H1 us x1 r1 rus => ?_⟩
    obtain ⟨v, rfl, e1⟩ := ev_one ev
    obtain ⟨sq, e2, rfl⟩ := src_en hsrc
    obtain ⟨u, rfl, ru⟩ := RVs.one (vs := []) rus
    rcases sq_cases e2 with ⟨ws, rfl, rfl⟩ | ⟨n, rfl, rfl, ws, em⟩
    · have el : ws.length = len := by have hl : some ws.length = some len := hlen; cases hl; rfl
      cases ru with
      | tup h1 h2 => exact ⟨_, _, rfl, .inr ⟨by rw [ok.at_.K]; exact h1, by rw [ok.at_.K]; exact q φ1 H1 _ x1 r1 (walk_enT h1 h2 el)⟩⟩
    · cases ru with
      | ref hn =>
        obtain ⟨ys, h1, _⟩ := r1.seqL em hn
        exact ⟨_, ys, rfl, .inl ⟨by rw [ok.at_.K]; exact h1, by rw [ok.at_.K]; exact q φ1 H1 _ x1 r1 (walk_enL hn)⟩⟩
theorem pi_rv (ok : OkX W G Γ k c X) (hr : RecOk W G Γ k rec) {tg : Expr} {p pos : Pos} {a : Expr} {xs : List E} (h : recs rec c [a] = some xs) (hb : bltB G c "reversed" = true) : PI X tg (.Call (.Name "reversed" p) [a] [] pos) (lI W .rev (evEs Γ xs)) := by
  obtain ⟨g1, g2, _, _⟩ := bltB_ok ok hb
  obtain ⟨_, hs, hp⟩ := recs_ok h
  simp only [List.any_cons, List.any_nil, Bool.or_false] at hs
  cases hp with
  | @cons _ x _ _ h1 hp =>
    cases hp
    refine ⟨fun pins s σ H R I hw => ?_⟩
    obtain ⟨φ, M, ρ, vs, M', src, len, r, re, ev, hsrc, hlen, q⟩ := hw
    obtain ⟨v, rfl, e1⟩ := ev_one ev
    refine (RT.pi_revA g1 g2 (hr c X a x ok h1).1 (star_cons hs)).run pins s σ H R I ⟨φ, M, ρ, v, M', r, re, e1, fun φ1 H1 u x1 r1 ru => ?_⟩
    obtain ⟨sq, e2, rfl⟩ := src_rev hsrc
    rcases sq_cases e2 with ⟨ws, rfl, rfl⟩ | ⟨n, rfl, rfl, ws, em⟩
    · have el : ws.length = len := by have hl : some ws.length = some len := hlen; cases hl; rfl
      cases ru with
      | tup h1 h2 => exact ⟨_, _, rfl, .inr ⟨by rw [ok.at_.K]; exact h1, by rw [ok.at_.K, ← h2.length, el]; exact q φ1 H1 _ x1 r1 (walk_revT h1 h2)⟩⟩
    · cases ru with
      | ref hn =>
        obtain ⟨ys, h1, h2⟩ := r1.seqL em hn
        have el : ws.length = len := by
          have hl : ((Sq.mu n).get M').map (·.length) = some len := hlen
          obtain ⟨vs', e3, e4⟩ := map_len hl
          rcases Sq.get_mu e3 with z | z <;> rcases em with y | y <;> (rw [z] at y; cases y) <;> exact e4
        exact ⟨_, ys, rfl, .inl ⟨by rw [ok.at_.K]; exact h1, by rw [ok.at_.K, ← h2.length, el]; exact q φ1 H1 _ x1 r1 (walk_revL hn)⟩⟩
theorem pi_rvr (ok : OkX W G Γ k c X) (hr : RecOk W G Γ k rec) {tg : Expr} {g : Str} {p pos gp gpos : Pos} {gs : List Expr} {ys : List E} (hg : g = "range") (hb : bltB G c "reversed" = true) (hb2 : bltB G c g = true) (h : recs rec c gs = some ys) (hl : (gs.length == 1 || gs.length == 2) = true) :
    PI X tg (.Call (.Name "reversed" p) [.Call (.Name g gp) gs [] gpos] [] pos) (lI W .rev (evEs Γ [.rng ys])) := by
  obtain ⟨g1, g2, _, _⟩ := bltB_ok ok hb
  refine ⟨fun pins s σ H R I hw => ?_⟩
  obtain ⟨φ, M, ρ, vs, M', src, len, r, re, ev, hsrc, hlen, q⟩ := hw
  obtain ⟨v, rfl, e1⟩ := ev_one ev
  obtain ⟨ws, M1, e2, e3⟩ := Res.bind_ok (show (evEs Γ ys ρ M).bind (fun vs M => match rangeOf vs with | some l => chk (decide (vs.length ≤ 2 ∧ l.length ≤ sizeLine)) (.ok (.tup l) M) | none => .stuck) = .ok v M' from e1)
  cases e4 : rangeOf ws with
  | none => rw [e4] at e3; cases e3
  | some l =>
    rw [e4] at e3
    obtain ⟨c1, c2⟩ := chk_ok e3
    cases c2
    obtain ⟨d1, d2⟩ := of_decide_eq_true c1
    obtain ⟨sq, e5, rfl⟩ := src_rev hsrc
    cases e5
    have el : l.length = len := by have hl : some l.length = some len := hlen; cases hl; rfl
    refine (pi_revR g1 g2 (prg_of ok hr (p := gp) (pos := gpos) hg hb2 h hl) (star_cons rfl)).run pins s σ H R I ⟨φ, M, ρ, ws, l, _, r, re, e2, d1, e4, fun φ1 H1 a b x1 r1 s1 s2 hl => ?_⟩
    subst hl
    rw [irange_len] at el
    subst el
    refine ⟨(smallI_ok s1).1, (smallI_ok s1).2, (smallI_ok s2).1, (smallI_ok s2).2, ?_⟩
    exact q φ1 H1 _ x1 r1 walk_revR
theorem src_zip {v w : Val} {M : Mem} {src : Src} (h : srcOf .zip [v, w] M = some src) : (∃ vs ws, v = .tup vs ∧ w = .tup ws ∧ src = .zip (.im vs) (.im ws)) ∨ ∃ n m, v = .ref n ∧ w = .ref m ∧ src = .zip (.mu n) (.mu m) ∧ (∃ vs, M[n]? = some (.lst vs) ∨ M[n]? = some (.rol vs)) ∧ ∃ vs, M[m]? = some (.lst vs) ∨ M[m]? = some (.rol vs) := by
  have h : (match sqOf M v, sqOf M w with
    | some (.im s), some (.im t) => some (Src.zip (.im s) (.im t))
    | some (.mu s), some (.mu t) => some (.zip (.mu s) (.mu t))
    | _, _ => none) = some src := by cases v <;> exact h
  split at h
  · rename_i s t h1 h2
    cases h
    rcases sq_cases h1 with ⟨vs, rfl, e⟩ | ⟨n, rfl, e, _⟩
    · cases e
      rcases sq_cases h2 with ⟨ws, rfl, e⟩ | ⟨n, rfl, e, _⟩
      · cases e; exact .inl ⟨_, _, rfl, rfl, rfl⟩
      · cases e
    · cases e
  · rename_i s t h1 h2
    cases h
    rcases sq_cases h1 with ⟨vs, rfl, e⟩ | ⟨n, rfl, e, z1⟩
    · cases e
    · cases e
      rcases sq_cases h2 with ⟨ws, rfl, e⟩ | ⟨m, rfl, e, z2⟩
      · cases e
      · cases e; exact .inr ⟨_, _, rfl, rfl, rfl, z1, z2⟩
  · cases h
theorem pi_zp (ok : OkX W G Γ k c X) (hr : RecOk W G Γ k rec) {elts : List Expr} {kk : Nat} {p pos tpos : Pos} {a b : Expr} {xs : List E} (h : recs rec c [a, b] = some xs) (hb : bltB G c "zip" = true) : PI X (.Tuple elts kk tpos) (.Call (.Name "zip" p) [a, b] [] pos) (lI W .zip (evEs Γ xs)) := by
  obtain ⟨g1, g2, _, _⟩ := bltB_ok ok hb
  obtain ⟨_, hs, hp⟩ := recs_ok h
  have pa := pa_list ok hr hp hs
  simp only [List.any_cons, List.any_nil, Bool.or_false, Bool.or_eq_false_iff] at hs
  have n2 : xs.length = 2 := by rw [← Paired.length hp]; rfl
  refine ⟨fun pins s σ H R I hw => ?_⟩
  obtain ⟨φ, M, ρ, vs, M', src, len, r, re, ev, hsrc, hlen, q⟩ := hw
  have n1 : vs.length = 2 := by rw [evEs_len ev, n2]
  refine (RZ.pi_zipA g1 g2 pa (star_cons hs.1) (star_any (by simp [hs.2]))).run pins s σ H R I ⟨φ, M, ρ, vs, M', r, re, ev, fun φ1 H1 us x1 r1 rus => ?_⟩
  match vs, n1, hsrc, rus with
  | [v, w], _, hsrc, rus =>
    obtain ⟨u, z, rfl, ru, rz⟩ := RVs.two rus
    rcases src_zip hsrc with ⟨vs, ws, rfl, rfl, rfl⟩ | ⟨n, m, rfl, rfl, rfl, ⟨vs, e1⟩, ws, e2⟩
    · cases ru with
      | tup h1 h2 =>
        cases rz with
        | tup h3 h4 => exact ⟨_, _, _, _, rfl, .inr ⟨by rw [ok.at_.K]; exact h1, by rw [ok.at_.K]; exact h3, by rw [ok.at_.K]; exact q φ1 H1 _ x1 r1 (walk_zipT h1 h2 h3 h4)⟩⟩
    · cases ru with
      | ref hn =>
        cases rz with
        | ref hm =>
          obtain ⟨ys, h1, _⟩ := r1.seqL e1 hn
          obtain ⟨zs, h2, _⟩ := r1.seqL e2 hm
          exact ⟨_, _, ys, zs, rfl, .inl ⟨by rw [ok.at_.K]; exact h1, by rw [ok.at_.K]; exact h2, by rw [ok.at_.K]; exact q φ1 H1 _ x1 r1 (walk_zipL hn hm)⟩⟩
end
end Mn
end -- Sd20
section -- Sd21
set_option linter.all false
set_option autoImplicit false
set_option maxRecDepth 100000
namespace Mn
open PySem L2
section
variable {W : Wo} {G : GT} {Γ : Gam} {k : Nat} {c : CC} {X : Cx} {rec : CC → Expr → Option E}
theorem omap {α β : Type} {o : Option α} {f : α → β} {b : β} (h : o.map f = some b) : ∃ a, o = some a ∧ b = f a := by
  cases o with
  | none => cases h
  | some a => cases h; exact ⟨a, rfl, rfl⟩
theorem obind {α β : Type} {o : Option α} {f : α → Option β} {b : β} (h : o.bind f = some b) : ∃ a, o = some a ∧ f a = some b := by
  cases o with
  | none => cases h
  | some a => exact ⟨a, rfl, h⟩
theorem recs_one (ok : OkX W G Γ k c X) (hr : RecOk W G Γ k rec) {e : Expr} {xs : List E} (h : recs rec c [e] = some xs) : ∃ x, xs = [x] ∧ PE X e (lE W (evE Γ x)) := by
  obtain ⟨_, _, hp⟩ := recs_ok h
  cases hp with
  | @cons _ x _ _ h1 hp => cases hp; exact ⟨x, rfl, (hr c X e x ok h1).1⟩
theorem pi_of (ok : OkX W G Γ k c X) (hr : RecOk W G Γ k rec) {tg iter : Expr} {p : IK × List E} (h : cIt G rec c tg iter = some p) : PI X tg iter (lI W p.1 (evEs Γ p.2)) ∧ ∀ x, foldedSetIterable iter X.env x = pure x := by
  have ex : ∀ {e : Expr} {p : IK × List E}, (recs rec c [e]).map (fun x => (IK.ex, x)) = some p → PI X tg e (lI W p.1 (evEs Γ p.2)) := fun {e p} h => by
    obtain ⟨xs, h1, rfl⟩ := omap h
    obtain ⟨x, rfl, pe⟩ := recs_one ok hr h1
    exact pi_ex ok pe
  unfold cIt at h
  split at h
  · rename_i f fp args kws pos
    refine ⟨?_, fun x => rfl⟩
    split at h
    · rename_i hb
      split at h
      · rename_i e
        subst e
        split at h
        · split at h
          · rename_i hl
            obtain ⟨xs, h1, rfl⟩ := omap h
            exact pi_rng ok hr h1 hb hl
          · cases h
        · cases h
      · split at h
        · rename_i e
          subst e
          split at h
          · obtain ⟨xs, h1, rfl⟩ := omap h
            exact pi_en ok hr h1 hb
          · cases h
        · split at h
          · rename_i e
            subst e
            split at h
            · split at h
              · rename_i hc
                simp only [Bool.and_eq_true, decide_eq_true_eq] at hc
                obtain ⟨xs, h1, rfl⟩ := omap h
                exact pi_rvr ok hr hc.1.1 hb hc.1.2 h1 hc.2
              · obtain ⟨xs, h1, rfl⟩ := omap h
                exact pi_rv ok hr h1 hb
            · obtain ⟨xs, h1, rfl⟩ := omap h
              exact pi_rv ok hr h1 hb
            · cases h
          · split at h
            · rename_i e
              subst e
              split at h
              · obtain ⟨xs, h1, rfl⟩ := omap h
                exact pi_zp ok hr h1 hb
              · cases h
            · exact ex h
    · exact ex h
  · cases h
  · rename_i hn hs
    refine ⟨ex h, fun x => ?_⟩
    cases iter <;> first | rfl | exact (hs _ _ _ rfl).elim
/-! ### targets -/
def lG (W : Wo) (t : T) : TG := fun x σ H Q => ∃ φ M v ρ ρ', RM W φ M H ∧ RV W φ H v x ∧ RE W φ H ρ σ ∧ asgT M t v ρ = some ρ' ∧ ∀ σ', RE W φ H ρ' σ' → (∀ own : List Nat, (∀ i ∈ t.slots 8, i ∈ own) → L2.wipe σ' own = L2.wipe σ own) → Q σ' H
theorem wipe_set {σ : L2.St} {i : Nat} {x : Option V} : ∀ {own : List Nat}, i ∈ own → L2.wipe (σ.set i x) own = L2.wipe σ own
  | v :: vs, h => by
    unfold L2.wipe
    by_cases e : i ∈ vs
    · rw [wipe_set e]
    · have : i = v := by rcases List.mem_cons.mp h with z | z; exact z; exact absurd z e
      subst this
      have key : ∀ (l : List Nat) (τ : L2.St), L2.wipe (τ.set i x) l = (L2.wipe τ l).set i (if i ∈ l then none else x) := fun l => by
        induction l with
        | nil => intro τ; simp [L2.wipe]
        | cons a l ih =>
          intro τ
          unfold L2.wipe
          rw [ih]
          by_cases ea : a = i
          · subst ea; simp
          · rw [List.set_comm _ _ (Ne.symm ea)]
            have : (i ∈ a :: l) = (i ∈ l) := by simp [Ne.symm ea]
            simp only [this]
      rw [key, List.set_set]
theorem locB_loc {x : Str} (ok : OkX W G Γ k c X) (h : locB c x = true) : Loc X.env.scope x ∧ (X.fn x = true ∨ X.env.scope.names.lookup x = some .local) := by
  unfold locB at h
  rw [ok.sc, ok.fn]
  split at h
  · rename_i e; exact ⟨.inl e, .inr e⟩
  · rename_i e; exact ⟨.inr e, .inl h⟩
  · cases h
theorem gs_set {ρ ρ' : Env} {M : Mem} {i : Nat} {v : Val} (h : asgT M (.nm i) v ρ = some ρ') : ρ' = ρ.set i (some v) := by
  have h : (if i < ρ.length then some (ρ.set i (some v)) else none) = some ρ' := h
  split at h
  · cases h; rfl
  · cases h
theorem assign_star {t : Expr} {ts : List Expr} {env : PySem.Env} (h : isStar t = false) : (assignEach (t :: ts) env) = (false, assign t env) :: assignEach ts env := by
  cases t <;> first | rfl | (cases h; done)
theorem pg_of (ok : OkX W G Γ k c X) : ∀ (n : Nat) (tg : Expr) (t : T), tgC c n tg = some t → n ≤ 8 → isStar tg = false ∧
    PG X tg (fun x σ H Q => ∃ φ M v ρ ρ', RM W φ M H ∧ RV W φ H v x ∧ RE W φ H ρ σ ∧ asgT M t v ρ = some ρ' ∧ ∀ σ', RE W φ H ρ' σ' → (∀ own : List Nat, (∀ i ∈ t.slots n, i ∈ own) → L2.wipe σ' own = L2.wipe σ own) → Q σ' H) := by
  intro n
  induction n with
  | zero =>
    intro tg t h _
    cases tg with
    | Name x p =>
      have h : (if locB c x then (slotOf c x).map T.nm else none) = some t := h
      split at h
      · rename_i hl
        obtain ⟨i, e, rfl⟩ := omap h
        obtain ⟨h1, h2⟩ := locB_loc ok hl
        obtain ⟨hN, _⟩ := slotOf_at e
        refine ⟨rfl, ⟨fun pins s σ H v u Q I r hw => (pg_name ok.nd (by rw [ok.N]; exact hN) h1 h2).run pins s σ H v u Q I r ?_⟩⟩
        obtain ⟨φ, M, w, ρ, ρ', rm, rv, re, ea, q⟩ := hw
        rw [gs_set ea] at q
        exact q _ (re.set i rv) fun own hi => wipe_set (hi i (by show i ∈ [i]; simp))
      · cases h
    | _ => cases h
  | succ n ih =>
    intro tg t h hn
    cases tg with
    | Name x p =>
      have h : (if locB c x then (slotOf c x).map T.nm else none) = some t := h
      split at h
      · rename_i hl
        obtain ⟨i, e, rfl⟩ := omap h
        obtain ⟨h1, h2⟩ := locB_loc ok hl
        obtain ⟨hN, _⟩ := slotOf_at e
        refine ⟨rfl, ⟨fun pins s σ H v u Q I r hw => (pg_name ok.nd (by rw [ok.N]; exact hN) h1 h2).run pins s σ H v u Q I r ?_⟩⟩
        obtain ⟨φ, M, w, ρ, ρ', rm, rv, re, ea, q⟩ := hw
        rw [gs_set ea] at q
        exact q _ (re.set i rv) fun own hi => wipe_set (hi i (by show i ∈ [i]; simp))
      · cases h
    | Tuple es j p =>
      have h : (optAll (es.map (tgC c n))).map T.tp = some t := h
      obtain ⟨ts, e1, rfl⟩ := omap h
      have hp := optAll_map e1
      have stars : ∀ {es : List Expr} {ts : List T}, Paired (fun a b => tgC c n a = some b) es ts → (assignEach es X.env).length = ts.length ∧ (assignEach es X.env).findIdx? (·.1) = none := fun {es ts} hp => by
        induction hp with
        | nil => exact ⟨rfl, rfl⟩
        | @cons a b as bs h1 h2 ih2 =>
          rw [assign_star (ih a b h1 (by omega)).1]
          refine ⟨by simp [ih2.1], ?_⟩
          rw [List.findIdx?_cons]
          simp [ih2.2]
      have each : ∀ {es : List Expr} {ts : List T}, Paired (fun a b => tgC c n a = some b) es ts →
          PGs X es (fun xs σ H Q => ∃ φ M vs ρ ρ', RM W φ M H ∧ RVs W φ H vs xs ∧ RE W φ H ρ σ ∧ asgTs M ts vs ρ = some ρ' ∧ ∀ σ', RE W φ H ρ' σ' → (∀ own : List Nat, (∀ t ∈ ts, ∀ i ∈ t.slots n, i ∈ own) → L2.wipe σ' own = L2.wipe σ own) → Q σ' H) := fun {es ts} hp => by
        induction hp with
        | nil =>
          refine ⟨fun pins s σ H vs us Q I r hw => pgs_nil.run pins s σ H vs us Q I r ?_⟩
          obtain ⟨φ, M, ws, ρ, ρ', rm, rv, re, ea, q⟩ := hw
          cases ws with
          | nil => cases rv; cases ea; exact ⟨rfl, q σ re fun _ _ => rfl⟩
          | cons _ _ => cases ea
        | @cons a b as bs h1 h2 ih2 =>
          refine ⟨fun pins s σ H vs us Q I r hw => (pgs_cons (ih a b h1 (by omega)).2 ih2 (by rw [assign_star (ih a b h1 (by omega)).1]; rfl)).run pins s σ H vs us Q I r ?_⟩
          obtain ⟨φ, M, ws, ρ, ρ', rm, rv, re, ea, q⟩ := hw
          cases rv with
          | nil => cases ea
          | @cons w x ws xs r1 r2 =>
            have ea : (match asgT M b w ρ with | some ρ' => asgTs M bs ws ρ' | none => none) = some ρ' := ea
            cases e2 : asgT M b w ρ with
            | none => rw [e2] at ea; cases ea
            | some ρ1 =>
              rw [e2] at ea
              exact ⟨x, xs, rfl, φ, M, w, ρ, ρ1, rm, r1, re, e2, fun σ1 re1 w1 => ⟨φ, M, ws, ρ1, ρ', rm, r2, re1, ea, fun σ2 re2 w2 => q σ2 re2 fun own hi =>
                (w2 own fun t ht => hi t (List.mem_cons_of_mem _ ht)).trans (w1 own fun i hi' => hi b List.mem_cons_self i hi')⟩⟩
      obtain ⟨s1, s2⟩ := stars hp
      refine ⟨rfl, ⟨fun pins s σ H v u Q I r hw => (pg_tup ok.calm (each hp) s1 s2).run pins s σ H v u Q I r ?_⟩⟩
      obtain ⟨φ, M, w, ρ, ρ', rm, rv, re, ea, q⟩ := hw
      cases rv with
      | @tup vs xs a h1 h2 =>
        have ea : asgTs M ts vs ρ = some ρ' := ea
        have ln : ∀ {ts : List T} {vs : List Val} {ρ ρ' : Env}, asgTs M ts vs ρ = some ρ' → vs.length = ts.length := fun {ts} => by
          induction ts with
          | nil => intro vs ρ ρ' h; cases vs with | nil => rfl | cons _ _ => cases h
          | cons t ts ih3 =>
            intro vs ρ ρ' h
            cases vs with
            | nil => cases h
            | cons w vs =>
              have h : (match asgT M t w ρ with | some ρ' => asgTs M ts vs ρ' | none => none) = some ρ' := h
              cases e2 : asgT M t w ρ with
              | none => rw [e2] at h; cases h
              | some ρ1 => rw [e2] at h; simp [ih3 h]
        refine ⟨a, xs, rfl, by rw [ok.at_.K]; exact h1, by rw [← h2.length, ln ea], φ, M, vs, ρ, ρ', rm, h2, re, ea, fun σ' re' w' => q σ' re' fun own hi => w' own fun t ht i hi' => hi i ?_⟩
        show i ∈ (ts.map (T.slots n)).flatten
        simp only [List.mem_flatten, List.mem_map]
        exact ⟨_, ⟨t, ht, rfl⟩, hi'⟩
      | _ => cases ea
    | _ => cases h
theorem pg_ok (ok : OkX W G Γ k c X) {tg : Expr} {t : T} (h : tgC c 8 tg = some t) : PG X tg (lG W t) := (pg_of ok 8 tg t h (Nat.le_refl _)).2
end
end Mn
end -- Sd21
section -- Sd22
set_option linter.all false
set_option autoImplicit false
set_option maxRecDepth 100000
namespace Mn
open PySem L2
section
variable {W : Wo} {φ φ' : List Addr} {M : Mem} {H H' : Hp}
/-- an object that stands beside the store comes into it -/
theorem RM.adopt {p : Addr} {o : Obj} (r : RM W φ M H) (hn : ∀ n, 0 < n → φ[n]? ≠ some p) (ho : owns o = true) (h : RO W (φ ++ [p]) H p o) : RM W (φ ++ [p]) (M ++ [o]) H := by
  have split : ∀ (n : Nat) (on : Obj) (a : Addr), (M ++ [o])[n]? = some on → (φ ++ [p])[n]? = some a → (M[n]? = some on ∧ φ[n]? = some a) ∨ (n = M.length ∧ on = o ∧ a = p) := fun n on a h1 h2 => by
    by_cases hl : n < M.length
    · rw [List.getElem?_append_left hl] at h1
      rw [List.getElem?_append_left (by rw [r.len]; exact hl)] at h2
      exact .inl ⟨h1, h2⟩
    · have hl' : n < (M ++ [o]).length := (List.getElem?_eq_some_iff.mp h1).1
      have e : n = M.length := by simp at hl'; omega
      subst e
      refine .inr ⟨rfl, ?_, ?_⟩
      · rw [List.getElem?_append_right (Nat.le_refl _)] at h1; simp at h1; exact h1.symm
      · rw [← r.len, List.getElem?_append_right (Nat.le_refl _)] at h2; simp at h2; exact h2.symm
  have e0 : Ex0 W φ H (φ ++ [p]) H := ⟨fun n a e => by rw [List.getElem?_append_left (List.getElem?_eq_some_iff.mp e).1]; exact e, .refl⟩
  refine ⟨by simp [r.len], by simp, fun n on h1 => ?_, fun n m a on om h1 h2 h3 h4 h5 h6 => ?_, fun n on a h1 h2 => ?_⟩
  · by_cases hl : n < M.length
    · rw [List.getElem?_append_left hl] at h1; exact r.own n on h1
    · have hl' : n < (M ++ [o]).length := (List.getElem?_eq_some_iff.mp h1).1
      have e : n = M.length := by simp at hl'; omega
      subst e
      rw [List.getElem?_append_right (Nat.le_refl _)] at h1
      simp at h1
      subst h1
      exact ⟨fun _ => r.ne, fun _ => ho⟩
  · rcases split n on a h1 h5 with ⟨k1, k2⟩ | ⟨rfl, rfl, rfl⟩
    · rcases split m om a h2 h6 with ⟨j1, j2⟩ | ⟨rfl, rfl, rfl⟩
      · exact r.inj n m a on om k1 j1 h3 h4 k2 j2
      · exact absurd k2 (hn n ((r.own n on k1).mp h3))
    · rcases split m om a h2 h6 with ⟨j1, j2⟩ | ⟨rfl, rfl, _⟩
      · exact absurd j2 (hn m ((r.own m om j1).mp h4))
      · rfl
  · rcases split n on a h1 h2 with ⟨k1, k2⟩ | ⟨rfl, rfl, rfl⟩
    · exact (r.obj n on a k1 k2).keep0 e0 rfl
    · exact h
theorem Ext.adopt {p : Addr} (e : Ext W φ H φ' H') (h : H p = none) : Ext W φ H (φ' ++ [p]) H' := by
  refine ⟨fun n a z => ?_, e.tk, fun a u ha hn => ?_⟩
  · have z2 := e.pre n a z
    rw [List.getElem?_append_left (List.getElem?_eq_some_iff.mp z2).1]; exact z2
  · obtain ⟨z1, z2⟩ := e.frm a u ha hn
    refine ⟨z1, fun n h0 q => ?_⟩
    by_cases hl : n < φ'.length
    · rw [List.getElem?_append_left hl] at q; exact z2 n h0 q
    · rw [List.getElem?_append_right (by omega)] at q
      cases hk : n - φ'.length with
      | zero => rw [hk] at q; simp at q; subst q; rw [h] at ha; cases ha
      | succ k => rw [hk] at q; simp at q
end
section
variable {W : Wo} {G : GT} {Γ : Gam} {k : Nat} {c : CC} {X : Cx} {rec : CC → Expr → Option E}
theorem wipe_get (σ : L2.St) (i : Nat) : ∀ l : List Nat, (L2.wipe σ l)[i]? = if i ∈ l then (σ[i]?).map (fun _ => none) else σ[i]?
  | [] => by simp [L2.wipe]
  | a :: l => by
    unfold L2.wipe
    rw [List.getElem?_set, wipe_get σ i l]
    by_cases e : a = i
    · subst e
      rw [wipe_length]
      by_cases hl : a < σ.length
      · simp [hl]
      · simp [hl]
    · have e' : ¬ i = a := fun z => e z.symm
      simp [e, e']
theorem wipe_twice {σ : L2.St} (l : List Nat) : L2.wipe (L2.wipe σ l) l = L2.wipe σ l := by
  refine List.ext_getElem? fun i => ?_
  rw [wipe_get, wipe_get]
  split
  · simp [Function.comp_def]
  · rfl
theorem ok_blk (ok : OkX W G Γ k c X) (scope : Scope) (s : Shared) (H : Hp) (C : Addr) (cl : List (Str × Addr)) (fp : List Addr) : OkX W G Γ k (blkCC c scope) (X.blk s H scope (compEnvC scope cl C X.env) fp) :=
  ⟨ok.facts, ⟨ok.at_.prog, ok.at_.w, ok.at_.K, ok.at_.mg⟩, by show relS scope X.env.scope = relS scope c.sc; rw [ok.sc], ok.N, ok.nd, rfl, ok.calm, ok.room, ok.grd, rfl⟩
theorem pts_of (ok : OkX W G Γ k c X) (hr : RecOk W G Γ k rec) {ifs : List Expr} {cs : List E} (h : recs rec c ifs = some cs) (hl : ifs.length ≤ 1) : PTs X ifs (lT W (evC Γ cs)) := by
  obtain ⟨_, _, hp⟩ := recs_ok h
  cases hp with
  | nil =>
    refine ⟨fun pins s σ H Q I hw => pts_nil.run pins s σ H Q I ?_⟩
    obtain ⟨φ, M, ρ, b, M', r, re, e, q⟩ := hw
    cases e
    exact q φ H .refl r
  | @cons e x es xs h1 hp =>
    cases hp with
    | cons _ _ => simp at hl
    | nil =>
      refine ⟨fun pins s σ H Q I hw => (pts_one (hr c X e x ok h1).2).run pins s σ H Q I ?_⟩
      obtain ⟨φ, M, ρ, b, M', r, re, ev, q⟩ := hw
      obtain ⟨v, M1, e1, e2⟩ := Res.bind_ok (show (evE Γ x ρ M).bind (fun v M => match truth M v with | some true => evC Γ [] ρ M | some false => .ok false M | none => .stuck) = .ok b M' from ev)
      cases e3 : truth M1 v with
      | none => rw [e3] at e2; cases e2
      | some d =>
        rw [e3] at e2
        cases d with
        | true => cases e2; exact ⟨φ, M, ρ, true, _, r, re, evT_of e1 e3, q⟩
        | false => cases e2; exact ⟨φ, M, ρ, false, _, r, re, evT_of e1 e3, q⟩
theorem c_comp (ok : OkX W G Γ k c X) (hr : RecOk W G Γ k rec) {elt : Expr} {scope : Scope} {gens : List Comprehension} {x : E} {pos : Pos} (h : cComp G rec c elt scope gens = some x) :
    PE X (.ListComp elt gens scope pos) (lE W (evE Γ x)) ∧ (∀ {i : Nat} {y : Str} {py spos : Pos}, c.N[i]? = some y → locL c y = true → swYes c y py pos scope = true → PS X (.Assign [.Name y py] (.ListComp elt gens scope pos) spos) (tAsg (lE W (evE Γ x)) (gName i))) := by
  unfold cComp at h
  split at h
  · rename_i tg iter ifs
    split at h
    · rename_i hb
      rw [Bool.and_eq_true, decide_eq_true_eq] at hb
      obtain ⟨hb1, hb2⟩ := hb
      obtain ⟨p, h1, h⟩ := obind h
      obtain ⟨t, h2, h⟩ := obind h
      obtain ⟨cs, h3, h⟩ := obind h
      obtain ⟨e, h4, h⟩ := obind h
      split at h
      · rename_i hsl
        cases h
        have hsl : ∀ i ∈ t.slots 8, i ∈ (ownOf c.N scope).map (·.2) := fun i hi => by simpa using List.all_eq_true.mp hsl i hi
        obtain ⟨pi, hs⟩ := pi_of ok hr h1
        have bo := blkOk_by (N := X.N) (sc := X.env.scope) (scope := scope) (own := ownOf c.N scope) (by rw [ok.N, ok.sc]; exact hb1)
        have hg := fun s H C cl fp => pg_ok (ok_blk ok scope s H C cl fp) h2
        have ht := fun s H C cl fp => pts_of (ok_blk ok scope s H C cl fp) hr h3 hb2
        have he := fun s H C cl fp => (hr _ _ elt e (ok_blk ok scope s H C cl fp) h4).1
        have main : ∀ σ H Q, lE W (evE Γ (.comp p.1 p.2 t ((ownOf c.N scope).map (·.2)) cs e)) σ H Q → tLc (lI W p.1 (evEs Γ p.2)) (lG W t) (lT W (evC Γ cs)) (lE W (evE Γ e)) ((ownOf c.N scope).map (·.2)) σ H Q := by
          generalize (ownOf c.N scope).map (·.2) = own at hsl
          rintro σ H Q ⟨φ, M, ρ, v, M', r, re, ev, q⟩
          obtain ⟨vs, M1, e1, e2⟩ := Res.bind_ok (show (evEs Γ p.2 ρ M).bind (fun vs M => match srcOf p.1 vs M with
            | none => .stuck
            | some src => match src.len M with
              | none => .stuck
              | some len => if len ≤ sizeLine then
                  (compL (fun ρ M => (evC Γ cs ρ M).bind fun b M => if b then (evE Γ e ρ M).bind fun v M => .ok (some v) M else .ok none M) src t (wipeE ρ own) len len [] M).bind fun l M => new (.lst l) M
                else .stuck) = .ok v M' from ev)
          cases e3 : srcOf p.1 vs M1 with
          | none => rw [e3] at e2; cases e2
          | some src =>
            rw [e3] at e2
            dsimp only at e2
            cases e4 : src.len M1 with
            | none => rw [e4] at e2; cases e2
            | some len =>
              rw [e4] at e2
              dsimp only at e2
              split at e2
              · rename_i hlen
                obtain ⟨l, M2, e5, e6⟩ := Res.bind_ok e2
                cases e6
                refine ⟨φ, M, ρ, vs, M1, src, len, r, re, e1, e3, e4, fun φ1 H1 J x1 r1 wk D hD => ?_⟩
                refine ⟨fun i m Hc => ∃ φ2 Mc acc us, m = len - i ∧ i ≤ len ∧ Ext W φ1 H1 φ2 Hc ∧ RM W φ2 Mc Hc ∧ (∀ n, 0 < n → φ2[n]? ≠ some D) ∧ Hc D = some (.lst us) ∧ RVs W φ2 Hc acc.reverse us ∧ acc.length ≤ i ∧
                  compL (fun ρ M => (evC Γ cs ρ M).bind fun b M => if b then (evE Γ e ρ M).bind fun v M => .ok (some v) M else .ok none M) src t (wipeE ρ own) len (len - i) acc Mc = .ok l M2, ⟨len, φ1, M1, [], [], by omega, Nat.zero_le _, Ext.aside .refl hD (.inl hD), r1.aside (.inl hD) (r1.out hD), r1.out hD, upd_same, .nil, Nat.le_refl _, e5⟩, ?_⟩
                rintro i m Hc ⟨φ2, Mc, acc, us, rfl, hi, x2, r2, nD, eD, rv, la, ec⟩
                by_cases hlt : i < len
                · obtain ⟨n, en⟩ : ∃ n, len - i = n + 1 := ⟨len - i - 1, by omega⟩
                  rw [en] at ec
                  have ei : len - (n + 1) = i := by omega
                  have ec : (match src.at Mc len (len - (n + 1)) with
                    | none => .stuck
                    | some v => match asgT Mc t v (wipeE ρ own) with
                      | none => .stuck
                      | some ρ' => match (evC Γ cs ρ' Mc).bind (fun b M => if b then (evE Γ e ρ' M).bind fun v M => Res.ok (some v) M else .ok none M) with
                        | .ok none M' => compL (fun ρ M => (evC Γ cs ρ M).bind fun b M => if b then (evE Γ e ρ M).bind fun v M => .ok (some v) M else .ok none M) src t (wipeE ρ own) len n acc M'
                        | .ok (some w) M' => compL (fun ρ M => (evC Γ cs ρ M).bind fun b M => if b then (evE Γ e ρ M).bind fun v M => .ok (some v) M else .ok none M) src t (wipeE ρ own) len n (w :: acc) M'
                        | _ => .stuck) = Res.ok l M2 := ec
                  rw [ei] at ec
                  cases e7 : src.at Mc len i with
                  | none => rw [e7] at ec; cases ec
                  | some w =>
                    rw [e7] at ec
                    dsimp only at ec
                    cases e8 : asgT Mc t w (wipeE ρ own) with
                    | none => rw [e8] at ec; cases ec
                    | some ρ' =>
                      rw [e8] at ec
                      dsimp only at ec
                      obtain ⟨g1, g2⟩ := wk.go i φ2 Hc Mc w x2 r2 hlt e7
                      have en2 : len - (i + 1) = n := by omega
                      refine .inr ⟨g1, fun H' => ∃ φ2 Mc acc us, i + 1 ≤ len ∧ Ext W φ1 H1 φ2 H' ∧ RM W φ2 Mc H' ∧ (∀ n, 0 < n → φ2[n]? ≠ some D) ∧ H' D = some (.lst us) ∧ RVs W φ2 H' acc.reverse us ∧ acc.length ≤ i + 1 ∧
                        compL (fun ρ M => (evC Γ cs ρ M).bind fun b M => if b then (evE Γ e ρ M).bind fun v M => .ok (some v) M else .ok none M) src t (wipeE ρ own) len (len - (i + 1)) acc Mc = .ok l M2,
                        fun H' ⟨φ3, M3, acc3, us3, z⟩ => ⟨len - (i + 1), by omega, φ3, M3, acc3, us3, rfl, z⟩, fun y H2 hy => ?_⟩
                      obtain ⟨x3, r3, rw3⟩ := g2 y H2 hy
                      have x13 := x2.trans x3
                      obtain ⟨d2, n2⟩ := x3.frm D _ eD nD
                      refine ⟨φ2, Mc, w, wipeE ρ own, ρ', r3, rw3, ((re.mono (x1.trans x13)).wipe own), e8, fun σ' re' hw => ⟨(hw own hsl).trans (wipe_twice own), ?_⟩⟩
                      cases e9 : evC Γ cs ρ' Mc with
                      | exc C fs M => rw [e9] at ec; cases ec
                      | stuck => rw [e9] at ec; cases ec
                      | ok b M3 =>
                        rw [e9] at ec
                        refine ⟨φ2, Mc, ρ', b, M3, r3, re', e9, fun φ3 H3 x4 r4 => ?_⟩
                        obtain ⟨d3, n3⟩ := x4.frm D _ d2 n2
                        cases b with
                        | false =>
                          have ec : compL (fun ρ M => (evC Γ cs ρ M).bind fun b M => if b then (evE Γ e ρ M).bind fun v M => .ok (some v) M else .ok none M) src t (wipeE ρ own) len n acc M3 = .ok l M2 := ec
                          exact ⟨φ3, M3, acc, us, by omega, x13.trans x4, r4, n3, d3, rv.mono (x3.trans x4), by omega, by rw [en2]; exact ec⟩
                        | true =>
                          cases e10 : evE Γ e ρ' M3 with
                          | exc C fs M => simp only [Res.bind, if_true, e10] at ec; cases ec
                          | stuck => simp only [Res.bind, if_true, e10] at ec; cases ec
                          | ok u M4 =>
                            simp only [Res.bind, if_true, e10] at ec
                            refine ⟨φ3, M3, ρ', u, M4, r4, re'.mono x4, e10, fun φ4 H4 uu x5 r5 ru => ?_⟩
                            obtain ⟨d4, n4⟩ := x5.frm D _ d3 n3
                            have mu : Mut (H4 D) := by rw [d4]; trivial
                            have lu : us.length = acc.length := by rw [← rv.length, List.length_reverse]
                            refine ⟨us, d4, by omega, φ4, M4, u :: acc, us ++ [uu], by omega, Ext.aside (x13.trans (x4.trans x5)) hD (.inr mu), r5.aside (.inr mu) n4, n4, upd_same, ?_, by simp; omega, by rw [en2]; exact ec⟩
                            rw [List.reverse_cons]
                            exact ((rv.mono (x3.trans (x4.trans x5))).append (.cons ru .nil)).mono0 ⟨fun _ _ z => z, TK.upd (.inr mu)⟩
                · have ei : i = len := by omega
                  subst ei
                  rw [Nat.sub_self] at ec
                  have ec : (if src.len Mc = some i then Res.ok acc.reverse Mc else .stuck) = .ok l M2 := ec
                  split at ec
                  · rename_i hl
                    cases ec
                    refine .inl ⟨wk.stop φ2 Hc _ x2 r2 hl, ?_⟩
                    have x3 := Ext.adopt x2 hD
                    have e0 : Ex0 W φ2 Hc (φ2 ++ [D]) Hc := ⟨fun n a z => by rw [List.getElem?_append_left (List.getElem?_eq_some_iff.mp z).1]; exact z, .refl⟩
                    exact q _ _ (.ref D) (x1.trans x3) (r2.adopt nD rfl ⟨us, eD, rv.mono0 e0⟩) (.ref (by rw [← r2.len, List.getElem?_append_right (Nat.le_refl _)]; simp))
                  · cases ec
              · cases e2
        refine ⟨pe_weak (pe_lc ok.calm ok.nd pi bo hg ht he hs) main, fun {i y py spos} hN hL hsw => ?_⟩
        have hsw : (locL c y && (py.line == pos.line) && !(scope.names.any fun (n, k) => n == y && (k == .local || k == .cell))) = true := hsw
        simp only [Bool.and_eq_true, Bool.not_eq_true'] at hsw
        have hlx : X.env.scope.names.lookup y = some .local := by
          rw [ok.sc]
          unfold locL at hL
          split at hL
          · assumption
          · cases hL
        refine ⟨fun pins s σ H Dd I hw => (ps_setLc ok.calm ok.nd (by rw [ok.N]; exact hN) hlx (sw_true I.ok.kind hlx hsw.1.2 hsw.2) pi bo hg ht he hs).run pins s σ H Dd I ?_⟩
        exact main σ H _ hw
      · cases h
    · cases h
  · cases h
end
end Mn
end -- Sd22
section -- Sd23
set_option linter.all false
set_option autoImplicit false
set_option maxRecDepth 100000
namespace Mn
open PySem L2
section
variable {W : Wo} {G : GT} {Γ : Gam} {k : Nat} {c : CC} {X : Cx} {rec : CC → Expr → Option E}
theorem t_ite {t a b : Expr} {x y z : E} {pos : Pos} (ht : PT X t (lT W (evT Γ x))) (ha : PT X a (lT W (evT Γ y))) (hb : PT X b (lT W (evT Γ z))) : PT X (.IfExp t a b pos) (lT W (evT Γ (.ite x y z))) := by
  refine ⟨fun pins s σ H Q I hw => ?_⟩
  obtain ⟨φ, M, ρ, d, M', r, re, e, q⟩ := hw
  obtain ⟨v, e0, e5⟩ := evT_inv e
  obtain ⟨w, M1, e1, e2⟩ := Res.bind_ok (show (evE Γ x ρ M).bind (fun w M => match truth M w with | some true => evE Γ y ρ M | some false => evE Γ z ρ M | none => .stuck) = .ok v M' from e0)
  cases e3 : truth M1 w with
  | none => rw [e3] at e2; cases e2
  | some d' =>
    rw [e3] at e2
    show wpAny _ _ (isTrue t X.env (eval t X.env) >>= fun g => if g = true then isTrue a X.env (eval a X.env) else isTrue b X.env (eval b X.env)) _ _ s
    refine wpAny_bind (thn (ht.run pins s σ H (fun g H1 => g = d' ∧ ∃ φ1, Ext W φ H φ1 H1 ∧ RM W φ1 M1 H1) I ⟨φ, M, ρ, d', M1, r, re, evT_of e1 e3, fun φ1 H1 x1 r1 => ⟨rfl, φ1, x1, r1⟩⟩) fun g s1 ⟨H1, I1, eg, φ1, x1, r1⟩ => ?_)
    subst eg
    cases g with
    | true => exact ha.run pins s1 σ H1 Q I1 ⟨φ1, M1, ρ, d, M', r1, re.mono x1, evT_of e2 e5, fun φ2 H2 x2 r2 => q φ2 H2 (x1.trans x2) r2⟩
    | false => exact hb.run pins s1 σ H1 Q I1 ⟨φ1, M1, ρ, d, M', r1, re.mono x1, evT_of e2 e5, fun φ2 H2 x2 r2 => q φ2 H2 (x1.trans x2) r2⟩
theorem cE_ok (hr : RecOk W G Γ k rec) (ok : OkX W G Γ k c X) : ∀ {e : Expr} {x : E}, cE G rec c e = some x → PE X e (lE W (evE Γ x)) ∧ PT X e (lT W (evT Γ x)) := by
  intro e x h
  cases e with
  | Name s p => have z := c_name ok (pos := p) (show cName G c s = some x from h); exact ⟨z, pt_of ok z fun _ => rfl⟩
  | Constant q j p => have z := c_const (W := W) (Γ := Γ) (X := X) (j := j) (pos := p) (show cConst q = some x from h); exact ⟨z, pt_of ok z fun _ => rfl⟩
  | Tuple es j p =>
    obtain ⟨xs, h1, rfl⟩ := omap (show (recs rec c es).map E.tup = some x from h)
    have z := c_tup ok hr h1 (j := j) (pos := p)
    exact ⟨z, pt_of ok z fun _ => rfl⟩
  | List es p =>
    obtain ⟨xs, h1, rfl⟩ := omap (show (recs rec c es).map E.lst = some x from h)
    have z := c_lst ok hr h1 (pos := p)
    exact ⟨z, pt_of ok z fun _ => rfl⟩
  | Dict ks vs p =>
    cases ks with
    | cons _ _ => cases h
    | nil =>
      cases vs with
      | cons _ _ => cases h
      | nil =>
        cases h
        have z := c_dct (W := W) (Γ := Γ) (X := X) (pos := p)
        exact ⟨z, pt_of ok z fun _ => rfl⟩
  | BinOp a op b p =>
    obtain ⟨y, h1, h⟩ := obind (show (rec c a).bind (fun x => (rec c b).map fun y => E.bin op x y) = some x from h)
    obtain ⟨z, h2, rfl⟩ := omap h
    have z := c_bin (op := op) (pos := p) ok (hr c X a y ok h1).1 (hr c X b z ok h2).1
    exact ⟨z, pt_of ok z fun _ => rfl⟩
  | UnaryOp op a p =>
    cases op with
    | USub =>
      obtain ⟨y, h1, rfl⟩ := omap (show (rec c a).map E.neg = some x from h)
      have z := c_neg (pos := p) (hr c X a y ok h1).1
      exact ⟨z, pt_of ok z fun _ => rfl⟩
    | Not =>
      obtain ⟨y, h1, rfl⟩ := omap (show (rec c a).map E.not = some x from h)
      exact c_not ok (hr c X a y ok h1).1 (hr c X a y ok h1).2
    | _ => cases h
  | BoolOp op es p =>
    obtain ⟨xs, h1, h2⟩ := obind (show (recs rec c es).bind (boolC op) = some x from h)
    obtain ⟨_, _, hp⟩ := recs_ok h1
    obtain ⟨z1, z2⟩ := c_bool ok hr op (pos := p) hp h2
    exact ⟨z1, z2.pt⟩
  | IfExp t a b p =>
    obtain ⟨x1, h1, h⟩ := obind (show (rec c t).bind (fun x => (rec c a).bind fun y => (rec c b).map fun z => E.ite x y z) = some x from h)
    obtain ⟨x2, h2, h⟩ := obind h
    obtain ⟨x3, h3, rfl⟩ := omap h
    exact ⟨c_ite ok (hr c X t x1 ok h1).2 (hr c X a x2 ok h2).1 (hr c X b x3 ok h3).1, t_ite (hr c X t x1 ok h1).2 (hr c X a x2 ok h2).2 (hr c X b x3 ok h3).2⟩
  | Compare a ops bs p =>
    have h : cCmp rec c a ops bs = some x := h
    unfold cCmp at h
    split at h
    · split at h
      · cases h
      · rename_i hm
        obtain ⟨x1, h1, h⟩ := obind h
        obtain ⟨x2, h2, rfl⟩ := omap h
        exact c_cmp ok (hr c X _ _ ok h1).1 (hr c X _ _ ok h2).1 (by simpa using hm)
    · split at h
      · cases h
      · rename_i hm
        obtain ⟨x1, h1, h⟩ := obind h
        obtain ⟨x2, h2, h⟩ := obind h
        obtain ⟨x3, h3, rfl⟩ := omap h
        exact c_chain ok (hr c X _ _ ok h1).1 (hr c X _ _ ok h2).1 (hr c X _ _ ok h3).1 (by simpa using hm)
    · cases h
  | Attribute o f p =>
    have h : (if isBare o then none else (rec c o).map fun x => E.attr x f) = some x := h
    split at h
    · cases h
    · rename_i hb
      obtain ⟨y, h1, rfl⟩ := omap h
      have z := c_attr (pos := p) (f := f) ok (hr c X o y ok h1).1 (by simpa using hb)
      exact ⟨z, pt_of ok z fun _ => rfl⟩
  | Subscript a i p =>
    have z : PE X (.Subscript a i p) (lE W (evE Γ x)) := by
      have h : cSub rec c a i = some x := h
      unfold cSub at h
      split at h
      · obtain ⟨x1, h1, h⟩ := obind h
        obtain ⟨x2, h2, h⟩ := obind h
        obtain ⟨x3, h3, rfl⟩ := omap h
        exact c_sl ok hr (hr c X _ _ ok h1).1 h2 h3
      · obtain ⟨x1, h1, rfl⟩ := omap h
        exact c_slr ok (hr c X _ _ ok h1).1
      · cases h
      · rename_i n1 n2 n3
        obtain ⟨x1, h1, h⟩ := obind h
        obtain ⟨x2, h2, rfl⟩ := omap h
        refine c_idx ok (hr c X _ _ ok h1).1 (hr c X _ _ ok h2).1 ?_
        cases i <;> first | rfl | exact (n3 _ _ _ _ rfl).elim
    exact ⟨z, pt_of ok z fun _ => rfl⟩
  | ListComp elt gens scope p =>
    have z := (c_comp (pos := p) ok hr (show cComp G rec c elt scope gens = some x from h)).1
    exact ⟨z, pt_of ok z fun _ => rfl⟩
  | Call fn args kws p =>
    have z : PE X (.Call fn args kws p) (lE W (evE Γ x)) := by
      cases fn with
      | Name f fp =>
        have h : (match cCall G rec c f args kws with
          | some x => some x
          | none => match (generalizing := false) kws with | [] => cBlt G rec c f args | _ => none) = some x := h
        cases e1 : cCall G rec c f args kws with
        | some y => rw [e1] at h; cases h; exact c_call ok hr e1
        | none =>
          rw [e1] at h
          dsimp only at h
          split at h
          · unfold cBlt at h
            split at h
            · rename_i hb
              cases e2 : cRng G rec c f args with
              | some y => rw [e2] at h; cases h; exact c_rng ok hr hb e2
              | none =>
                rw [e2] at h
                dsimp only at h
                split at h
                · cases h
                · rename_i hn
                  obtain ⟨as, h1, h⟩ := obind h
                  obtain ⟨b, h2, rfl⟩ := omap h
                  exact c_bf ok hr h1 hb h2 fun z => by subst z; exact hn rfl
            · cases h
          · cases h
      | Attribute o m apos =>
        have h : cMeth G rec c o m apos p args kws = some x := h
        unfold cMeth at h
        split at h
        · rename_i hc
          simp only [Bool.and_eq_true, Bool.not_eq_true', decide_eq_true_eq] at hc
          obtain ⟨⟨hl, hb⟩, hn⟩ := hc
          split at h
          · rename_i C hm
            obtain ⟨x1, h1, h⟩ := obind h
            obtain ⟨as, h2, h⟩ := obind h
            obtain ⟨q, h3, h⟩ := obind h
            split at h
            · rename_i hsig
              cases h
              exact c_um ok hr (hr c X o x1 ok h1).1 h2 h3 hsig hb hl hn
            · cases h
          · split at h
            · obtain ⟨x1, h1, h⟩ := obind h
              obtain ⟨as, h2, h⟩ := obind h
              obtain ⟨b, h3, rfl⟩ := omap h
              exact c_bm ok hr (hr c X o x1 ok h1).1 h2 h3 hb hl (by simpa using hn)
            · cases h
        · cases h
      | _ => cases h
    exact ⟨z, pt_of ok z fun _ => by cases fn <;> rfl⟩
  | _ => cases h
theorem convE_ok : ∀ n : Nat, RecOk W G Γ k (convE G n)
  | 0 => fun c X e x _ h => by cases h
  | n + 1 => fun c X e x ok h => cE_ok (convE_ok n) ok h
theorem convE_star : ∀ {n : Nat} {c : CC} {e : Expr} {x : E}, convE G n c e = some x → isStar e = false
  | 0, _, _, _, h => by cases h
  | n + 1, c, e, x, h => by cases e <;> first | rfl | (cases h; done)
end
end Mn
end -- Sd23
section -- Sd24
set_option linter.all false
set_option autoImplicit false
set_option maxRecDepth 100000
namespace Mn
open PySem L2
/-- what is wanted behind a statement's end -/
def KZ (W : Wo) (φ : List Addr) (H : Hp) (fl : Fl) (ρ' : Env) (M' : Mem) (D : Ends) : Prop := ∀ φ' H' σ', Ext W φ H φ' H' → RM W φ' M' H' → RE W φ' H' ρ' σ' →
  match fl with
  | .nx => D.nx σ' H'
  | .rt v => ∀ u, RV W φ' H' v u → D.rt u H'
  | .bk => D.bk σ' H'
  | .ct => D.ct σ' H'
def lZ (W : Wo) (f : Env → Mem → SR) : TS := fun D σ H => ∃ φ M ρ fl ρ' M', RM W φ M H ∧ RE W φ H ρ σ ∧ f ρ M = .ok fl ρ' M' ∧ KZ W φ H fl ρ' M' D
section
variable {W : Wo} {φ φ' : List Addr} {H H' : Hp} {D : Ends} {fl : Fl} {ρ' : Env} {M' : Mem}
theorem KZ.step (e : Ext W φ H φ' H') (q : KZ W φ H fl ρ' M' D) : KZ W φ' H' fl ρ' M' D := fun φ2 H2 σ2 x r re => q φ2 H2 σ2 (e.trans x) r re
theorem Res.st_ok {α : Type} {r : Res α} {f : α → Mem → SR} {fl : Fl} {ρ : Env} {M2 : Mem} (h : r.st f = .ok fl ρ M2) : ∃ a M1, r = .ok a M1 ∧ f a M1 = .ok fl ρ M2 := by
  cases r with
  | ok a M1 => exact ⟨a, M1, rfl, h⟩
  | exc C fs M => cases h
  | stuck => cases h
theorem SR.seq_ok {r : SR} {f : Env → Mem → SR} {fl : Fl} {ρ : Env} {M2 : Mem} (h : r.seq f = .ok fl ρ M2) : (∃ ρ1 M1, r = .ok .nx ρ1 M1 ∧ f ρ1 M1 = .ok fl ρ M2) ∨ (r = .ok fl ρ M2 ∧ ∀ q, fl = .nx → q) := by
  cases r with
  | ok g ρ1 M1 =>
    cases g with
    | nx => exact .inl ⟨ρ1, M1, rfl, h⟩
    | rt v => cases h; exact .inr ⟨rfl, fun q z => nomatch z⟩
    | bk => cases h; exact .inr ⟨rfl, fun q z => nomatch z⟩
    | ct => cases h; exact .inr ⟨rfl, fun q z => nomatch z⟩
  | exc C fs M => cases h
  | stuck => cases h
end
section
variable {W : Wo} {G : GT} {Γ : Gam} {k : Nat} {c : CC} {X : Cx}
theorem ps_weak {st : Stmt} {t t' : TS} (h : PS X st t) (w : ∀ D σ H, t' D σ H → t D σ H) : PS X st t' := ⟨fun pins s σ H D I q => h.run pins s σ H D I (w D σ H q)⟩
theorem pss_weak {st : List Stmt} {t t' : TS} (h : PSs X st t) (w : ∀ D σ H, t' D σ H → t D σ H) : PSs X st t' := ⟨fun pins s σ H D I q => h.run pins s σ H D I (w D σ H q)⟩
def RecS (W : Wo) (G : GT) (Γ : Gam) (k : Nat) (rec : CC → Stmt → Option S) : Prop := ∀ (c : CC) (X : Cx) (st : Stmt) (x : S), OkX W G Γ k c X → rec c st = some x → PS X st (lZ W (evS Γ x))
theorem pss_of (ok : OkX W G Γ k c X) {rec : CC → Stmt → Option S} (hr : RecS W G Γ k rec) {l : List Stmt} {xs : List S} (h : recSs rec c l = some xs) : PSs X l (lZ W (evSs Γ xs)) := by
  have hp := optAll_map (f := rec c) h
  clear h
  induction hp with
  | nil =>
    refine pss_weak pss_nil ?_
    rintro D σ H ⟨φ, M, ρ, fl, ρ', M', r, re, e, q⟩
    cases e
    exact q φ H σ .refl r re
  | @cons st x l xs h1 h2 ih =>
    refine pss_weak (pss_cons (hr c X st x ok h1) ih) ?_
    rintro D σ H ⟨φ, M, ρ, fl, ρ', M', r, re, e, q⟩
    have e : (evS Γ x ρ M).seq (fun ρ M => evSs Γ xs ρ M) = .ok fl ρ' M' := e
    rcases SR.seq_ok e with ⟨ρ1, M1, e1, e2⟩ | ⟨e1, hn⟩
    · exact ⟨φ, M, ρ, .nx, ρ1, M1, r, re, e1, fun φ1 H1 σ1 x1 r1 re1 => ⟨φ1, M1, ρ1, fl, ρ', M', r1, re1, e2, q.step x1⟩⟩
    · refine ⟨φ, M, ρ, fl, ρ', M', r, re, e1, fun φ1 H1 σ1 x1 r1 re1 => ?_⟩
      have z := q φ1 H1 σ1 x1 r1 re1
      cases fl with
      | nx => exact hn _ rfl
      | rt v => exact z
      | bk => exact z
      | ct => exact z
/-- a value, then what is done with it -/
theorem st_weak {g : Env → Mem → SR} {x : E} {h : Val → Env → Mem → SR} (hg : ∀ ρ M, g ρ M = (evE Γ x ρ M).st fun v M => h v ρ M) {T : TS}
    (hT : ∀ D σ H φ M ρ v M1 fl ρ' M', RM W φ M H → RE W φ H ρ σ → evE Γ x ρ M = .ok v M1 → h v ρ M1 = .ok fl ρ' M' → KZ W φ H fl ρ' M' D → T D σ H) : ∀ D σ H, lZ W g D σ H → T D σ H := by
  rintro D σ H ⟨φ, M, ρ, fl, ρ', M', r, re, e, q⟩
  rw [hg] at e
  obtain ⟨v, M1, e1, e2⟩ := Res.st_ok e
  exact hT D σ H φ M ρ v M1 fl ρ' M' r re e1 e2 q
theorem swaps_no {e : Expr} {tg : Option Expr} {l : Nat} {env : PySem.Env} (h : isComp e = false) : swapsWith e tg l env = pure false := by
  cases e <;> first | rfl | (cases h; done)
theorem swaps1 {e tg : Expr} {l : Nat} {env : PySem.Env} (h : isComp e = false) : swapsWithSole [tg] e l env = pure false := by
  show swapsWith e (some tg) l env = pure false
  exact swaps_no h
theorem locL_ok (ok : OkX W G Γ k c X) {x : Str} (h : locL c x = true) : X.env.scope.names.lookup x = some .local := by
  rw [ok.sc]
  unfold locL at h
  split at h
  · assumption
  · cases h
theorem nm_inv {x : Str} {p : Pos} {t : T} (ok : OkX W G Γ k c X) (h : tgC c 8 (.Name x p) = some t) : ∃ i, t = .nm i ∧ c.N[i]? = some x ∧ Loc X.env.scope x ∧ (X.fn x = true ∨ X.env.scope.names.lookup x = some .local) := by
  have h : (if locB c x then (slotOf c x).map T.nm else none) = some t := h
  split at h
  · rename_i hl
    obtain ⟨i, e, rfl⟩ := omap h
    obtain ⟨h1, h2⟩ := locB_loc ok hl
    exact ⟨i, rfl, (slotOf_at e).1, h1, h2⟩
  · cases h
/-- name = e -/
theorem asg_weak {x : E} {i : Nat} : ∀ D σ H, lZ W (evS Γ (.asg (.nm i) x)) D σ H → tAsg (lE W (evE Γ x)) (gName i) D σ H := by
  rintro D σ H ⟨φ, M, ρ, fl, ρ', M', r, re, e, q⟩
  obtain ⟨v, M1, e1, e2⟩ := Res.st_ok (show (evE Γ x ρ M).st (fun v M => match asgT M (.nm i) v ρ with | some ρ' => .ok .nx ρ' M | none => .stuck) = .ok fl ρ' M' from e)
  cases e3 : asgT M1 (.nm i) v ρ with
  | none => rw [e3] at e2; cases e2
  | some ρ1 =>
    rw [e3] at e2
    cases e2
    have e4 := gs_set e3
    subst e4
    exact ⟨φ, M, ρ, v, _, r, re, e1, fun φ1 H1 u x1 r1 ru => q φ1 H1 _ x1 r1 ((re.mono x1).set i ru)⟩
theorem sw_false {c : CC} {elt : Expr} {gs : List Comprehension} {scope : Scope} {pos py : Pos} {y : Str} {l : Nat} {env : PySem.Env} (hn : env.scope.names = c.sc.names) (h : swYes c y py pos scope = false) : swapsWith (.ListComp elt gs scope pos) (some (.Name y py)) l env = pure false := by
  show pure (env.blockKind == .function && env.scope.names.lookup y == some .local && py.line == pos.line && !(scope.names.any fun (n, k) => n == y && (k == .local || k == .cell))) = pure false
  have e : (env.scope.names.lookup y == some .local) = locL c y := by
    rw [hn]
    unfold locL
    split
    · rename_i e; rw [e]; rfl
    · rename_i e
      cases e2 : c.sc.names.lookup y with
      | none => rfl
      | some k => cases k <;> first | rfl | exact (e e2).elim
  rw [e]
  unfold swYes at h
  congr 1
  cases env.blockKind == .function
  · rfl
  · simpa [Bool.and_assoc] using h
theorem s_name (ok : OkX W G Γ k c X) {x : Str} {px pos : Pos} {e : Expr} {y : E} {t : T} (ht : tgC c 8 (.Name x px) = some t) (he : convE G 24 c e = some y) (hs : swOk x px e = true) : PS X (.Assign [.Name x px] e pos) (lZ W (evS Γ (.asg t y))) := by
  obtain ⟨i, rfl, hN, h1, h2⟩ := nm_inv ok ht
  by_cases hc : isComp e = true
  · cases e with
    | ListComp elt gens scope p =>
      by_cases hy : swYes c x px p scope = true
      · have hl : locL c x = true := by
          have hs : (locL c x && (px.line == p.line) && !(scope.names.any fun (n, k) => n == x && (k == .local || k == .cell))) = true := hy
          simp only [Bool.and_eq_true] at hs
          exact hs.1.1
        exact ps_weak ((c_comp (pos := p) ok (convE_ok 23) (show cComp G (convE G 23) c elt scope gens = some y from he)).2 hN hl hy) asg_weak
      · have hy : swYes c x px p scope = false := by simpa using hy
        exact ps_weak (ps_set ok.nd (by rw [ok.N]; exact hN) h1 (convE_ok 24 c X _ y ok he).1 (sw_false (c := c) (by rw [ok.sc]) hy) h2) asg_weak
    | DictComp _ _ _ _ _ => cases hs
    | SetComp _ _ _ _ => cases hs
    | _ => cases hc
  · refine ps_weak (ps_set ok.nd (by rw [ok.N]; exact hN) h1 (convE_ok 24 c X e y ok he).1 (swaps_no (by simpa using hc)) h2) asg_weak
/-- (a, b) = e -/
theorem s_tup (ok : OkX W G Γ k c X) {ts : List Expr} {j : Nat} {pt pos : Pos} {e : Expr} {y : E} {t : T} (ht : tgC c 8 (.Tuple ts j pt) = some t) (he : convE G 24 c e = some y) (hc : isComp e = false) (hp : swappedStores [.Tuple ts j pt] e X.env = pure none) : PS X (.Assign [.Tuple ts j pt] e pos) (lZ W (evS Γ (.asg t y))) := by
  refine ps_weak (ps_asg (convE_ok 24 c X e y ok he).1 (pg_ok ok ht) (swaps1 hc) hp rfl) ?_
  rintro D σ H ⟨φ, M, ρ, fl, ρ', M', r, re, ev, q⟩
  obtain ⟨v, M1, e1, e2⟩ := Res.st_ok (show (evE Γ y ρ M).st (fun v M => match asgT M t v ρ with | some ρ' => .ok .nx ρ' M | none => .stuck) = .ok fl ρ' M' from ev)
  cases e3 : asgT M1 t v ρ with
  | none => rw [e3] at e2; cases e2
  | some ρ1 =>
    rw [e3] at e2
    cases e2
    exact ⟨φ, M, ρ, v, _, r, re, e1, fun φ1 H1 u x1 r1 ru => ⟨φ1, _, v, ρ, _, r1, ru, re.mono x1, e3, fun σ' re' _ => q φ1 H1 σ' x1 r1 re'⟩⟩
/-! ### o[i] = e, o.f = e -/
def lSet (W : Wo) : TSet := fun o i v H Q => ∃ φ M a b w M', RM W φ M H ∧ RV W φ H a o ∧ RV W φ H b i ∧ RV W φ H w v ∧ storeI a b w M = some M' ∧ ∀ φ' H', Ext W φ H φ' H' → RM W φ' M' H' → Q H'
theorem set_ok (ok : OkX W G Γ k c X) : PSet X (lSet W) := by
  intro pins s σ H o i v ov iv u Q I ro ri rv h
  have hu := ok.units
  obtain ⟨φ, M, a, b, w, M', r, ra, rb, rw', e, q⟩ := h
  cases ra with
  | @ref n ad hn =>
    cases em : M[n]? with
    | none => simp [storeI, em] at e
    | some ob =>
      have mu := (r.obj n ob ad em hn)
      cases ob with
      | lst vs =>
        obtain ⟨xs, h1, h2⟩ := r.lst em hn
        cases rb with
        | int j =>
          simp only [storeI, em] at e
          cases e2 : ixOf j vs.length with
          | none => simp only [e2] at e; cases e
          | some m =>
            simp only [e2] at e
            cases e
            have ex : Ext W φ H φ (upd H ad (.lst (xs.set m v))) := Ext.upd (.inr ⟨mu.mut rfl, n, (r.own n _ em).mp rfl, hn⟩)
            exact set_list pins s σ H _ _ v ov iv u Q I ro ri rv ⟨ad, xs, j, m, rfl, rfl, h1, by rw [← h2.length]; exact e2, q φ _ ex (r.set em rfl hn rfl ⟨_, upd_same, (RVs.set m rw' h2).mono ex⟩)⟩
        | _ => simp [storeI, em] at e
      | rol vs => simp [storeI, em] at e
      | ins C fs => simp [storeI, em] at e
      | dct kvs =>
        have e : (if fits kvs b && decide (kvs.length < sizeLine) then some (M.set n (.dct (dput kvs b w))) else none) = some M' := by simpa [storeI, em] using e
        split at e
        · rename_i hc
          rw [Bool.and_eq_true, decide_eq_true_eq] at hc
          cases e
          cases ro
          refine dct_put ok.at_ (by omega) I mu hc.1 rb ri rw' rv hc.2 fun ho s' I' ro' => ⟨_, I', ?_⟩
          exact q φ _ (Ext.upd (.inr ⟨mu.mut rfl, n, (r.own n _ em).mp rfl, hn⟩)) (r.set em rfl hn rfl ro')
        · cases e
  | _ => cases e
theorem s_idx (ok : OkX W G Γ k c X) {o i e : Expr} {p pos : Pos} {x y z : E} (ho : convE G 24 c o = some x) (hi : convE G 24 c i = some y) (he : convE G 24 c e = some z) (hs : isSlice i = false) (hc : isComp e = false) : PS X (.Assign [.Subscript o i p] e pos) (lZ W (evS Γ (.setIdx x y z))) := by
  refine ps_weak (ps_asg (convE_ok 24 c X e z ok he).1 (pg_sub (convE_ok 24 c X o x ok ho).1 (convE_ok 24 c X i y ok hi).1 (set_ok ok) (fun v => by cases i <;> first | rfl | (cases hs; done))) (swaps1 hc) (by unfold swappedStores; rfl) rfl) ?_
  rintro D σ H ⟨φ, M, ρ, fl, ρ', M', r, re, ev, q⟩
  obtain ⟨v, M1, e1, e2⟩ := Res.st_ok (show (evE Γ z ρ M).st (fun v M => (evE Γ x ρ M).st fun x M => (evE Γ y ρ M).st fun y M => match storeI x y v M with | some M' => .ok .nx ρ M' | none => .stuck) = .ok fl ρ' M' from ev)
  obtain ⟨a, M2, e3, e4⟩ := Res.st_ok e2
  obtain ⟨b, M3, e5, e6⟩ := Res.st_ok e4
  cases e7 : storeI a b v M3 with
  | none => rw [e7] at e6; cases e6
  | some M4 =>
    rw [e7] at e6
    cases e6
    exact ⟨φ, M, ρ, v, M1, r, re, e1, fun φ1 H1 u1 x1 r1 ru1 => ⟨φ1, M1, ρ, a, M2, r1, re.mono x1, e3, fun φ2 H2 u2 x2 r2 ru2 => ⟨φ2, M2, ρ, b, M3, r2, re.mono (x1.trans x2), e5, fun φ3 H3 u3 x3 r3 ru3 =>
      ⟨φ3, M3, a, b, v, _, r3, ru2.mono x3, ru3, ru1.mono (x2.trans x3), e7, fun φ4 H4 x4 r4 => q φ4 H4 σ (x1.trans (x2.trans (x3.trans x4))) r4 (re.mono (x1.trans (x2.trans (x3.trans x4))))⟩⟩⟩⟩
theorem put_fd {φ : List Addr} {H : Hp} {fs : List (Str × Val)} {us : List (Str × V)} (r : RFs W φ H fs us) {f : Str} {v : Val} {u : V} (rv : RV W φ H v u) : RFs W φ H (putFd f v fs) (putF f u us) := by
  induction r with
  | nil => exact .cons ⟨rfl, rv⟩ .nil
  | @cons p q ps qs hh hs ih =>
    obtain ⟨p1, p2⟩ := p
    obtain ⟨q1, q2⟩ := q
    obtain ⟨h1, h2⟩ := hh
    dsimp only at h1 h2
    subst h1
    unfold putFd putF
    by_cases e : p1 = f
    · rw [if_pos e, if_pos e]; exact .cons ⟨rfl, rv⟩ hs
    · rw [if_neg e, if_neg e]; exact .cons ⟨rfl, h2⟩ ih
theorem rfs_len {φ : List Addr} {H : Hp} {fs : List (Str × Val)} {us : List (Str × V)} (r : RFs W φ H fs us) : us.length = fs.length := (Paired.length r).symm
theorem s_attr (ok : OkX W G Γ k c X) {o e : Expr} {f : Str} {p pos : Pos} {x z : E} (ho : convE G 24 c o = some x) (he : convE G 24 c e = some z) (hc : isComp e = false) : PS X (.Assign [.Attribute o f p] e pos) (lZ W (evS Γ (.setAttr x f z))) := by
  refine ps_weak (ps_fld (convE_ok 24 c X o x ok ho).1 (convE_ok 24 c X e z ok he).1 (swaps_no hc)) ?_
  rintro D σ H ⟨φ, M, ρ, fl, ρ', M', r, re, ev, q⟩
  obtain ⟨v, M1, e1, e2⟩ := Res.st_ok (show (evE Γ z ρ M).st (fun v M => (evE Γ x ρ M).st fun x M => match storeA Γ.fld x f v M with | some M' => .ok .nx ρ M' | none => .stuck) = .ok fl ρ' M' from ev)
  obtain ⟨a, M2, e3, e4⟩ := Res.st_ok e2
  cases e7 : storeA Γ.fld a f v M2 with
  | none => rw [e7] at e4; cases e4
  | some M4 =>
    rw [e7] at e4
    cases e4
    refine ⟨φ, M, ρ, v, M1, r, re, e1, fun φ1 H1 u1 x1 r1 ru1 => ⟨φ1, M1, ρ, a, M2, r1, re.mono x1, e3, fun φ2 H2 u2 x2 r2 ru2 => ?_⟩⟩
    cases ru2 with
    | @ref n ad hn =>
      cases em : M2[n]? with
      | none => simp [storeA, em] at e7
      | some ob =>
        cases ob with
        | ins C fs =>
          simp only [storeA, em] at e7
          split at e7
          · rename_i hcc
            rw [Bool.and_eq_true, decide_eq_true_eq] at hcc
            cases e7
            obtain ⟨Ca, dx, us, g1, g2, g3⟩ := r2.obj n _ ad em hn
            obtain ⟨Cb, f1, f2, f3⟩ := ok.facts.fld C f hcc.1
            have ec : Cb = Ca := by rw [g1] at f1; cases f1; rfl
            subst ec
            have mu : Mut (H2 ad) := by rw [g2]; trivial
            have ex : Ext W φ2 H2 φ2 (upd H2 ad (.ins Cb dx (putF f u1 us))) := Ext.upd (.inr ⟨mu, n, (r2.own n _ em).mp rfl, hn⟩)
            exact ⟨ad, Cb, dx, us, rfl, g2, by rw [ok.at_.K]; exact f2, by rw [ok.at_.K]; exact f3, by rw [rfs_len g3]; exact hcc.2,
              q φ2 _ σ (x1.trans (x2.trans ex)) (r2.set em rfl hn rfl ⟨Cb, dx, _, g1, upd_same, Paired.mono (put_fd g3 (ru1.mono x2)) fun p q z => ⟨z.1, z.2.mono ex⟩⟩) (re.mono (x1.trans (x2.trans ex)))⟩
          · cases e7
        | _ => simp [storeA, em] at e7
    | _ => cases e7
/-- name += e -/
theorem s_aug (ok : OkX W G Γ k c X) {x : Str} {px pos : Pos} {e : Expr} {i : Nat} {y : E} (ht : tgC c 8 (.Name x px) = some (.nm i)) (he : convE G 24 c e = some y) : PS X (.AugAssign (.Name x px) .Add e pos) (lZ W (evS Γ (.aug i y))) := by
  obtain ⟨j, ej, hN, h1, h2⟩ := nm_inv ok ht
  cases ej
  refine ps_weak (ps_aug ok.nd (by rw [ok.N]; exact hN) h1 (convE_ok 24 c X e y ok he).1 ip_add h2) ?_
  rintro D σ H ⟨φ, M, ρ, fl, ρ', M', r, re, ev, q⟩
  have ev : (match ρ[i]? with
    | some (some (.int a)) => (evE Γ y ρ M).st fun v M => match v with | .int b => .ok .nx (ρ.set i (some (.int (a + b)))) M | _ => .stuck
    | _ => .stuck) = SR.ok fl ρ' M' := ev
  split at ev
  · rename_i a ea
    obtain ⟨v, M1, e1, e2⟩ := Res.st_ok ev
    obtain ⟨u, g1, g2⟩ := re.get i _ ea
    cases g2
    refine ⟨_, g1, φ, M, ρ, v, M1, r, re, e1, fun φ1 H1 u1 x1 r1 ru1 => ?_⟩
    cases ru1 with
    | int b =>
      cases e2
      exact ⟨a, b, rfl, rfl, q φ1 H1 _ x1 r1 ((re.mono x1).set i (.int _))⟩
    | _ => cases e2
  · cases ev
theorem s_expr (ok : OkX W G Γ k c X) {pos : Pos} {e : Expr} {y : E} (he : convE G 24 c e = some y) (hc : isComp e = false) : PS X (.Expr e pos) (lZ W (evS Γ (.expr y))) := by
  refine ps_weak (ps_expr (convE_ok 24 c X e y ok he).1 (swaps_no hc)) ?_
  refine st_weak (g := evS Γ (.expr y)) (x := y) (h := fun _ ρ M => .ok .nx ρ M) (fun _ _ => rfl) ?_
  intro D σ H φ M ρ v M1 fl ρ' M' r re e1 e2 q
  cases e2
  exact ⟨φ, M, ρ, v, _, r, re, e1, fun φ1 H1 u x1 r1 ru => q φ1 H1 σ x1 r1 (re.mono x1)⟩
theorem s_ret (ok : OkX W G Γ k c X) {pos : Pos} {e : Expr} {y : E} (he : convE G 24 c e = some y) : PS X (.Return (some e) pos) (lZ W (evS Γ (.ret y))) := by
  refine ps_weak (ps_ret (convE_ok 24 c X e y ok he).1) ?_
  refine st_weak (g := evS Γ (.ret y)) (x := y) (h := fun v ρ M => .ok (.rt v) ρ M) (fun _ _ => rfl) ?_
  intro D σ H φ M ρ v M1 fl ρ' M' r re e1 e2 q
  cases e2
  exact ⟨φ, M, ρ, v, _, r, re, e1, fun φ1 H1 u x1 r1 ru => q φ1 H1 σ x1 r1 (re.mono x1) u ru⟩
theorem s_retN {pos : Pos} : PS X (.Return none pos) (lZ W (evS Γ (.ret .non))) := by
  refine ps_weak ps_retN ?_
  refine st_weak (Γ := Γ) (g := evS Γ (.ret .non)) (x := .non) (h := fun v ρ M => .ok (.rt v) ρ M) (fun _ _ => rfl) ?_
  intro D σ H φ M ρ v M1 fl ρ' M' r re e1 e2 q
  cases e1
  cases e2
  exact q φ H σ .refl r re .non .non
theorem s_if (ok : OkX W G Γ k c X) {rec : CC → Stmt → Option S} (hr : RecS W G Γ k rec) {pos : Pos} {t : Expr} {a b : List Stmt} {x : E} {as bs : List S} (ht : convE G 24 c t = some x) (ha : recSs rec c a = some as) (hb : recSs rec c b = some bs) : PS X (.If t a b pos) (lZ W (evS Γ (.ite x as bs))) := by
  refine ps_weak (ps_if (convE_ok 24 c X t x ok ht).2 (pss_of ok hr ha) (pss_of ok hr hb)) ?_
  rintro D σ H ⟨φ, M, ρ, fl, ρ', M', r, re, ev, q⟩
  obtain ⟨d, M1, e1, e2⟩ := Res.st_ok (show (evT Γ x ρ M).st (fun k M => if k then evSs Γ as ρ M else evSs Γ bs ρ M) = .ok fl ρ' M' from ev)
  refine ⟨φ, M, ρ, d, M1, r, re, e1, fun φ1 H1 x1 r1 => ?_⟩
  cases d with
  | true => exact ⟨φ1, M1, ρ, fl, ρ', M', r1, re.mono x1, e2, q.step x1⟩
  | false => exact ⟨φ1, M1, ρ, fl, ρ', M', r1, re.mono x1, e2, q.step x1⟩
theorem s_for (ok : OkX W G Γ k c X) {rec : CC → Stmt → Option S} (hr : RecS W G Γ k rec) {pos : Pos} {tg iter : Expr} {body : List Stmt} {t : T} {p : IK × List E} {bs : List S} (ht : tgC c 8 tg = some t) (hi : cIt G (convE G 24) c tg iter = some p) (hb : recSs rec c body = some bs) :
    PS X (.For tg iter body [] pos) (lZ W (evS Γ (.for p.1 p.2 t bs))) := by
  obtain ⟨pi, hs⟩ := pi_of ok (convE_ok 24) hi
  refine ps_weak (ps_for (by rw [ok.xe]; exact PassesOwn.never) ok.calm pi (pg_ok ok ht) (pss_of ok hr hb) hs) ?_
  rintro D σ H ⟨φ, M, ρ, fl, ρ', M', r, re, ev, q⟩
  obtain ⟨vs, M1, e1, e2⟩ := Res.st_ok (show (evEs Γ p.2 ρ M).st (fun vs M => match srcOf p.1 vs M with
    | none => .stuck
    | some src => match src.len M with
      | none => .stuck
      | some len => forL (fun ρ M => evSs Γ bs ρ M) src t len len ρ M) = .ok fl ρ' M' from ev)
  cases e3 : srcOf p.1 vs M1 with
  | none => rw [e3] at e2; cases e2
  | some src =>
    rw [e3] at e2
    dsimp only at e2
    cases e4 : src.len M1 with
    | none => rw [e4] at e2; cases e2
    | some len =>
      rw [e4] at e2
      dsimp only at e2
      refine ⟨φ, M, ρ, vs, M1, src, len, r, re, e1, e3, e4, fun φ1 H1 J x1 r1 wk => ?_⟩
      refine ⟨fun i m σc Hc => ∃ φ2 Mc ρc, m = len - i ∧ i ≤ len ∧ Ext W φ1 H1 φ2 Hc ∧ RM W φ2 Mc Hc ∧ RE W φ2 Hc ρc σc ∧ forL (fun ρ M => evSs Γ bs ρ M) src t len (len - i) ρc Mc = .ok fl ρ' M', ⟨len, φ1, M1, ρ, by omega, Nat.zero_le _, .refl, r1, re.mono x1, e2⟩, ?_⟩
      rintro i m σc Hc ⟨φ2, Mc, ρc, rfl, hi, x2, r2, re2, ec⟩
      by_cases hlt : i < len
      · obtain ⟨n, en⟩ : ∃ n, len - i = n + 1 := ⟨len - i - 1, by omega⟩
        rw [en] at ec
        have ei : len - (n + 1) = i := by omega
        have ec : (match src.at Mc len (len - (n + 1)) with
          | none => .stuck
          | some v => match asgT Mc t v ρc with
            | none => .stuck
            | some ρ' => match evSs Γ bs ρ' Mc with
              | .ok .nx ρ2 M2 => forL (fun ρ M => evSs Γ bs ρ M) src t len n ρ2 M2
              | .ok .ct ρ2 M2 => forL (fun ρ M => evSs Γ bs ρ M) src t len n ρ2 M2
              | .ok .bk ρ2 M2 => .ok .nx ρ2 M2
              | r => r) = SR.ok fl ρ' M' := ec
        rw [ei] at ec
        cases e7 : src.at Mc len i with
        | none => rw [e7] at ec; cases ec
        | some w =>
          rw [e7] at ec
          dsimp only at ec
          cases e8 : asgT Mc t w ρc with
          | none => rw [e8] at ec; cases ec
          | some ρ1 =>
            rw [e8] at ec
            dsimp only at ec
            obtain ⟨g1, g2⟩ := wk.go i φ2 Hc Mc w x2 r2 hlt e7
            have en2 : len - (i + 1) = n := by omega
            refine .inr ⟨g1, fun σ' H' => ∃ φ2 Mc ρc, i + 1 ≤ len ∧ Ext W φ1 H1 φ2 H' ∧ RM W φ2 Mc H' ∧ RE W φ2 H' ρc σ' ∧ forL (fun ρ M => evSs Γ bs ρ M) src t len (len - (i + 1)) ρc Mc = .ok fl ρ' M',
              fun σ' H' ⟨φ3, M3, ρ3, z⟩ => ⟨len - (i + 1), by omega, φ3, M3, ρ3, rfl, z⟩, fun y H2 hy => ?_⟩
            obtain ⟨x3, r3, rw3⟩ := g2 y H2 hy
            refine ⟨φ2, Mc, w, ρc, ρ1, r3, rw3, re2.mono x3, e8, fun σ' re' _ => ?_⟩
            cases e9 : evSs Γ bs ρ1 Mc with
            | exc C fs M => rw [e9] at ec; cases ec
            | stuck => rw [e9] at ec; cases ec
            | ok f2 ρ2 M2 =>
              rw [e9] at ec
              refine ⟨φ2, Mc, ρ1, f2, ρ2, M2, r3, re', e9, fun φ3 H3 σ3 x4 r4 re4 => ?_⟩
              cases f2 with
              | nx => exact ⟨φ3, M2, ρ2, by omega, x2.trans (x3.trans x4), r4, re4, by rw [en2]; exact ec⟩
              | ct => exact ⟨φ3, M2, ρ2, by omega, x2.trans (x3.trans x4), r4, re4, by rw [en2]; exact ec⟩
              | bk => cases ec; exact q φ3 H3 σ3 (x1.trans (x2.trans (x3.trans x4))) r4 re4
              | rt v => cases ec; exact q φ3 H3 σ3 (x1.trans (x2.trans (x3.trans x4))) r4 re4
      · have ei : i = len := by omega
        subst ei
        rw [Nat.sub_self] at ec
        have ec : (if src.len Mc = some i then SR.ok .nx ρc Mc else .stuck) = .ok fl ρ' M' := ec
        split at ec
        · rename_i hl
          cases ec
          exact .inl ⟨wk.stop φ2 Hc _ x2 r2 hl, q φ2 Hc σc (x1.trans x2) r2 re2⟩
        · cases ec
theorem s_while (ok : OkX W G Γ k c X) {rec : CC → Stmt → Option S} (hr : RecS W G Γ k rec) {pos : Pos} {t : Expr} {body : List Stmt} {x : E} {bs : List S} (ht : convE G 24 c t = some x) (hb : recSs rec c body = some bs) : PS X (.While t body [] pos) (lZ W (evS Γ (.while x bs))) := by
  refine ps_weak (ps_while (by rw [ok.xe]; exact PassesOwn.never) (convE_ok 24 c X t x ok ht).2 (pss_of ok hr hb)) ?_
  rintro D σ H ⟨φ, M, ρ, fl, ρ', M', r, re, ev, q⟩
  refine ⟨fun m σc Hc => ∃ φ2 Mc ρc, Ext W φ H φ2 Hc ∧ RM W φ2 Mc Hc ∧ RE W φ2 Hc ρc σc ∧ whileL (fun ρ M => evT Γ x ρ M) (fun ρ M => evSs Γ bs ρ M) m ρc Mc = .ok fl ρ' M', ⟨Γ.fuel, φ, M, ρ, .refl, r, re, ev⟩, ?_⟩
  rintro m σc Hc ⟨φ2, Mc, ρc, x2, r2, re2, ec⟩
  cases m with
  | zero => cases ec
  | succ n =>
    obtain ⟨d, M1, e1, e2⟩ := Res.st_ok (show (evT Γ x ρc Mc).st (fun b M => if b then
      (match evSs Γ bs ρc M with
        | .ok .nx ρ2 M2 => whileL (fun ρ M => evT Γ x ρ M) (fun ρ M => evSs Γ bs ρ M) n ρ2 M2
        | .ok .ct ρ2 M2 => whileL (fun ρ M => evT Γ x ρ M) (fun ρ M => evSs Γ bs ρ M) n ρ2 M2
        | .ok .bk ρ2 M2 => .ok .nx ρ2 M2
        | r => r) else .ok .nx ρc M) = .ok fl ρ' M' from ec)
    refine ⟨φ2, Mc, ρc, d, M1, r2, re2, e1, fun φ3 H3 x3 r3 => ?_⟩
    cases d with
    | false => cases e2; exact q φ3 H3 σc (x2.trans x3) r3 (re2.mono x3)
    | true =>
      simp only [if_true] at e2 ⊢
      refine ⟨fun σ' H' => ∃ φ2 Mc ρc, Ext W φ H φ2 H' ∧ RM W φ2 Mc H' ∧ RE W φ2 H' ρc σ' ∧ whileL (fun ρ M => evT Γ x ρ M) (fun ρ M => evSs Γ bs ρ M) n ρc Mc = .ok fl ρ' M', fun σ' H' ⟨φ3, M3, ρ3, z⟩ => ⟨n, Nat.lt_succ_self _, φ3, M3, ρ3, z⟩, ?_⟩
      cases e9 : evSs Γ bs ρc M1 with
      | exc C fs M => rw [e9] at e2; cases e2
      | stuck => rw [e9] at e2; cases e2
      | ok f2 ρ2 M2 =>
        rw [e9] at e2
        refine ⟨φ3, M1, ρc, f2, ρ2, M2, r3, re2.mono x3, e9, fun φ4 H4 σ4 x4 r4 re4 => ?_⟩
        cases f2 with
        | nx => exact ⟨φ4, M2, ρ2, x2.trans (x3.trans x4), r4, re4, e2⟩
        | ct => exact ⟨φ4, M2, ρ2, x2.trans (x3.trans x4), r4, re4, e2⟩
        | bk => cases e2; exact q φ4 H4 σ4 (x2.trans (x3.trans x4)) r4 re4
        | rt v => cases e2; exact q φ4 H4 σ4 (x2.trans (x3.trans x4)) r4 re4
end
end Mn
end -- Sd24
section -- Sd25
set_option linter.all false
set_option autoImplicit false
set_option maxRecDepth 100000
namespace Mn
open PySem L2
section
variable {W : Wo} {G : GT} {Γ : Gam} {k : Nat} {c : CC} {X : Cx}
theorem block_fn {env : PySem.Env} (h : env.scope.kind = .function) : env.blockKind = .function := by unfold Env.blockKind; rw [h]; rfl
theorem swap2 {x y : Str} {px py pt p2 : Pos} {a b : Expr} {j k2 : Nat} {env : PySem.Env} (hk : env.scope.kind = .function) (hx : env.scope.names.lookup x = some .local) (hy : env.scope.names.lookup y = some .local) (hl : (py.line == px.line) = true) (hn : x ≠ y)
    (hs : isStar a = false ∧ isStar b = false) (hf : ([a, b].all (foldedForSure 8)) = false) (hc : ([a, b].all (constantsAlone 8)) = false) : swappedStores [.Tuple [.Name x px, .Name y py] j pt] (.Tuple [a, b] k2 p2) env = pure (some [x, y]) := by
  have kx : env.kindOf x = some .local := hx
  have ky : env.kindOf y = some .local := hy
  have st : ∀ e : Expr, isStar e = false → (match e with | .Starred .. => true | _ => false) = false := fun e h => by cases e <;> first | rfl | (cases h; done)
  have he : ([x, y].eraseDups.length != [x, y].length) = false := by
    have : (y == x) = false := by simpa using (Ne.symm hn)
    simp [List.eraseDups_cons, this]
  unfold swappedStores
  simp only [block_fn hk, kx, ky, hl, hf, hc, List.any_cons, List.any_nil, List.filterMap_cons, List.filterMap_nil, st a hs.1, st b hs.2, List.head?_cons, Option.map_some, Option.getD_some, Expr.pos]
  simp [he]
  have nst : ∀ {e : Expr} {q : Prop}, isStar e = false → ((match e with | .Starred .. => true | _ => false) = true → q) := fun {e q} h z => by rw [st e h] at z; cases z
  rw [if_neg (by
    rintro (q | q)
    · cases a <;> first | (cases q; done) | (cases hs.1; done)
    · cases b <;> first | (cases q; done) | (cases hs.2; done)), if_pos (by simpa using he)]
theorem swap3 {x y z : Str} {px py pz pt p2 : Pos} {a b d : Expr} {j k2 : Nat} {env : PySem.Env} (hk : env.scope.kind = .function) (hx : env.scope.names.lookup x = some .local) (hy : env.scope.names.lookup y = some .local) (hz : env.scope.names.lookup z = some .local)
    (hl : (py.line == px.line) = true) (hl2 : (pz.line == px.line) = true) (hn : [x, y, z].Nodup)
    (hs : isStar a = false ∧ isStar b = false ∧ isStar d = false) (hf : ([a, b, d].all (foldedForSure 8)) = false) (hc : ([a, b, d].all (constantsAlone 8)) = false) : swappedStores [.Tuple [.Name x px, .Name y py, .Name z pz] j pt] (.Tuple [a, b, d] k2 p2) env = pure (some [x, y, z]) := by
  have kx : env.kindOf x = some .local := hx
  have ky : env.kindOf y = some .local := hy
  have kz : env.kindOf z = some .local := hz
  have st : ∀ e : Expr, isStar e = false → (match e with | .Starred .. => true | _ => false) = false := fun e h => by cases e <;> first | rfl | (cases h; done)
  simp only [List.nodup_cons, List.mem_cons, List.not_mem_nil, or_false, not_or] at hn
  have he : ([x, y, z].eraseDups.length != [x, y, z].length) = false := by
    have h1 : (y == x) = false := by simpa using (Ne.symm hn.1.1)
    have h2 : (z == x) = false := by simpa using (Ne.symm hn.1.2)
    have h3 : (z == y) = false := by simpa using (Ne.symm hn.2.1)
    simp [List.eraseDups_cons, h1, h2, h3]
  unfold swappedStores
  simp only [block_fn hk, kx, ky, kz, hl, hl2, hf, hc, List.any_cons, List.any_nil, List.filterMap_cons, List.filterMap_nil, st a hs.1, st b hs.2.1, st d hs.2.2, List.head?_cons, Option.map_some, Option.getD_some, Expr.pos]
  simp [he]
  rw [if_neg (by
    rintro (q | q | q)
    · cases a <;> first | (cases q; done) | (cases hs.1; done)
    · cases b <;> first | (cases q; done) | (cases hs.2.1; done)
    · cases d <;> first | (cases q; done) | (cases hs.2.2; done)), if_pos (by simpa using he)]
theorem plain_nm (ok : OkX W G Γ k c X) {x : Str} {p : Pos} {n : Nat} {t : T} (h : tgC c n (.Name x p) = some t) : ∃ i, t = .nm i ∧ c.N[i]? = some x := by
  have h : (if locB c x then (slotOf c x).map T.nm else none) = some t := by cases n <;> exact h
  split at h
  · obtain ⟨i, e, rfl⟩ := omap h
    exact ⟨i, rfl, (slotOf_at e).1⟩
  · cases h
theorem slot_ne {N : List Str} {x y : Str} {i j : Nat} (hx : N[i]? = some x) (hy : N[j]? = some y) (h : x ≠ y) : i ≠ j := fun z => by subst z; rw [hx] at hy; cases hy; exact h rfl
theorem plain_name {t : Expr} {l : Nat} (h : (match t with | .Name x p => locL c x && p.line == l | _ => false) = true) : ∃ x p, t = .Name x p ∧ locL c x = true ∧ (p.line == l) = true := by
  cases t with
  | Name x p => rw [Bool.and_eq_true] at h; exact ⟨x, p, rfl, h.1, h.2⟩
  | _ => cases h
theorem asgTs_nil {M : Mem} {vs : List Val} {ρ ρ' : Env} (h : asgTs M [] vs ρ = some ρ') : vs = [] ∧ ρ' = ρ := by
  cases vs with
  | nil => cases h; exact ⟨rfl, rfl⟩
  | cons _ _ => cases h
theorem asgTs_nm {M : Mem} {i : Nat} {ts : List T} {vs : List Val} {ρ ρ' : Env} (h : asgTs M (.nm i :: ts) vs ρ = some ρ') : ∃ v ws, vs = v :: ws ∧ asgTs M ts ws (ρ.set i (some v)) = some ρ' := by
  cases vs with
  | nil => cases h
  | cons v ws =>
    have h : (match asgT M (.nm i) v ρ with | some ρ' => asgTs M ts ws ρ' | none => none) = some ρ' := h
    cases e : asgT M (.nm i) v ρ with
    | none => rw [e] at h; cases h
    | some ρ1 =>
      rw [e] at h
      have e2 := gs_set e
      subst e2
      exact ⟨v, ws, rfl, h⟩
theorem fm_lt {α β : Type} {f : α → Option β} : ∀ {l : List α}, (∃ x ∈ l, f x = none) → (l.filterMap f).length < l.length
  | [], ⟨x, h, _⟩ => (List.not_mem_nil h).elim
  | a :: l, ⟨x, h, e⟩ => by
    have le := List.length_filterMap_le f l
    rw [List.filterMap_cons]
    cases e2 : f a with
    | none => exact Nat.lt_succ_of_le le
    | some b =>
      rcases List.mem_cons.mp h with rfl | h
      · rw [e] at e2; cases e2
      · exact Nat.succ_lt_succ (fm_lt ⟨x, h, e⟩)
theorem swap_none {c : CC} {ts vs : List Expr} {j k2 : Nat} {pt p2 : Pos} {env : PySem.Env} (hn : env.scope.names = c.sc.names) (h : parNo c ts vs = true) : swappedStores [.Tuple ts j pt] (.Tuple vs k2 p2) env = pure none := by
  have kl : ∀ x, (env.kindOf x == some .local) = locL c x := fun x => by
    show (env.scope.names.lookup x == some .local) = _
    rw [hn]
    unfold locL
    split
    · rename_i e; rw [e]; rfl
    · rename_i e
      cases e2 : c.sc.names.lookup x with
      | none => rfl
      | some k => cases k <;> first | rfl | exact (e e2).elim
  unfold swappedStores
  dsimp only
  by_cases h1 : (!(ts.length == 2 || ts.length == 3) || vs.length != ts.length || env.blockKind != .function) = true
  · rw [if_pos h1]
  rw [if_neg h1]
  split
  · rfl
  split
  · rfl
  rename_i h3
  split
  · rfl
  rename_i h4
  exfalso
  simp only [parNo, Bool.or_eq_true] at h
  simp only [Bool.or_eq_true, not_or] at h1 h3
  rcases h with ((h | h) | h) | h
  · exact h1.1.1 h
  · exact h1.1.2 h
  · exact h4 h
  · obtain ⟨t, ht, e⟩ := List.any_eq_true.mp h
    refine h3.1 (bne_iff_ne.mpr (Nat.ne_of_lt (fm_lt ⟨t, ht, ?_⟩)))
    cases t with
    | Name x p =>
      have e : (!(locL c x && p.line == lineOf ts)) = true := e
      rw [← kl x, Bool.not_eq_true'] at e
      show (if env.kindOf x == some .local && p.line == lineOf ts then some x else none) = none
      rw [e]; rfl
    | _ => rfl
theorem s_par (ok : OkX W G Γ k c X) {ts vs : List Expr} {j k2 : Nat} {pt p2 pos : Pos} {y : E} {t : T} (ht : tgC c 8 (.Tuple ts j pt) = some t) (he : convE G 24 c (.Tuple vs k2 p2) = some y) (hp : parOk c ts vs = true) : PS X (.Assign [.Tuple ts j pt] (.Tuple vs k2 p2) pos) (lZ W (evS Γ (.asg t y))) := by
  obtain ⟨tl, e1, rfl⟩ := omap (show (optAll (ts.map (tgC c 7))).map T.tp = some t from ht)
  have hts := optAll_map e1
  obtain ⟨xs, e2, rfl⟩ := omap (show (recs (convE G 23) c vs).map E.tup = some y from he)
  obtain ⟨_, hs, hvs⟩ := recs_ok e2
  have pa := pa_list ok (convE_ok (W := W) (Γ := Γ) (k := k) 23) hvs hs
  unfold parOk at hp
  simp only [Bool.and_eq_true, Bool.or_eq_true, Bool.not_eq_true', decide_eq_true_eq, beq_iff_eq] at hp
  obtain ⟨⟨⟨⟨⟨hl, hl2⟩, hpl⟩, hnd⟩, hf⟩, hc⟩ := hp
  have main : ∀ {D : Ends} {σ : L2.St} {H : Hp}, lZ W (evS Γ (.asg (.tp tl) (.tup xs))) D σ H → ∃ φ M ρ us M1 ρ1, RM W φ M H ∧ RE W φ H ρ σ ∧ evEs Γ xs ρ M = .ok us M1 ∧ asgTs M1 tl us ρ = some ρ1 ∧ KZ W φ H .nx ρ1 M1 D := fun {D σ H} hw => by
    obtain ⟨φ, M, ρ, fl, ρ', M', r, re, ev, q⟩ := hw
    obtain ⟨v, M1, g1, g2⟩ := Res.st_ok (show ((evEs Γ xs ρ M).bind fun vs M => Res.ok (Val.tup vs) M).st (fun v M => match asgT M (.tp tl) v ρ with | some ρ' => .ok .nx ρ' M | none => .stuck) = .ok fl ρ' M' from ev)
    obtain ⟨us, M2, g3, g4⟩ := Res.bind_ok g1
    cases g4
    cases g5 : asgTs M1 tl us ρ with
    | none =>
      have g2 : (match asgTs M1 tl us ρ with | some ρ' => SR.ok .nx ρ' M1 | none => .stuck) = .ok fl ρ' M' := g2
      rw [g5] at g2; cases g2
    | some ρ1 =>
      have g2 : (match asgTs M1 tl us ρ with | some ρ' => SR.ok .nx ρ' M1 | none => .stuck) = .ok fl ρ' M' := g2
      rw [g5] at g2
      cases g2
      exact ⟨φ, M, ρ, us, _, _, r, re, g3, g5, q⟩
  rcases hl with hl | hl
  · match ts, vs, hl, hl2, hpl, hnd, hts, hs, hf, hc, pa with
    | [t1, t2], [v1, v2], _, _, hpl, hnd, q0, hs, hf, hc, pa =>
      simp only [plainTs, List.all_cons, List.all_nil, Bool.and_true, Bool.and_eq_true] at hpl
      obtain ⟨x, px, rfl, lx, _⟩ := plain_name hpl.1
      obtain ⟨z, pz, rfl, lz, ll⟩ := plain_name hpl.2
      have hxz : x ≠ z := by
        intro e; subst e
        have : [x, x].Nodup := hnd
        simp at this
      simp only [List.any_cons, List.any_nil, Bool.or_false, Bool.or_eq_false_iff] at hs
      cases q0 with
      | cons a1 q1 =>
        cases q1 with
        | cons a2 q2 =>
          cases q2
          obtain ⟨i1, rfl, n1⟩ := plain_nm ok a1
          obtain ⟨i2, rfl, n2⟩ := plain_nm ok a2
          refine ⟨fun pins s σ H D I hw => (ps_par ok.calm ok.nd (by rw [ok.N]; exact n1) (by rw [ok.N]; exact n2) (slot_ne n1 n2 hxz) (locL_ok ok lx) (locL_ok ok lz) pa (swap2 I.ok.kind (locL_ok ok lx) (locL_ok ok lz) ll hxz hs hf hc) (swaps1 rfl)).run pins s σ H D I ?_⟩
          obtain ⟨φ, M, ρ, us, M1, ρ1, r, re, g1, g2, q⟩ := main hw
          obtain ⟨u1, us1, rfl, g3⟩ := asgTs_nm g2
          obtain ⟨u2, us2, rfl, g4⟩ := asgTs_nm g3
          obtain ⟨rfl, rfl⟩ := asgTs_nil g4
          refine ⟨φ, M, ρ, _, M1, r, re, g1, fun φ1 H1 ws x1 r1 rws => ?_⟩
          obtain ⟨w1, w2, rfl, rw1, rw2⟩ := RVs.two rws
          exact ⟨w1, w2, rfl, q φ1 H1 _ x1 r1 (((re.mono x1).set i1 rw1).set i2 rw2)⟩
  · match ts, vs, hl, hl2, hpl, hnd, hts, hs, hf, hc, pa with
    | [t1, t2, t3], [v1, v2, v3], _, _, hpl, hnd, q0, hs, hf, hc, pa =>
      simp only [plainTs, List.all_cons, List.all_nil, Bool.and_true, Bool.and_eq_true] at hpl
      obtain ⟨x, px, rfl, lx, _⟩ := plain_name hpl.1
      obtain ⟨z, pz, rfl, lz, ll⟩ := plain_name hpl.2.1
      obtain ⟨w, pw, rfl, lw, ll2⟩ := plain_name hpl.2.2
      have nd : [x, z, w].Nodup := hnd
      have nd2 := nd
      simp only [List.nodup_cons, List.mem_cons, List.not_mem_nil, or_false, not_or] at nd2
      simp only [List.any_cons, List.any_nil, Bool.or_false, Bool.or_eq_false_iff] at hs
      cases q0 with
      | cons a1 q1 =>
        cases q1 with
        | cons a2 q2 =>
          cases q2 with
          | cons a3 q3 =>
            cases q3
            obtain ⟨i1, rfl, n1⟩ := plain_nm ok a1
            obtain ⟨i2, rfl, n2⟩ := plain_nm ok a2
            obtain ⟨i3, rfl, n3⟩ := plain_nm ok a3
            refine ⟨fun pins s σ H D I hw => (ps_par3 ok.calm ok.nd (by rw [ok.N]; exact n1) (by rw [ok.N]; exact n2) (by rw [ok.N]; exact n3) (slot_ne n1 n2 nd2.1.1) (slot_ne n1 n3 nd2.1.2) (slot_ne n2 n3 nd2.2.1) (locL_ok ok lx) (locL_ok ok lz) (locL_ok ok lw) pa
              (swap3 I.ok.kind (locL_ok ok lx) (locL_ok ok lz) (locL_ok ok lw) ll ll2 nd hs hf hc) (swaps1 rfl)).run pins s σ H D I ?_⟩
            obtain ⟨φ, M, ρ, us, M1, ρ1, r, re, g1, g2, q⟩ := main hw
            obtain ⟨u1, us1, rfl, g3⟩ := asgTs_nm g2
            obtain ⟨u2, us2, rfl, g4⟩ := asgTs_nm g3
            obtain ⟨u3, us3, rfl, g5⟩ := asgTs_nm g4
            obtain ⟨rfl, rfl⟩ := asgTs_nil g5
            refine ⟨φ, M, ρ, _, M1, r, re, g1, fun φ1 H1 ws x1 r1 rws => ?_⟩
            cases rws with
            | cons rw1 rws =>
              obtain ⟨w2, w3, rfl, rw2, rw3⟩ := RVs.two rws
              exact ⟨_, w2, w3, rfl, q φ1 H1 _ x1 r1 ((((re.mono x1).set i1 rw1).set i2 rw2).set i3 rw3)⟩
/-! ### all statements -/
theorem cS_ok (ok : OkX W G Γ k c X) {rec : CC → Stmt → Option S} (hr : RecS W G Γ k rec) {st : Stmt} {x : S} (h : cS G (convE G 24) rec c st = some x) : PS X st (lZ W (evS Γ x)) := by
  unfold cS at h
  split at h
  · rename_i tg e pos
    unfold cAsg at h
    split at h
    · split at h
      · rename_i hs
        obtain ⟨t, h1, h⟩ := obind h
        obtain ⟨y, h2, rfl⟩ := omap h
        exact s_name ok h1 h2 hs
      · cases h
    · split at h
      · split at h
        · rename_i hp
          obtain ⟨t, h1, h⟩ := obind h
          obtain ⟨y, h2, rfl⟩ := omap h
          rw [Bool.or_eq_true] at hp
          rcases hp with hp | hp
          · exact s_par ok h1 h2 hp
          · exact s_tup ok h1 h2 rfl (swap_none (c := c) (by rw [ok.sc]) hp)
        · cases h
      · rename_i hn
        split at h
        · cases h
        · rename_i hc
          obtain ⟨t, h1, h⟩ := obind h
          obtain ⟨y, h2, rfl⟩ := omap h
          exact s_tup ok h1 h2 (by simpa using hc) (by unfold swappedStores; cases e <;> first | rfl | exact (hn _ _ _ rfl).elim)
    · split at h
      · cases h
      · rename_i hc
        simp only [Bool.or_eq_true, not_or, Bool.not_eq_true] at hc
        obtain ⟨y1, h1, h⟩ := obind h
        obtain ⟨y2, h2, h⟩ := obind h
        obtain ⟨y3, h3, rfl⟩ := omap h
        exact s_idx ok h1 h2 h3 hc.1 hc.2
    · split at h
      · cases h
      · rename_i hc
        obtain ⟨y1, h1, h⟩ := obind h
        obtain ⟨y3, h3, rfl⟩ := omap h
        exact s_attr ok h1 h3 (by simpa using hc)
    · cases h
  · obtain ⟨t, h1, h⟩ := obind h
    split at h
    · obtain ⟨y, h2, rfl⟩ := omap h
      exact s_aug ok h1 h2
    · cases h
  · split at h
    · cases h
    · rename_i hc
      obtain ⟨y, h2, rfl⟩ := omap h
      exact s_expr ok h2 (by simpa using hc)
  · obtain ⟨y, h2, rfl⟩ := omap h
    exact s_ret ok h2
  · cases h
    exact s_retN
  · obtain ⟨y1, h1, h⟩ := obind h
    obtain ⟨y2, h2, h⟩ := obind h
    obtain ⟨y3, h3, rfl⟩ := omap h
    exact s_if ok hr h1 h2 h3
  · obtain ⟨y1, h1, h⟩ := obind h
    obtain ⟨y2, h2, h⟩ := obind h
    obtain ⟨y3, h3, rfl⟩ := omap h
    exact s_for ok hr h1 h2 h3
  · obtain ⟨y1, h1, h⟩ := obind h
    obtain ⟨y3, h3, rfl⟩ := omap h
    exact s_while ok hr h1 h3
  · cases h
    refine ps_weak ps_break ?_
    rintro D σ H ⟨φ, M, ρ, fl, ρ', M', r, re, e, q⟩
    cases e
    exact q φ H σ .refl r re
  · cases h
    refine ps_weak ps_continue ?_
    rintro D σ H ⟨φ, M, ρ, fl, ρ', M', r, re, e, q⟩
    cases e
    exact q φ H σ .refl r re
  · cases h
    refine ps_weak ps_pass ?_
    rintro D σ H ⟨φ, M, ρ, fl, ρ', M', r, re, e, q⟩
    cases e
    exact q φ H σ .refl r re
  · cases h
theorem convS_ok : ∀ n : Nat, RecS W G Γ k (convS G n)
  | 0 => fun c X st x _ h => by cases h
  | n + 1 => fun c X st x ok h => cS_ok ok (convS_ok n) h
theorem convB_ok (ok : OkX W G Γ k c X) {body : List Stmt} {xs : List S} (h : convB G c body = some xs) : PSs X body (lZ W (evSs Γ xs)) := by
  unfold convB dropDoc at h
  split at h
  · refine pss_weak (pss_cons ps_doc (pss_of ok (convS_ok 16) h)) ?_
    rintro D σ H hw
    exact hw
  · exact pss_of ok (convS_ok 16) h
end
end Mn
end -- Sd25
section -- Sd26
set_option linter.all false
set_option autoImplicit false
set_option maxRecDepth 100000
namespace Mn
open PySem L2
/-- no exception leaves -/
def noX : CXT := fun _ _ _ _ _ _ => False
def noE : XK := fun _ _ _ => False
/-- the function at fa does what run tells, its arguments bound to ps -/
def FnG (W : Wo) (k : Nat) (fa : Addr) (F : FuncData) (ps : List Str) (run : List Val → Mem → Res Val) : Prop :=
  ∀ (base : Heap) (A : Around) (outer : List PySem.Env) (s : Shared) (H : Hp) (args : Args) (us : List Value) (xs : List V) (φ : List Addr) (M : Mem) (vs : List Val) (v : Val) (M' : Mem) (Q : VK),
    Room k A → A.guards = some [] → Env0 W.prog W.w W.K W.mg base A outer s H → BindsTo s F args (ps.zip us) → us.length = ps.length → Vals xs us → RM W φ M H → RVs W φ H vs xs → run vs M = .ok v M' → Kont W φ H v M' Q →
    codeAny (model W.prog W.w) A (.call (.ref fa) args) (CR noX outer W.prog W.w H s Q noE) s
/-- the def fd stands at fa -/
structure DefOk (W : Wo) (G : GT) (fd : FD) (fa : Addr) (F : FuncData) : Prop where
  ex : ∃ (name qual : Str) (params : Arguments) (body : List Stmt) (scope : Scope) (dV kV doc pm : Value) (an : Option Addr) (cdv ct oc : Value) (od : Option Addr) (osl : Array (Option Value)) (N : List Str),
    F = PySem.W.fnOf name qual params body scope dV kV doc pm an cdv ct ∧ W.K.lookup fa = some ⟨oc, od, .func (PySem.W.fnOf name qual params body scope dV kV doc pm an cdv ct), osl⟩ ∧ PySem.W.codeIn W.K cdv qual = true ∧ FnScope N fd.ps scope ∧
    convB G ⟨scope, N, fun _ => true⟩ body = some fd.body ∧ fd.n = N.length
section
variable {W : Wo} {G : GT} {Γ : Gam} {k : Nat}
theorem re_start {φ : List Addr} {H : Hp} {n : Nat} {vs : List Val} {xs : List V} {N : List Str} (r : RVs W φ H vs xs) (hn : n = N.length) : RE W φ H (startE n vs) (L2.start N xs) := by
  subst hn
  have hl := r.length
  refine ⟨by simp [startE, L2.start, hl], fun i v h => ?_⟩
  unfold startE at h
  unfold L2.start
  by_cases hi : i < vs.length
  · rw [List.getElem?_append_left (by simpa using hi), List.getElem?_map] at h
    rw [List.getElem?_append_left (by simp; omega), List.getElem?_map]
    cases e : vs[i]? with
    | none => rw [e] at h; cases h
    | some w =>
      rw [e] at h
      cases h
      obtain ⟨u, h1, h2⟩ := r.get e
      exact ⟨u, by rw [h1]; rfl, h2⟩
  · rw [List.getElem?_append_right (by simpa using hi), List.getElem?_replicate] at h
    split at h <;> cases h
theorem ret_ok {r : SR} {v : Val} {M' : Mem} (h : retOf r = .ok v M') : (∃ ρ, r = .ok .nx ρ M' ∧ v = .non) ∨ ∃ ρ, r = .ok (.rt v) ρ M' := by
  cases r with
  | ok f ρ M =>
    cases f with
    | nx => cases h; exact .inl ⟨ρ, rfl, rfl⟩
    | rt w => cases h; exact .inr ⟨ρ, rfl⟩
    | _ => cases h
  | _ => cases h
theorem fn_body {fd : FD} {fa : Addr} {F : FuncData} (d : DefOk W G fd fa F) (facts : Facts W G Γ k) : FnG W (k + 1) fa F fd.ps (runB Γ fd) := by
  obtain ⟨name, qual, params, body, scope, dV, kV, doc, pm, an, cdv, ct, oc, od, osl, N, rfl, lk, hcd, S, conv, hn⟩ := d.ex
  intro base A outer s H args us xs φ M vs v M' Q room grd env0 bind len vals rm rvs run kont
  have inK : W.K.In s.heap := env0.mod.kin.keeps fun b o e => (env0.bs b o e).1
  have noL : s.heap.NoLimit := env0.mod.nolimit.keeps fun b o e => (env0.bs b o e).1
  have kinds : ∀ y ∈ fd.ps.zip us, scope.names.lookup y.1 = some .local ∨ (scope.names.lookup y.1 = some .cell ∧ ((cellsFrom (s.heap.objs.size + 1) scope.names []).lookup y.1).isSome = true) := by
    rintro ⟨n, z⟩ hy
    exact (S.par n (List.of_mem_zip hy).1).imp (fun q => q) fun q => ⟨q, PySem.W.cellsFrom_some _ _ _ (.inl q)⟩
  refine codeAny_call_function room.depth (inK _ _ lk) rfl S.co S.gen rfl (PySem.W.codeRec_of inK hcd) (bind _ _ _ _ (wpAny_newFunctionEnv_cells S.kind kinds fun env he s1 x => ?_))
  subst he
  refine ⟨noL.keeps x.toInCall.keep, codeAny_func ?_⟩
  have lx : xs.length = fd.ps.length := by rw [vals.length]; exact len
  have I := inv_start (CX := noX) (E := noE) (N := N) S room.hd env0 lx vals x
  have ok : OkX W G Γ k ⟨scope, N, fun _ => true⟩ (cxOf noX W.prog W.w W.K W.mg base N qual scope fa cdv A outer s H noE).nox :=
    ⟨facts, ⟨rfl, rfl, rfl, rfl⟩, rfl, rfl, S.nd, rfl, rfl, room.deeper _, grd, rfl⟩
  have pss := (convB_ok ok conv).nox
  have fin : ∀ {σ' : L2.St} {H' : Hp} {s' : Shared} {z : V} {u : Value}, Inv (cxOf noX W.prog W.w W.K W.mg base N qual scope fa cdv A outer s H noE) [] σ' H' s' → RelV z u → Q z H' → CR noX outer W.prog W.w H s Q noE (.ok (.ret u)) s' :=
    fun J rz q => ⟨_, _, J.os, J.bare, J.base, J.hok, rz, q⟩
  refine wpAny_mono (pss.run [] s1 (L2.start N xs) H { nx := fun _ H' => Q .non H', rt := Q } I ?_) (fun fl s' hs => ?_) fun e s' hs => hs
  · have rs := re_start (N := N) rvs hn
    rcases ret_ok run with ⟨ρ, e, rfl⟩ | ⟨ρ, e⟩
    · exact ⟨φ, M, _, .nx, ρ, M', rm, rs, e, fun φ' H' σ' ex r' _ => kont φ' H' .non ex r' .non⟩
    · exact ⟨φ, M, _, .rt v, ρ, M', rm, rs, e, fun φ' H' σ' ex r' _ u ru => kont φ' H' u ex r' ru⟩
  · cases fl with
    | ret u => obtain ⟨z, σ', H', J, rz, q⟩ := hs; exact fin J rz q
    | next => obtain ⟨σ', H', J, q⟩ := hs; exact fin (z := .non) J rfl q
    | brk => obtain ⟨_, _, _, q⟩ := hs; exact q.elim
    | cont => obtain ⟨_, _, _, q⟩ := hs; exact q.elim
/-- how a call binds: n values by place, the keywords ks -/
def BindOk (W : Wo) (fd : FD) (F : FuncData) (n : Nat) (ks : List Str) : Prop :=
  ∀ (s : Shared) (us zs : List Value), W.K.In s.heap → us.length = n → zs.length = ks.length → ∃ ws : List Value, BindsTo s F ⟨us, ks.zip zs⟩ (fd.ps.zip ws) ∧ ws.length = fd.ps.length ∧
    ∀ (φ : List Addr) (H : Hp) (vs us' : List Val) (kvs : List Val) (xs ys : List V), RVs W φ H vs xs → RVs W φ H kvs ys → Vals xs us → Vals ys zs → bindA fd fd.ps vs (ks.zip kvs) = some us' → ∃ as, RVs W φ H us' as ∧ Vals as ws
theorem bindA_all {fd : FD} : ∀ {ps : List Str} {vs us : List Val}, vs.length = ps.length → bindA fd ps vs [] = some us → us = vs
  | [], [], us, _, h => by cases h; rfl
  | [], _ :: _, _, hl, _ => by simp at hl
  | _ :: _, [], _, hl, _ => by simp at hl
  | p :: ps, v :: vs, us, hl, h => by
    obtain ⟨r, e, rfl⟩ := omap (show (bindA fd ps vs []).map (v :: ·) = some us from h)
    rw [bindA_all (by simpa using hl) e]
/-- every parameter is given by place -/
theorem bind_all {fd : FD} {F : FuncData} (h : ∀ us : List Value, us.length = fd.ps.length → bindArgs F ⟨us, []⟩ = pure (fd.ps.zip us)) : BindOk W fd F fd.ps.length [] := by
  intro s us zs _ hl hz
  have ez : zs = [] := List.eq_nil_of_length_eq_zero hz
  subst ez
  refine ⟨us, .of_eq (h us hl), hl, fun φ H vs us' kvs xs ys r1 r2 v1 v2 hb => ?_⟩
  cases v2
  cases r2
  have e := bindA_all (by rw [r1.length, v1.length, hl]) hb
  subst e
  exact ⟨xs, r1, v1⟩
theorem call_fn {P : Prg} {f : Str} {fd : FD} {fa : Addr} {F : FuncData} {n : Nat} {ks : List Str} (hf : P.fns.lookup f = some fd) (hb : BindOk W fd F n ks) (hG : FnG W k fa F fd.ps (runB Γ fd)) : CallOk W k (.ref fa) n ks (stepC P Γ f) := by
  intro X at_ room grd pins σ s H φ M vs ws xs ys us zs v M' Q I rm hl hl2 rvs rws vx vy e kont
  have KI : W.K.In s.heap := by have := I.kIn; rwa [at_.K] at this
  obtain ⟨as, b1, b2, b3⟩ := hb s us zs KI (by rw [← vx.length, ← rvs.length, hl]) (by rw [← vy.length, ← rws.length, hl2])
  unfold stepC at e
  rw [hf] at e
  dsimp only at e
  cases e2 : bindA fd fd.ps vs (ks.zip ws) with
  | none => rw [e2] at e; cases e
  | some us' =>
    rw [e2] at e
    obtain ⟨zz, r1, r2⟩ := b3 φ H vs us' ws xs ys rvs rws vx vy e2
    have E0 := I.env0
    rw [at_.prog, at_.w, at_.K, at_.mg] at E0
    have go := hG X.base X.A X.stack s H ⟨us, ks.zip zs⟩ as zz φ M us' v M' Q room grd E0 b1 b2 r2 rm r1 e kont
    rw [← at_.prog, ← at_.w] at go
    refine wpAny_call (codeAny_mono go fun r s' hq => ?_)
    cases r with
    | error e => exact hq.elim
    | ok fl =>
      cases fl with
      | ret u => exact I.after hq
      | next => exact hq.elim
      | brk => exact hq.elim
      | cont => exact hq.elim
/-- what a class must have to be made -/
theorem call_mk {P : Prg} {C : Str} {fd : FD} {Ca fa : Addr} {F : FuncData} {n : Nat} {ks : List Str} (hc : (P.cls.lookup C).isSome = true) (hC : W.mg C = some (.ref Ca)) (mk : Mk W.K Ca fa) (hf : P.fns.lookup (C ++ Str.ofString ".__init__") = some fd) (hb : BindOk W fd F (n + 1) ks) (hG : FnG W k fa F fd.ps (runB Γ fd)) {Γ' : Gam}
    (hΓ : ∀ vs kw M, Γ'.make C vs kw M = (stepC P Γ (C ++ Str.ofString ".__init__") (.ref M.length :: vs) kw (M ++ [.ins C []])).bind fun v M' => match v with | .non => .ok (.ref M.length) M' | _ => .stuck) : CallOk W (k + 1) (.ref Ca) n ks fun vs kw M => Γ'.make C vs kw M := by
  intro X at_ room grd pins σ s H φ M vs ws xs ys us zs v M' Q I rm hl hl2 rvs rws vx vy e kont
  have e : Γ'.make C vs (ks.zip ws) M = .ok v M' := e
  rw [hΓ] at e
  obtain ⟨w, M1, e1, e2⟩ := Res.bind_ok e
  cases w with
  | non =>
    cases e2
    have I2 := Inv.made (C := Ca) I
    have hx := I.hok.fresh (Nat.le_succ s.heap.objs.size)
    have hd := I.hok.fresh (Nat.le_refl s.heap.objs.size)
    have ne : s.heap.objs.size ≠ s.heap.objs.size + 1 := Nat.ne_of_lt (Nat.lt_succ_self _)
    have x1 : Ext W φ H φ (upd H s.heap.objs.size (.own (s.heap.objs.size + 1))) := Ext.upd (.inl hd)
    have r1 := rm.aside (u := .own (s.heap.objs.size + 1)) (.inl hd) (rm.out hd)
    have hx1 : (upd H s.heap.objs.size (.own (s.heap.objs.size + 1))) (s.heap.objs.size + 1) = none := by rw [upd_ne (Ne.symm ne)]; exact hx
    have r2 := r1.new (o := .ins C []) (u := .ins Ca s.heap.objs.size []) hx1 rfl ⟨Ca, s.heap.objs.size, [], hC, upd_same, .nil⟩
    have x2 := x1.trans (Ext.new (o := .ins Ca s.heap.objs.size []) hx1)
    have KI : W.K.In (((s.heap.push PySem.W.emptyDict).push (PySem.W.instObj Ca s.heap.objs.size))) := by have := I2.kIn; rwa [at_.K] at this
    have lus : us.length = n := by rw [← vx.length, ← rvs.length, hl]
    obtain ⟨as, b1, b2, b3⟩ := hb { s with heap := (s.heap.push PySem.W.emptyDict).push (PySem.W.instObj Ca s.heap.objs.size) } (Value.ref (s.heap.objs.size + 1) :: us) zs KI (by simp [lus]) (by rw [← vy.length, ← rws.length, hl2])
    unfold stepC at e1
    rw [hf] at e1
    dsimp only at e1
    cases e3 : bindA fd fd.ps (.ref M.length :: vs) (ks.zip ws) with
    | none => rw [e3] at e1; cases e1
    | some us' =>
      rw [e3] at e1
      have self : RV W (φ ++ [s.heap.objs.size + 1]) (upd (upd H s.heap.objs.size (.own (s.heap.objs.size + 1))) (s.heap.objs.size + 1) (.ins Ca s.heap.objs.size [])) (.ref M.length) (.ref (s.heap.objs.size + 1)) :=
        .ref (by rw [← rm.len, List.getElem?_append_right (Nat.le_refl _)]; simp)
      obtain ⟨zz, q1, q2⟩ := b3 _ _ (.ref M.length :: vs) us' ws (.ref (s.heap.objs.size + 1) :: xs) ys (.cons self (rvs.mono x2)) (rws.mono x2) (.cons rfl vx) vy e3
      have E0 := I2.env0.make Ca us (ks.zip zs)
      rw [at_.prog, at_.w, at_.K, at_.mg] at E0
      have gd : (X.A.under (.builtin "type.__call__" ⟨.ref Ca :: us, ks.zip zs⟩)).guards = some [] := by rw [← grd]; rfl
      have go := hG X.base _ X.stack _ _ ⟨Value.ref (s.heap.objs.size + 1) :: us, ks.zip zs⟩ as zz _ _ us' .non _ (fun v H2 => v = .non ∧ Q (.ref (s.heap.objs.size + 1)) H2) (room.make Ca us (ks.zip zs)) gd E0 b1 b2 q2 r2 q1 e1 (fun φ' H' u ex r' ru => by
        cases ru
        exact ⟨rfl, kont φ' H' _ (x2.trans ex) r' (self.mono ex)⟩)
      rw [← at_.prog, ← at_.w] at go
      have mk' : Mk X.K Ca fa := by rw [at_.K]; exact mk
      refine wpAny_call (make_map (f := fa) I.kIn mk'.makes mk'.init (beq_iff_eq.mp mk'.fn) (codeAny_mono go fun r s' hq => ?_))
      cases r with
      | error e => exact hq.elim
      | ok fl =>
        cases fl with
        | ret u =>
          obtain ⟨z, H', I3, rz, ez, q3⟩ := I2.after hq
          subst ez
          exact ⟨rz, ⟨V.ref (s.heap.objs.size + 1), H', I3, rfl, q3⟩⟩
        | next => exact hq.elim
        | brk => exact hq.elim
        | cont => exact hq.elim
  | _ => cases e2
end
end Mn
end -- Sd26
section -- Sd27
set_option linter.all false
set_option autoImplicit false
set_option maxRecDepth 100000
namespace Mn
open PySem PySem.Spec PyProof.Rows L2
/-- what the module's top has made -/
structure Top (W : Wo) (G : GT) (P : Prg) : Prop where
  blt : ∀ x, G.blt.contains x = true → W.mg x = none
  glb : ∀ x v, P.glb.lookup x = some v → ∃ u uv, W.mg x = some uv ∧ RelV u uv ∧ ∀ φ H, RV W φ H v u
  fld : ∀ C f, fldIn P C f = true → ∃ Ca, W.mg C = some (.ref Ca) ∧ Cls W.K Ca ∧ NoAttr W.K Ca f
  fn : ∀ e ∈ G.fsg, ∃ fd fa F, P.fns.lookup e.1 = some fd ∧ DefOk W G fd fa F ∧ BindOk W fd F e.2.1 e.2.2 ∧ W.mg e.1 = some (.ref fa) ∧ PySem.W.keepIn W.K (.ref fa) = true
  cl : ∀ e ∈ G.csg, ∃ fd Ca fa F, (P.cls.lookup e.1).isSome = true ∧ W.mg e.1 = some (.ref Ca) ∧ Mk W.K Ca fa ∧ P.fns.lookup (e.1 ++ Str.ofString ".__init__") = some fd ∧ DefOk W G fd fa F ∧ BindOk W fd F (e.2.1 + 1) e.2.2
  mt : ∀ e ∈ G.msg, ∃ fd Ca fa F, W.mg e.1 = some (.ref Ca) ∧ Cls W.K Ca ∧ Meth W.K Ca e.2.1 fa ∧ P.fns.lookup (e.1 ++ Str.ofString "." ++ e.2.1) = some fd ∧ DefOk W G fd fa F ∧ BindOk W fd F (e.2.2.1 + 1) e.2.2.2
section
variable {W : Wo} {G : GT} {P : Prg}
theorem call_none {k : Nat} {f : Value} {n : Nat} {ks : List Str} {g : List Val → List (Str × Val) → Mem → Res Val} (h : ∀ vs kw M, g vs kw M = .stuck) : CallOk W k f n ks g := by
  intro X at_ room grd pins σ s H φ M vs ws xs ys us zs v M' Q I rm hl hl2 rvs rws vx vy e kont
  rw [h] at e
  cases e
theorem facts_all (T : Top W G P) : ∀ k, Facts W G (gam P k) k := by
  -- at each level, from the levels below
  have step : ∀ k, (∀ j, j < k → Facts W G (gam P j) j) → Facts W G (gam P k) k := fun k below => by
    refine ⟨T.blt, T.glb, T.fld, fun f n ks h => ?_, fun C n ks h => ?_, fun C m n ks h => ?_⟩
    · obtain ⟨fd, fa, F, g1, g2, g3, g4, g5⟩ := T.fn (f, n, ks) (List.contains_iff_mem.mp h)
      refine ⟨fa, g4, g5, ?_⟩
      cases k with
      | zero => exact call_none fun _ _ _ => rfl
      | succ j => exact call_fn g1 g3 (fn_body g2 (below j (Nat.lt_succ_self j)))
    · obtain ⟨fd, Ca, fa, F, g0, g1, g2, g3, g4, g5⟩ := T.cl (C, n, ks) (List.contains_iff_mem.mp h)
      refine ⟨Ca, g1, g2.kp, ?_⟩
      have stuck : ∀ {j : Nat}, (callP P j).2 = (fun _ _ _ _ => .stuck) → ∀ vs kw M, (gam P j).make C vs kw M = .stuck := fun {j} e vs kw M => by
        show (if (P.cls.lookup C).isSome then ((callP P j).2 _ _ _ _).bind _ else Res.stuck) = .stuck
        rw [e]
        split <;> rfl
      cases k with
      | zero => exact call_none (stuck rfl)
      | succ j =>
        cases j with
        | zero => exact call_none (stuck rfl)
        | succ i =>
          refine call_mk (P := P) (Γ := gam P i) g0 g1 g2 g3 g5 (fn_body g4 (below i (by omega))) fun vs kw M => ?_
          show (if (P.cls.lookup C).isSome then _ else Res.stuck) = _
          rw [if_pos g0]
          rfl
    · obtain ⟨fd, Ca, fa, F, g1, g2, g3, g4, g5, g6⟩ := T.mt (C, m, n, ks) (List.contains_iff_mem.mp h)
      refine ⟨Ca, fa, g1, g2, g3, ?_⟩
      cases k with
      | zero => exact call_none fun _ _ _ => rfl
      | succ j => exact call_fn g4 g6 (fn_body g5 (below j (Nat.lt_succ_self j)))
  intro k
  induction k using Nat.strongRecOn with
  | _ k ih => exact step k ih
/-! ### the law's call -/
theorem law_run {fd : FD} {fa a : Addr} {F : FuncData} {mb : Str → Option Value} {k : Nat} {s : Shared} {vs : List Value} {ns : List Int} (T : Top W G P) (d : DefOk W G fd fa F) (hb1 : ∀ (s : Shared) (u : Value), BindsTo s F ⟨[u], []⟩ (fd.ps.zip [u])) (hps : fd.ps.length = 1)
    (KX : W.K.In s.heap) (h1 : s.heap.Ns mainGlobals W.mg) (h2 : s.heap.Ns builtinsNs mb) (h3 : ∀ x : Str, x ≠ "__name__" → mb x = bootBuiltins x) (h4 : s.heap.NoLimit) (h5 : s.gens = #[])
    (ha : s.heap.get? a = some { cls := .type "list", data := .seq vs.toArray }) (hi : IntsAre vs ns) (hl : ns.length ≤ sizeLine) (hr : Room (k + 1) callerA) (hrun : ∃ M', runB (gam P k) fd [.ref 0] [.rol (ns.map .int)] = .ok (.bl true) M') :
    codeAny (model W.prog W.w) callerA (.call (.ref fa) ⟨[.ref a], []⟩) (fun r s' => r = .ok (.ret (.bool true)) ∧ OldK s.heap s'.heap ∧ s'.os = s.os ∧ AllBare s'.gens) s := by
  have rints := vals_ints hi
  have nlen := hi.length
  obtain ⟨M', hrun⟩ := hrun
  have main : ∀ H : Hp, (∀ b u, H b = some u → b = a ∧ u = .frz { cls := .type "list", data := .seq vs.toArray } (.lst (ns.map V.int)) ∧ W.K.lookup a = none) → RoL W.K H a (ns.map V.int) →
      codeAny (model W.prog W.w) callerA (.call (.ref fa) ⟨[.ref a], []⟩) (fun r s' => r = .ok (.ret (.bool true)) ∧ OldK s.heap s'.heap ∧ s'.os = s.os ∧ AllBare s'.gens) s := by
    intro H only ro
    have held : HOk W.prog W.w H s.heap := fun b u e => by
      obtain ⟨rfl, rfl, _⟩ := only b u e
      exact ⟨ha, by rw [List.length_map]; exact hl, vs, _, rints, ha⟩
    have up : ∀ {b : Addr} {o : PySem.Obj}, s.heap.get? b = some o → H b = none → (hidT s.heap H).get? b = some o := fun q n => hidT_get q n
    have nodict : ∀ {b : Addr} {o : PySem.Obj} {es : Array DictEntry} {ep : Nat}, s.heap.get? b = some o → o.data = .dict es ep → H b = none := fun {b o es ep} q dd => by
      cases z : H b with
      | none => rfl
      | some u =>
        obtain ⟨rfl, _⟩ := only b u z
        rw [ha] at q
        cases q
        exact nomatch (show Data.seq vs.toArray _ = Data.dict es ep from dd)
    have spaces : ∀ {b : Addr} {m : Str → Option Value}, s.heap.Ns b m → (hidT s.heap H).Ns b m := by
      rintro b m ⟨o, es, ep, q, dd, z⟩
      exact ⟨o, es, ep, up q (nodict q dd), dd, z⟩
    have kin : W.K.In (hidT s.heap H) := fun b o q => up (KX b o q) (by
      cases z : H b with
      | none => rfl
      | some u =>
        obtain ⟨rfl, _, n⟩ := only b u z
        rw [n] at q; cases q)
    have lim : (hidT s.heap H).NoLimit := by
      obtain ⟨mc, l1, l2⟩ := h4
      exact ⟨mc, spaces l1, l2⟩
    have env0 : Env0 W.prog W.w W.K W.mg (hidT s.heap H) callerA [] s H :=
      { frames := rfl, mod := ⟨kin, spaces h1, ⟨mb, spaces h2, h3⟩, lim⟩, bs := fun b o q => of_hidT q, bsz := Nat.le_of_eq (hidT_size _ _), funs := trivial, frf := fun b hb => (List.not_mem_nil hb).elim, hok := held, bare := .of_eq h5 }
    have rm : RM W [a] [.rol (ns.map .int)] H := by
      refine ⟨rfl, by simp, fun n o e => ?_, fun n m b on om e1 e2 o1 _ _ _ => ?_, fun n o b e1 e2 => ?_⟩
      · cases n with
        | zero => cases e; exact Iff.intro (fun (z : false = true) => Bool.noConfusion z) (fun z => absurd z (Nat.lt_irrefl _))
        | succ n => cases e
      · cases n with
        | zero => cases e1; cases o1
        | succ n => cases e1
      · cases n with
        | zero =>
          cases e1
          cases e2
          refine ⟨ns.map V.int, ro, ?_⟩
          have : ∀ l : List Int, RVs W [a] H (l.map Val.int) (l.map V.int) := fun l => by
            induction l with
            | nil => exact .nil
            | cons i l ih => exact .cons (.int i) ih
          exact this ns
        | succ n => cases e1
    have go := fn_body d (facts_all T k) (hidT s.heap H) callerA [] s H ⟨[.ref a], []⟩ [.ref a] [.ref a] [a] [.rol (ns.map .int)] [.ref 0] (.bl true) M' (fun v _ => v = .bl true) hr rfl env0 (hb1 s _) hps.symm (.cons rfl .nil) rm (.cons (.ref rfl) .nil) hrun
      (fun φ' H' u _ _ ru => by cases ru; rfl)
    refine codeAny_mono go fun r s' h => ?_
    cases r with
    | error e => exact h.elim
    | ok fl =>
      cases fl with
      | next => exact h.elim
      | brk => exact h.elim
      | cont => exact h.elim
      | ret u =>
        obtain ⟨v, H', os, bare, un, held', rv, rfl⟩ := h
        cases rv
        refine ⟨rfl, OldK.of_keep fun b o q => ?_, os, bare⟩
        cases z : H b with
        | none => exact un.keep b o q z (List.not_mem_nil) (List.not_mem_nil)
        | some u =>
          obtain ⟨_, rfl, _⟩ := only b u z
          obtain ⟨e1, _⟩ := held b _ z
          obtain ⟨e2, _⟩ := held' b _ (un.frzs b _ _ z)
          rw [q] at e1
          cases e1
          exact e2
  cases hk : W.K.lookup a with
  | some o =>
    have q := KX a o hk
    rw [ha] at q
    cases q
    exact main (fun _ => none) (fun b u z => nomatch z) (.inr ⟨_, vs.toArray, _, hk, rfl, rfl, rfl, by rw [List.size_toArray, nlen]; exact hl, by simpa using rints⟩)
  | none =>
    refine main (fun b => if b = a then some (.frz { cls := .type "list", data := .seq vs.toArray } (.lst (ns.map V.int))) else none) (fun b u z => ?_) (.inl ⟨{ cls := .type "list", data := .seq vs.toArray }, if_pos rfl⟩)
    by_cases e : b = a
    · rw [if_pos e] at z; cases z; exact ⟨e, rfl, hk⟩
    · rw [if_neg e] at z; cases z
theorem walk_mn {l : PySem.W.OpenLaw} {k : Nat} {q : Program} {loose : List Str} {XP : (Str → Option Value) → Heap → Prop} {YP : World → Heap → Prop} {d : DefRec} {K : Params → PySem.W.Frag} {fd : FD}
    (hn : l.most = some 63) (hdf : d.params.defaults = []) (hr : Room (k + 1) callerA) (hps : fd.ps.length = 1) (hY : ∀ (w : World) (h : Heap), YP w h → (K w.params).In h)
    (F : ∀ (w : World) (mg : Str → Option Value) (fa : Addr) (h : Heap), (K w.params).In h → h.Ns mainGlobals mg → mg d.name = some (.ref fa) →
      Top ⟨l.prog, w, K w.params, mg⟩ G P ∧ ∃ fdat : FuncData, DefOk ⟨l.prog, w, K w.params, mg⟩ G fd fa fdat ∧ ∀ (s : Shared) (u : Value), BindsTo s fdat ⟨[u], []⟩ (fd.ps.zip [u]))
    (hrun : ∀ ns : List Int, ns.length ≤ 63 → ∃ M', runB (gam P k) fd [.ref 0] [.rol (ns.map .int)] = .ok (.bl true) M') :
    PySem.W.WalkO q loose XP YP l.row.toRowW d [] (fun f vs => PySem.call f vs) := by
  refine Att.attach_call hn hdf fun w s₀ s₁ mg mb fa o pm cd doc a vs ns Gr Y ho hd hcd hmg hobj hints hlen hg => ?_
  have KX := hY w _ Y
  obtain ⟨T, fdat, dd, hb⟩ := F w mg fa _ KX Gr.T.g hmg
  exact law_run T dd hb hps KX Gr.T.g Gr.T.b Gr.T.builtins Gr.T.nolimit hg hobj hints (Nat.le_trans hlen (by decide)) hr (hrun ns hlen)
theorem def_mk {W : Wo} {G : GT} {fd : FD} {fa : Addr} {st : Stmt} {name qual : Str} {dV kV doc pm : Value} {an : Option Addr} {cdv ct oc : Value} {od : Option Addr} {osl : Array (Option Value)} (N : List Str)
    (lk : W.K.lookup fa = some ⟨oc, od, .func (PySem.W.fnOf name qual (defArgs st) (defBody st) (defScope st) dV kV doc pm an cdv ct), osl⟩) (hc : PySem.W.codeIn W.K cdv qual = true) (S : FnScope N fd.ps (defScope st))
    (hb : convB G ⟨defScope st, N, fun _ => true⟩ (defBody st) = some fd.body) (hn : fd.n = N.length) : DefOk W G fd fa (PySem.W.fnOf name qual (defArgs st) (defBody st) (defScope st) dV kV doc pm an cdv ct) :=
  ⟨⟨name, qual, _, _, _, dV, kV, doc, pm, an, cdv, ct, oc, od, osl, N, rfl, lk, hc, S, hb, hn⟩⟩
end
end Mn
end -- Sd27
section -- Pl1
set_option linter.all false
set_option autoImplicit false
set_option maxRecDepth 100000
namespace Mn
open PySem L2
/-! ### the evaluator by rules: equations -/
section
variable {Γ : Gam} {ρ : Env} {M M' : Mem}
theorem bind_k {α β : Type} {r : Res α} {a : α} {f : α → Mem → Res β} (h : r = .ok a M) : r.bind f = f a M := by rw [h]; rfl
theorem rb_ok {α β : Type} (a : α) (M : Mem) (f : α → Mem → Res β) : (Res.ok a M).bind f = f a M := rfl
theorem st_ok {α : Type} (a : α) (M : Mem) (f : α → Mem → SR) : (Res.ok a M).st f = f a M := rfl
theorem seq_nx (ρ : Env) (M : Mem) (f : Env → Mem → SR) : (SR.ok .nx ρ M).seq f = f ρ M := rfl
theorem seq_rt (v : Val) (ρ : Env) (M : Mem) (f : Env → Mem → SR) : (SR.ok (.rt v) ρ M).seq f = .ok (.rt v) ρ M := rfl
theorem bindA_eq {fd : FD} : ∀ {ps : List Str} {vs : List Val}, vs.length = ps.length → bindA fd ps vs [] = some vs
  | [], [], _ => rfl
  | [], _ :: _, h => by simp at h
  | _ :: _, [], h => by simp at h
  | p :: ps, v :: vs, h => by
    show (bindA fd ps vs []).map (v :: ·) = _
    rw [bindA_eq (by simpa using h)]; rfl
theorem call_eq {P : Prg} {f : Str} {fd : FD} {k : Nat} {vs : List Val} (h : P.fns.lookup f = some fd) (hl : vs.length = fd.ps.length) (M : Mem) : callAt P (k + 1) f vs [] M = runB (gam P k) fd vs M := by
  rw [callAt_succ]
  unfold stepC
  rw [h]
  dsimp only
  rw [bindA_eq hl]
end
/-! ### loops -/
theorem for_rule {f : Env → Mem → SR} {src : Src} {t : T} {len : Nat} (I : Nat → Env → Mem → Prop)
    (hs : ∀ i ρ M, i < len → I i ρ M → ∃ v ρ' ρ2 M2, src.at M len i = some v ∧ asgT M t v ρ = some ρ' ∧ (f ρ' M = .ok .nx ρ2 M2 ∨ f ρ' M = .ok .ct ρ2 M2) ∧ I (i + 1) ρ2 M2) (hl : ∀ ρ M, I len ρ M → src.len M = some len) :
    ∀ {ρ : Env} {M : Mem}, I 0 ρ M → ∃ ρ' M', forL f src t len len ρ M = .ok .nx ρ' M' ∧ I len ρ' M' := by
  have go : ∀ (n : Nat) (ρ : Env) (M : Mem), n ≤ len → I (len - n) ρ M → ∃ ρ' M', forL f src t len n ρ M = .ok .nx ρ' M' ∧ I len ρ' M' := by
    intro n
    induction n with
    | zero =>
      intro ρ M _ h
      refine ⟨ρ, M, ?_, h⟩
      unfold forL
      rw [if_pos (hl ρ M h)]
    | succ n ih =>
      intro ρ M hn h
      obtain ⟨v, ρ', ρ2, M2, e1, e2, e3, e4⟩ := hs (len - (n + 1)) ρ M (by omega) h
      have e5 : len - (n + 1) + 1 = len - n := by omega
      rw [e5] at e4
      obtain ⟨ρ3, M3, e6, e7⟩ := ih ρ2 M2 (by omega) e4
      refine ⟨ρ3, M3, ?_, e7⟩
      unfold forL
      rw [e1]
      dsimp only
      rw [e2]
      dsimp only
      rcases e3 with e3 | e3 <;> (rw [e3]; exact e6)
  intro ρ M h
  exact go len ρ M (Nat.le_refl _) (by rw [Nat.sub_self]; exact h)
/-- a comprehension by an invariant -/
theorem comp_rule {f : Env → Mem → Res (Option Val)} {src : Src} {t : T} {len : Nat} {ρ : Env} (I : Nat → List Val → Mem → Prop)
    (hs : ∀ i acc M, i < len → I i acc M → ∃ v ρ' o M2, src.at M len i = some v ∧ asgT M t v ρ = some ρ' ∧ f ρ' M = .ok o M2 ∧ I (i + 1) (acc ++ o.toList) M2) (hl : ∀ acc M, I len acc M → src.len M = some len) :
    ∀ {M : Mem}, I 0 [] M → ∃ l M', compL f src t ρ len len [] M = .ok l M' ∧ I len l M' := by
  have go : ∀ (n : Nat) (acc : List Val) (M : Mem), n ≤ len → I (len - n) acc.reverse M → ∃ l M', compL f src t ρ len n acc M = .ok l M' ∧ I len l M' := by
    intro n
    induction n with
    | zero =>
      intro acc M _ h
      refine ⟨acc.reverse, M, ?_, h⟩
      unfold compL
      rw [if_pos (hl _ M h)]
    | succ n ih =>
      intro acc M hn h
      obtain ⟨v, ρ', o, M2, e1, e2, e3, e4⟩ := hs (len - (n + 1)) acc.reverse M (by omega) h
      have e5 : len - (n + 1) + 1 = len - n := by omega
      rw [e5] at e4
      have step : ∃ l M', compL f src t ρ len n (o.toList ++ acc) M2 = .ok l M' ∧ I len l M' := by
        refine ih _ M2 (by omega) ?_
        cases o with
        | none => simpa using e4
        | some w => simpa using e4
      obtain ⟨l, M3, e6, e7⟩ := step
      refine ⟨l, M3, ?_, e7⟩
      unfold compL
      rw [e1]
      dsimp only
      rw [e2]
      dsimp only
      rw [e3]
      cases o with
      | none => exact e6
      | some w => exact e6
  intro M h
  exact go len [] M (Nat.le_refl _) (by rw [Nat.sub_self]; exact h)
end Mn
end -- Pl1
section -- Pl2
set_option linter.all false
set_option autoImplicit false
set_option maxRecDepth 100000
namespace Mn
open PySem L2
/-! ### small data: no references, small ints -/
mutual
/-- ints below 10^12, texts of at most 12 signs that stand -/
def smV : Val → Bool
  | .non => true
  | .bl _ => true
  | .int i => decide (i.natAbs < 10 ^ 12)
  | .str s => PyData.strOk s && decide (s.cps.size ≤ 12)
  | .tup vs => smVs vs
  | _ => false
def smVs : List Val → Bool
  | [] => true
  | v :: vs => smV v && smVs vs
end
mutual
/-- its items, all together -/
def szV : Val → Nat
  | .tup vs => szVs vs + 1
  | _ => 1
def szVs : List Val → Nat
  | [] => 0
  | v :: vs => szV v + szVs vs
end
mutual
def dpV : Val → Nat
  | .tup vs => dpVs vs + 1
  | _ => 0
def dpVs : List Val → Nat
  | [] => 0
  | v :: vs => max (dpV v) (dpVs vs)
end
mutual
/-- the data of a value without references -/
def dV : Val → PyData
  | .non => .none
  | .bl b => .bool b
  | .int i => .int i
  | .str s => .str s
  | .tup vs => .tuple (dVs vs)
  | _ => .none
def dVs : List Val → List PyData
  | [] => []
  | v :: vs => dV v :: dVs vs
end
mutual
theorem dat_sm (rd : Nat → Option PyData) : ∀ v : Val, smV v = true → dat rd v = some (dV v)
  | .non, _ => rfl
  | .bl _, _ => rfl
  | .int _, _ => rfl
  | .str _, _ => rfl
  | .tup vs, h => by
    show (dats rd vs).map PyData.tuple = _
    rw [dats_sm rd vs h]; rfl
  | .ref _, h => by cases h
  | .ty _, h => by cases h
  | .glo _, h => by cases h
theorem dats_sm (rd : Nat → Option PyData) : ∀ vs : List Val, smVs vs = true → dats rd vs = some (dVs vs)
  | [], _ => rfl
  | v :: vs, h => by
    have h : (smV v && smVs vs) = true := h
    rw [Bool.and_eq_true] at h
    show (match dat rd v, dats rd vs with | some d, some ds => some (d :: ds) | _, _ => none) = _
    rw [dat_sm rd v h.1, dats_sm rd vs h.2]; rfl
end
theorem log_small {i : Int} (h : i.natAbs < 10 ^ 12) : i.natAbs.log2 < 40 := by
  by_cases e : i.natAbs = 0
  · rw [e]; decide
  · exact (Nat.log2_lt e).mpr (Nat.lt_trans h (by decide))
mutual
theorem lay_sm : ∀ v : Val, smV v = true → (dV v).canLay0 = true ∧ (dV v).intsShort 13 = true ∧ (dV v).showable = true ∧ (dV v).depth = dpV v ∧ (dV v).weight + 1 ≤ 41 * szV v
  | .non, _ => ⟨rfl, rfl, rfl, rfl, by decide⟩
  | .bl _, _ => ⟨rfl, rfl, rfl, rfl, (by decide : 0 + 1 ≤ 41 * 1)⟩
  | .int i, h => by
    have h : i.natAbs < 10 ^ 12 := of_decide_eq_true h
    have l := log_small h
    refine ⟨rfl, decide_eq_true (PyData.shown_int_le h), decide_eq_true (by omega), rfl, ?_⟩
    show (if i == 0 then 0 else i.natAbs.log2 + 1) + 1 ≤ 41 * 1
    split <;> omega
  | .str s, h => by
    have h : (PyData.strOk s && decide (s.cps.size ≤ 12)) = true := h
    rw [Bool.and_eq_true, decide_eq_true_eq] at h
    refine ⟨h.1, rfl, rfl, rfl, ?_⟩
    show s.cps.size + 1 ≤ 41 * 1
    omega
  | .tup vs, h => by
    obtain ⟨h1, h2, h3, h4, h5⟩ := lays_sm vs h
    refine ⟨h1, h2, h3, ?_, ?_⟩
    · show PyData.depthAll (dVs vs) + 1 = dpVs vs + 1
      rw [h4]
    · show PyData.weightAll (dVs vs) + 1 ≤ 41 * (szVs vs + 1)
      omega
  | .ref _, h => by cases h
  | .ty _, h => by cases h
  | .glo _, h => by cases h
theorem lays_sm : ∀ vs : List Val, smVs vs = true → PyData.canLayAll0 (dVs vs) = true ∧ PyData.intsShortAll 13 (dVs vs) = true ∧ PyData.showableAll (dVs vs) = true ∧ PyData.depthAll (dVs vs) = dpVs vs ∧ PyData.weightAll (dVs vs) ≤ 41 * szVs vs
  | [], _ => ⟨rfl, rfl, rfl, rfl, by decide⟩
  | v :: vs, h => by
    have h : (smV v && smVs vs) = true := h
    rw [Bool.and_eq_true] at h
    obtain ⟨a1, a2, a3, a4, a5⟩ := lay_sm v h.1
    obtain ⟨b1, b2, b3, b4, b5⟩ := lays_sm vs h.2
    refine ⟨?_, ?_, ?_, ?_, ?_⟩
    · show ((dV v).canLay0 && PyData.canLayAll0 (dVs vs)) = true
      rw [a1, b1]; rfl
    · show ((dV v).intsShort 13 && PyData.intsShortAll 13 (dVs vs)) = true
      rw [a2, b2]; rfl
    · show ((dV v).showable && PyData.showableAll (dVs vs)) = true
      rw [a3, b3]; rfl
    · show max (dV v).depth (PyData.depthAll (dVs vs)) = max (dpV v) (dpVs vs)
      rw [a4, b4]
    · show (dV v).weight + 1 + PyData.weightAll (dVs vs) ≤ 41 * (szV v + szVs vs)
      omega
end
/-- small, and not too great: what is shown, compared -/
def okV (v : Val) : Prop := smV v = true ∧ dpV v ≤ 60 ∧ szV v ≤ 25000
theorem okV.lay {v : Val} (h : okV v) : (dV v).layable0 = true := by
  obtain ⟨h1, h2, h3⟩ := h
  obtain ⟨a1, a2, a3, a4, a5⟩ := lay_sm v h1
  show ((dV v).canLay0 && decide ((dV v).depth ≤ 64) && decide ((dV v).weight ≤ 2 ^ 20)) = true
  rw [a1, decide_eq_true (by omega), decide_eq_true (show (dV v).weight ≤ 2 ^ 20 from by
    have e : (2 : Nat) ^ 20 = 1048576 := by decide
    rw [e]
    omega)]
  rfl
theorem okV.shaped {v : Val} (h : okV v) : SeqAt.shaped (dV v) = true := SeqAt.shaped_of_layable h.lay
theorem okV.shown {v : Val} (h : okV v) : shownOk (dV v) = true := by
  obtain ⟨a1, a2, a3, a4, a5⟩ := lay_sm v h.1
  have l := PyData.shown_le_of_layable0 h.lay a2
  unfold shownOk
  rw [a3, h.shaped, decide_eq_true (by rw [sizeLine_eq]; omega)]
  rfl
theorem repr_eq {v : Val} (h : okV v) (M : Mem) : bcall .repr [v] M = .ok (.str (dV v).shown) M := by
  show (match datM M v with | some d => chk (shownOk d) (Res.ok (Val.str d.shown) M) | none => .stuck) = _
  unfold datM
  rw [dat_sm _ v h.1]
  dsimp only
  rw [h.shown]
  rfl
theorem smVs_append : ∀ (a b : List Val), smVs (a ++ b) = (smVs a && smVs b)
  | [], b => by simp [smVs]
  | v :: a, b => by
    show (smV v && smVs (a ++ b)) = (smV v && smVs a && smVs b)
    rw [smVs_append a b, Bool.and_assoc]
theorem smVs_all : ∀ {vs : List Val}, (∀ v ∈ vs, smV v = true) → smVs vs = true
  | [], _ => rfl
  | v :: vs, h => by
    show (smV v && smVs vs) = true
    rw [h v List.mem_cons_self, smVs_all fun w hw => h w (List.mem_cons_of_mem _ hw)]; rfl
theorem smVs_mem : ∀ {vs : List Val} {v : Val}, smVs vs = true → v ∈ vs → smV v = true
  | w :: vs, v, h, hv => by
    have h : (smV w && smVs vs) = true := h
    rw [Bool.and_eq_true] at h
    rcases List.mem_cons.mp hv with rfl | hv
    · exact h.1
    · exact smVs_mem h.2 hv
theorem szVs_le {c : Nat} : ∀ {vs : List Val}, (∀ v ∈ vs, szV v ≤ c) → szVs vs ≤ c * vs.length
  | [], _ => by simp [szVs]
  | v :: vs, h => by
    have h1 := h v List.mem_cons_self
    have h2 := szVs_le fun w hw => h w (List.mem_cons_of_mem _ hw)
    show szV v + szVs vs ≤ c * (vs.length + 1)
    rw [Nat.mul_add]
    omega
theorem dpVs_le {c : Nat} : ∀ {vs : List Val}, (∀ v ∈ vs, dpV v ≤ c) → dpVs vs ≤ c
  | [], _ => Nat.zero_le _
  | v :: vs, h => Nat.max_le.mpr ⟨h v List.mem_cons_self, dpVs_le fun w hw => h w (List.mem_cons_of_mem _ hw)⟩
theorem smVs_ints {is : List Int} (h : ∀ i ∈ is, i.natAbs < 10 ^ 12) : smVs (is.map .int) = true := smVs_all fun v hv => by
  obtain ⟨i, hi, rfl⟩ := List.mem_map.mp hv
  exact decide_eq_true (h i hi)
theorem szVs_ints (is : List Int) : szVs (is.map .int) = is.length := by
  induction is with
  | nil => rfl
  | cons i is ih => show 1 + szVs (is.map .int) = _; rw [ih, List.length_cons]; omega
theorem dpVs_ints (is : List Int) : dpVs (is.map .int) = 0 := by
  induction is with
  | nil => rfl
  | cons i is ih => show max 0 (dpVs (is.map .int)) = 0; rw [ih]; rfl
/-! ### the store -/
theorem gam_call (P : Prg) (k : Nat) : (gam P k).call = callAt P k := rfl
/-- all but the places in S stays, the store may grow -/
def Fr (S : Nat → Prop) (M M' : Mem) : Prop := M.length ≤ M'.length ∧ ∀ n, n < M.length → ¬ S n → M'[n]? = M[n]?
theorem Fr.refl {S : Nat → Prop} {M : Mem} : Fr S M M := ⟨Nat.le_refl _, fun _ _ _ => rfl⟩
theorem Fr.trans {S : Nat → Prop} {M M1 M2 : Mem} (a : Fr S M M1) (b : Fr S M1 M2) : Fr S M M2 := ⟨Nat.le_trans a.1 b.1, fun n h s => (b.2 n (Nat.lt_of_lt_of_le h a.1) s).trans (a.2 n h s)⟩
theorem Fr.app {S : Nat → Prop} {M : Mem} (l : List Obj) : Fr S M (M ++ l) := ⟨by simp, fun n h _ => by rw [List.getElem?_append_left h]⟩
theorem Fr.set {S : Nat → Prop} {M : Mem} {p : Nat} {o : Obj} (h : S p) : Fr S M (M.set p o) := ⟨by simp, fun n _ s => by rw [List.getElem?_set_ne]; intro e; subst e; exact s h⟩
theorem Fr.get {S : Nat → Prop} {M M' : Mem} {n : Nat} {o : Obj} (f : Fr S M M') (h : M[n]? = some o) (s : ¬ S n) : M'[n]? = some o := (f.2 n (List.getElem?_eq_some_iff.mp h).1 s).trans h
theorem Fr.mono {S S' : Nat → Prop} {M M' : Mem} (f : Fr S M M') (h : ∀ n, n < M.length → S n → S' n) : Fr S' M M' := ⟨f.1, fun n hl s => f.2 n hl fun z => s (h n hl z)⟩
theorem get_lt {M : Mem} {p : Nat} {o : Obj} (h : M[p]? = some o) : p < M.length := (List.getElem?_eq_some_iff.mp h).1
theorem set_same {M : Mem} {p : Nat} {o o' : Obj} (h : M[p]? = some o) : (M.set p o')[p]? = some o' := by rw [List.getElem?_set_self (get_lt h)]
theorem app_new {M : Mem} {o : Obj} : (M ++ [o])[M.length]? = some o := by rw [List.getElem?_append_right (Nat.le_refl _)]; simp
theorem app_old {M : Mem} {p : Nat} {o : Obj} (h : M[p]? = some o) (l : List Obj) : (M ++ l)[p]? = some o := by rw [List.getElem?_append_left (get_lt h)]; exact h
theorem dats_ints (rd : Nat → Option PyData) : ∀ is : List Int, dats rd (is.map .int) = some (is.map .int)
  | [] => rfl
  | i :: is => by
    show (match dat rd (.int i), dats rd (is.map .int) with | some d, some ds => some (d :: ds) | _, _ => none) = _
    rw [dats_ints rd is]; rfl
theorem data_ints {M : Mem} {q : Nat} {is : List Int} (h : M[q]? = some (.lst (is.map .int))) : datM M (.ref q) = some (.list (is.map .int)) := by
  show rdM M 6 q = _
  unfold rdM
  rw [h]
  dsimp only
  rw [dats_ints]
  rfl
theorem shaped_ints : ∀ is : List Int, SeqAt.shaped (.list (is.map .int)) = true := fun is => by
  have h : ∀ l : List Int, PyData.canLayAll0 (l.map .int) = true ∧ PyData.depthAll (l.map .int) = 0 := fun l => by
    induction l with
    | nil => exact ⟨rfl, rfl⟩
    | cons i l ih =>
      refine ⟨?_, ?_⟩
      · show (true && PyData.canLayAll0 (l.map .int)) = true
        rw [ih.1]; rfl
      · show max 0 (PyData.depthAll (l.map .int)) = 0
        rw [ih.2]; rfl
  show (PyData.canLayAll0 (is.map .int) && decide (PyData.depthAll (is.map .int) + 1 ≤ 64)) = true
  rw [(h is).1, (h is).2]
  rfl
end Mn
end -- Pl2
section -- Pl3
set_option linter.all false
set_option autoImplicit false
set_option maxRecDepth 100000
namespace Mn
open PySem L2
/-! ### what comes of the evaluator, backward -/
def XR {α : Type} (r : Res α) (Q : α → Mem → Prop) : Prop := ∃ a M', r = .ok a M' ∧ Q a M'
def XZ (r : SR) (Q : Fl → Env → Mem → Prop) : Prop := ∃ fl ρ M', r = .ok fl ρ M' ∧ Q fl ρ M'
section
variable {Γ : Gam} {ρ : Env} {M : Mem} {Q : Val → Mem → Prop} {a b c : E}
theorem XR.ok {α : Type} {x : α} {Q : α → Mem → Prop} (q : Q x M) : XR (Res.ok x M) Q := ⟨x, M, rfl, q⟩
theorem XR.of {α : Type} {r : Res α} {x : α} {M' : Mem} {Q : α → Mem → Prop} (e : r = .ok x M') (q : Q x M') : XR r Q := ⟨x, M', e, q⟩
theorem XR.bind {α β : Type} {r : Res α} {f : α → Mem → Res β} {Q : β → Mem → Prop} (h : XR r fun x M => XR (f x M) Q) : XR (r.bind f) Q := by
  obtain ⟨x, M1, e, y, M2, e2, q⟩ := h
  exact ⟨y, M2, by rw [e]; exact e2, q⟩
theorem XR.st {α : Type} {r : Res α} {f : α → Mem → SR} {Q : Fl → Env → Mem → Prop} (h : XR r fun x M => XZ (f x M) Q) : XZ (r.st f) Q := by
  obtain ⟨x, M1, e, fl, ρ, M2, e2, q⟩ := h
  exact ⟨fl, ρ, M2, by rw [e]; exact e2, q⟩
theorem XR.imp {α : Type} {r : Res α} {Q Q' : α → Mem → Prop} (h : XR r Q) (w : ∀ x M, Q x M → Q' x M) : XR r Q' := by
  obtain ⟨x, M1, e, q⟩ := h
  exact ⟨x, M1, e, w _ _ q⟩
theorem XZ.imp {r : SR} {Q Q' : Fl → Env → Mem → Prop} (h : XZ r Q) (w : ∀ f ρ M, Q f ρ M → Q' f ρ M) : XZ r Q' := by
  obtain ⟨f, ρ, M1, e, q⟩ := h
  exact ⟨f, ρ, M1, e, w _ _ _ q⟩
theorem x_var {i : Nat} {v : Val} (h : ρ[i]? = some (some v)) (q : Q v M) : XR (evE Γ (.var i) ρ M) Q := ⟨v, M, by show (match ρ[i]? with | some (some v) => Res.ok v M | _ => .stuck) = _; rw [h], q⟩
theorem x_glob {x : Str} {v : Val} (h : Γ.glob x = some v) (q : Q v M) : XR (evE Γ (.glob x) ρ M) Q := ⟨v, M, by show ofO (Γ.glob x) M = _; rw [h]; rfl, q⟩
theorem x_non (q : Q .non M) : XR (evE Γ .non ρ M) Q := .ok q
theorem x_bl {d : Bool} (q : Q (.bl d) M) : XR (evE Γ (.bl d) ρ M) Q := .ok q
theorem x_int {i : Int} (q : Q (.int i) M) : XR (evE Γ (.int i) ρ M) Q := .ok q
theorem x_str {s : Str} (q : Q (.str s) M) : XR (evE Γ (.str s) ρ M) Q := .ok q
theorem x_ty {t : String} (q : Q (.ty t) M) : XR (evE Γ (.ty t) ρ M) Q := .ok q
theorem x_nil {Q : List Val → Mem → Prop} (q : Q [] M) : XR (evEs Γ [] ρ M) Q := .ok q
theorem x_cons {e : E} {es : List E} {Q : List Val → Mem → Prop} (h : XR (evE Γ e ρ M) fun v M => XR (evEs Γ es ρ M) fun vs M => Q (v :: vs) M) : XR (evEs Γ (e :: es) ρ M) Q := XR.bind (h.imp fun v M z => XR.bind (z.imp fun vs M q => .ok q))
theorem x_tup {es : List E} (h : XR (evEs Γ es ρ M) fun vs M => Q (.tup vs) M) : XR (evE Γ (.tup es) ρ M) Q := XR.bind (h.imp fun vs M q => .ok q)
theorem x_lst {es : List E} (h : XR (evEs Γ es ρ M) fun vs M => Q (.ref M.length) (M ++ [.lst vs])) : XR (evE Γ (.lst es) ρ M) Q := XR.bind (h.imp fun vs M q => .ok q)
theorem x_bin {op : Operator} (h : XR (evE Γ a ρ M) fun x M => XR (evE Γ b ρ M) fun y M => XR (binop op x y M) Q) : XR (evE Γ (.bin op a b) ρ M) Q := XR.bind (h.imp fun x M z => XR.bind z)
theorem x_cmp {op : CmpOp} (h : XR (evE Γ a ρ M) fun x M => XR (evE Γ b ρ M) fun y M => ∃ d, cmpop op x y M = some d ∧ Q (.bl d) M) : XR (evE Γ (.cmp op a b) ρ M) Q :=
  XR.bind (h.imp fun x M z => XR.bind (z.imp fun y M ⟨d, e, q⟩ => ⟨.bl d, M, by rw [e]; rfl, q⟩))
theorem x_not (h : XR (evE Γ a ρ M) fun x M => ∃ d, truth M x = some d ∧ Q (.bl (!d)) M) : XR (evE Γ (.not a) ρ M) Q := XR.bind (h.imp fun x M ⟨d, e, q⟩ => ⟨.bl (!d), M, by rw [e]; rfl, q⟩)
theorem x_ite (h : XR (evE Γ a ρ M) fun x M => ∃ d, truth M x = some d ∧ (d = true → XR (evE Γ b ρ M) Q) ∧ (d = false → XR (evE Γ c ρ M) Q)) : XR (evE Γ (.ite a b c) ρ M) Q := XR.bind (h.imp fun x M ⟨d, e, q1, q2⟩ => by
  rw [e]
  cases d with
  | true => exact q1 rfl
  | false => exact q2 rfl)
theorem x_and (h : XR (evE Γ a ρ M) fun x M => ∃ d, truth M x = some d ∧ (d = true → XR (evE Γ b ρ M) Q) ∧ (d = false → Q x M)) : XR (evE Γ (.and a b) ρ M) Q := XR.bind (h.imp fun x M ⟨d, e, q1, q2⟩ => by
  rw [e]
  cases d with
  | true => exact q1 rfl
  | false => exact .ok (q2 rfl))
theorem x_or (h : XR (evE Γ a ρ M) fun x M => ∃ d, truth M x = some d ∧ (d = false → XR (evE Γ b ρ M) Q) ∧ (d = true → Q x M)) : XR (evE Γ (.or a b) ρ M) Q := XR.bind (h.imp fun x M ⟨d, e, q1, q2⟩ => by
  rw [e]
  cases d with
  | false => exact q1 rfl
  | true => exact .ok (q2 rfl))
theorem x_idx (h : XR (evE Γ a ρ M) fun x M => XR (evE Γ b ρ M) fun y M => XR (subs x y M) Q) : XR (evE Γ (.idx a b) ρ M) Q := XR.bind (h.imp fun x M z => XR.bind z)
theorem x_sl {l u : E} (h : XR (evE Γ a ρ M) fun x M => XR (part l.isNon (evE Γ l ρ M) M) fun p M => XR (part u.isNon (evE Γ u ρ M) M) fun q M => XR (sliceB x p q M) Q) : XR (evE Γ (.sl a l u) ρ M) Q := XR.bind (h.imp fun x M z => XR.bind (z.imp fun y M w => XR.bind w))
theorem x_call {f : Str} {es kes : List E} {kns : List Str} (h : XR (evEs Γ es ρ M) fun vs M => XR (evEs Γ kes ρ M) fun ws M => XR (Γ.call f vs (kns.zip ws) M) Q) : XR (evE Γ (.call f es kns kes) ρ M) Q := XR.bind (h.imp fun x M z => XR.bind z)
theorem x_bcall {f : BF} {es : List E} (h : XR (evEs Γ es ρ M) fun vs M => XR (bcall f vs M) Q) : XR (evE Γ (.bcall f es) ρ M) Q := XR.bind h
theorem x_bmeth {m : BM} {o : E} {es : List E} (h : XR (evE Γ o ρ M) fun x M => recvOk m M x = true ∧ XR (evEs Γ es ρ M) fun vs M => XR (bmeth m x vs M) Q) : XR (evE Γ (.bmeth m o es) ρ M) Q := XR.bind (h.imp fun x M ⟨e, z⟩ => by
  rw [if_pos e]; exact XR.bind z)
theorem x_rng {es : List E} (h : XR (evEs Γ es ρ M) fun vs M => ∃ l, rangeOf vs = some l ∧ vs.length ≤ 2 ∧ l.length ≤ sizeLine ∧ Q (.tup l) M) : XR (evE Γ (.rng es) ρ M) Q := XR.bind (h.imp fun vs M ⟨l, e, h1, h2, q⟩ => by
  rw [e]
  dsimp only
  rw [decide_eq_true ⟨h1, h2⟩]
  exact .ok q)
theorem x_comp {k : IK} {its : List E} {t : T} {own : List Nat} {cs : List E} {elt : E} (h : XR (evEs Γ its ρ M) fun vs M => ∃ src len, srcOf k vs M = some src ∧ src.len M = some len ∧ len ≤ sizeLine ∧ ∃ I : Nat → List Val → Mem → Prop, I 0 [] M ∧
    (∀ i acc M, i < len → I i acc M → ∃ v ρ', src.at M len i = some v ∧ asgT M t v (wipeE ρ own) = some ρ' ∧ XR (evC Γ cs ρ' M) fun d M => (d = true → XR (evE Γ elt ρ' M) fun v M => I (i + 1) (acc ++ [v]) M) ∧ (d = false → I (i + 1) acc M)) ∧
    ∀ acc M, I len acc M → src.len M = some len ∧ Q (.ref M.length) (M ++ [.lst acc])) : XR (evE Γ (.comp k its t own cs elt) ρ M) Q := XR.bind (h.imp fun vs M ⟨src, len, e1, e2, e3, I, h0, hs, hd⟩ => by
  rw [e1]
  dsimp only
  rw [e2]
  dsimp only
  rw [if_pos e3]
  refine XR.bind ?_
  obtain ⟨l, M', e4, e5⟩ := comp_rule (f := fun ρ M => (evC Γ cs ρ M).bind fun b M => if b then (evE Γ elt ρ M).bind fun v M => .ok (some v) M else .ok none M) (src := src) (t := t) (len := len) (ρ := wipeE ρ own) I (fun i acc M hi hI => by
    obtain ⟨v, ρ', g1, g2, d, M1, g3, g4, g5⟩ := hs i acc M hi hI
    cases d with
    | true =>
      obtain ⟨w, M2, g6, g7⟩ := g4 rfl
      exact ⟨v, ρ', some w, M2, g1, g2, by rw [g3]; show (evE Γ elt ρ' M1).bind _ = _; rw [g6]; rfl, g7⟩
    | false => exact ⟨v, ρ', none, M1, g1, g2, by rw [g3]; rfl, by simpa using g5 rfl⟩) (fun acc M hI => (hd acc M hI).1) h0
  exact ⟨l, M', e4, .ok (hd l M' e5).2⟩)
theorem x_c0 {Q : Bool → Mem → Prop} (q : Q true M) : XR (evC Γ [] ρ M) Q := .ok q
theorem x_c1 {Q : Bool → Mem → Prop} (h : XR (evE Γ a ρ M) fun x M => ∃ d, truth M x = some d ∧ Q d M) : XR (evC Γ [a] ρ M) Q := XR.bind (h.imp fun x M ⟨d, e, q⟩ => by
  rw [e]
  cases d with
  | true => exact .ok q
  | false => exact .ok q)
/-! ### tests -/
theorem x_t {Q : Bool → Mem → Prop} (h : XR (evE Γ a ρ M) fun x M => ∃ d, truth M x = some d ∧ Q d M) : XR (evT Γ a ρ M) Q := XR.bind (h.imp fun x M ⟨d, e, q⟩ => ⟨d, M, by rw [e]; rfl, q⟩)
/-! ### statements -/
variable {Z : Fl → Env → Mem → Prop}
theorem z_nil (q : Z .nx ρ M) : XZ (evSs Γ [] ρ M) Z := ⟨.nx, ρ, M, rfl, q⟩
theorem z_cons {s : S} {ss : List S} (h : XZ (evS Γ s ρ M) fun f ρ M => match f with | .nx => XZ (evSs Γ ss ρ M) Z | f => Z f ρ M) : XZ (evSs Γ (s :: ss) ρ M) Z := by
  obtain ⟨f, ρ1, M1, e, q⟩ := h
  show XZ ((evS Γ s ρ M).seq _) Z
  rw [e]
  cases f with
  | nx => exact q
  | rt v => exact ⟨_, _, _, rfl, q⟩
  | bk => exact ⟨_, _, _, rfl, q⟩
  | ct => exact ⟨_, _, _, rfl, q⟩
theorem z_asg {t : T} (h : XR (evE Γ a ρ M) fun v M => ∃ ρ', asgT M t v ρ = some ρ' ∧ Z .nx ρ' M) : XZ (evS Γ (.asg t a) ρ M) Z := XR.st (h.imp fun v M ⟨ρ', e, q⟩ => ⟨.nx, ρ', M, by rw [e], q⟩)
theorem z_setI {o i : E} (h : XR (evE Γ a ρ M) fun v M => XR (evE Γ o ρ M) fun x M => XR (evE Γ i ρ M) fun y M => ∃ M', storeI x y v M = some M' ∧ Z .nx ρ M') : XZ (evS Γ (.setIdx o i a) ρ M) Z :=
  XR.st (h.imp fun v M z => XR.st (z.imp fun x M z => XR.st (z.imp fun y M ⟨M', e, q⟩ => ⟨.nx, ρ, M', by rw [e], q⟩)))
theorem z_setA {o : E} {f : Str} (h : XR (evE Γ a ρ M) fun v M => XR (evE Γ o ρ M) fun x M => ∃ M', storeA Γ.fld x f v M = some M' ∧ Z .nx ρ M') : XZ (evS Γ (.setAttr o f a) ρ M) Z :=
  XR.st (h.imp fun v M z => XR.st (z.imp fun x M ⟨M', e, q⟩ => ⟨.nx, ρ, M', by rw [e], q⟩))
theorem z_aug {i : Nat} {x : Int} (h0 : ρ[i]? = some (some (.int x))) (h : XR (evE Γ a ρ M) fun v M => ∃ y, v = .int y ∧ Z .nx (ρ.set i (some (.int (x + y)))) M) : XZ (evS Γ (.aug i a) ρ M) Z := by
  show XZ (match ρ[i]? with | some (some (.int a')) => ((evE Γ a ρ M).st fun v M => match v with | .int b => .ok .nx (ρ.set i (some (.int (a' + b)))) M | _ => .stuck) | _ => .stuck) Z
  rw [h0]
  exact XR.st (h.imp fun v M ⟨y, e, q⟩ => by subst e; exact ⟨_, _, _, rfl, q⟩)
theorem z_expr (h : XR (evE Γ a ρ M) fun _ M => Z .nx ρ M) : XZ (evS Γ (.expr a) ρ M) Z := XR.st (h.imp fun v M q => ⟨.nx, ρ, M, rfl, q⟩)
theorem z_ret (h : XR (evE Γ a ρ M) fun v M => Z (.rt v) ρ M) : XZ (evS Γ (.ret a) ρ M) Z := XR.st (h.imp fun v M q => ⟨.rt v, ρ, M, rfl, q⟩)
theorem z_if {s1 s2 : List S} (h : XR (evT Γ a ρ M) fun d M => (d = true → XZ (evSs Γ s1 ρ M) Z) ∧ (d = false → XZ (evSs Γ s2 ρ M) Z)) : XZ (evS Γ (.ite a s1 s2) ρ M) Z := XR.st (h.imp fun d M ⟨q1, q2⟩ => by
  cases d with
  | true => exact q1 rfl
  | false => exact q2 rfl)
theorem z_for {k : IK} {its : List E} {t : T} {body : List S} (h : XR (evEs Γ its ρ M) fun vs M => ∃ src len, srcOf k vs M = some src ∧ src.len M = some len ∧ ∃ I : Nat → Env → Mem → Prop, I 0 ρ M ∧
    (∀ i ρ M, i < len → I i ρ M → ∃ v ρ', src.at M len i = some v ∧ asgT M t v ρ = some ρ' ∧ XZ (evSs Γ body ρ' M) fun f ρ M => match f with | .nx => I (i + 1) ρ M | .ct => I (i + 1) ρ M | .bk => Z .nx ρ M | .rt v => Z (.rt v) ρ M) ∧
    ∀ ρ M, I len ρ M → src.len M = some len ∧ Z .nx ρ M) : XZ (evS Γ (.for k its t body) ρ M) Z := XR.st (h.imp fun vs M ⟨src, len, e1, e2, I, h0, hs, hd⟩ => by
  rw [e1]
  dsimp only
  rw [e2]
  dsimp only
  have go : ∀ (n : Nat) (ρ : Env) (M : Mem), n ≤ len → I (len - n) ρ M → XZ (forL (fun ρ M => evSs Γ body ρ M) src t len n ρ M) Z := by
    intro n
    induction n with
    | zero =>
      intro ρ M _ hI
      obtain ⟨e3, q⟩ := hd ρ M hI
      unfold forL
      rw [if_pos e3]
      exact ⟨_, _, _, rfl, q⟩
    | succ n ih =>
      intro ρ M hn hI
      obtain ⟨v, ρ', g1, g2, f, ρ2, M2, g3, g4⟩ := hs (len - (n + 1)) ρ M (by omega) hI
      have e5 : len - (n + 1) + 1 = len - n := by omega
      unfold forL
      rw [g1]
      dsimp only
      rw [g2]
      dsimp only
      rw [g3]
      cases f with
      | nx => exact ih ρ2 M2 (by omega) (by rw [← e5]; exact g4)
      | ct => exact ih ρ2 M2 (by omega) (by rw [← e5]; exact g4)
      | bk => exact ⟨_, _, _, rfl, g4⟩
      | rt w => exact ⟨_, _, _, rfl, g4⟩
  exact go len ρ M (Nat.le_refl _) (by rw [Nat.sub_self]; exact h0))
theorem z_ct (q : Z .ct ρ M) : XZ (evS Γ .cnt ρ M) Z := ⟨_, _, _, rfl, q⟩
theorem z_bk (q : Z .bk ρ M) : XZ (evS Γ .brk ρ M) Z := ⟨_, _, _, rfl, q⟩
/-- a def's body -/
theorem x_body {fd : FD} {us : List Val} {Q : Val → Mem → Prop} (h : XZ (evSs Γ fd.body (startE fd.n us) M) fun f _ M => match f with | .nx => Q .non M | .rt v => Q v M | _ => False) : XR (runB Γ fd us M) Q := by
  obtain ⟨f, ρ, M1, e, q⟩ := h
  unfold runB
  rw [e]
  cases f with
  | nx => exact ⟨_, _, rfl, q⟩
  | rt v => exact ⟨_, _, rfl, q⟩
  | bk => exact q.elim
  | ct => exact q.elim
/-! ### operators -/
theorem o_add {i j : Int} (q : Q (.int (i + j)) M) : XR (binop .Add (.int i) (.int j) M) Q := .ok q
theorem o_sub {i j : Int} (q : Q (.int (i - j)) M) : XR (binop .Sub (.int i) (.int j) M) Q := .ok q
theorem o_mul {i j : Int} (h : (-(2 ^ 64) < i ∧ i < 2 ^ 64) ∨ (-(2 ^ 64) < j ∧ j < 2 ^ 64)) (q : Q (.int (i * j)) M) : XR (binop .Mult (.int i) (.int j) M) Q := .of (by show chk (decide _) _ = _; rw [decide_eq_true h]; rfl) q
theorem o_mod {i j : Int} (h : 0 < j) (q : Q (.int (i % j)) M) : XR (binop .Mod (.int i) (.int j) M) Q := .of (by show chk (decide _) _ = _; rw [decide_eq_true h]; rfl) q
theorem o_div {i j : Int} (h : 0 < j) (h2 : j < 1073741824) (q : Q (.int (i / j)) M) : XR (binop .FloorDiv (.int i) (.int j) M) Q := .of (by show chk (decide _) _ = _; rw [decide_eq_true ⟨h, h2⟩]; rfl) q
theorem o_pow {i j : Int} (h : 0 ≤ j ∧ j ≤ 1000000 ∧ i.natAbs < 2 ^ 64) (q : Q (.int (i ^ j.toNat)) M) : XR (binop .Pow (.int i) (.int j) M) Q := .of (by show chk (decide _) _ = _; rw [decide_eq_true h]; rfl) q
theorem ix_nat {i : Int} {n : Nat} (h0 : 0 ≤ i) (h1 : i < n) : ixOf i n = some i.toNat := by unfold ixOf; rw [if_pos h0, if_pos h1]
theorem su_lst {n : Nat} {vs : List Val} {j : Int} {k : Nat} {v : Val} (h : M[n]? = some (.lst vs)) (e : ixOf j vs.length = some k) (e2 : vs[k]? = some v) (q : Q v M) : XR (subs (.ref n) (.int j) M) Q := .of (by
  show (match M[n]? with | some (.lst vs) => ixV vs j M | some (.rol vs) => ixV vs j M | some (.dct kvs) => chk (fits kvs (.int j)) (ofO (dget kvs (.int j)) M) | _ => .stuck) = _
  rw [h]
  show ixV vs j M = _
  unfold ixV
  rw [e]
  show ofO vs[k]? M = _
  rw [e2]; rfl) q
theorem su_tup {vs : List Val} {j : Int} {k : Nat} {v : Val} (e : ixOf j vs.length = some k) (e2 : vs[k]? = some v) (q : Q v M) : XR (subs (.tup vs) (.int j) M) Q := .of (by
  show ixV vs j M = _
  unfold ixV
  rw [e]
  show ofO vs[k]? M = _
  rw [e2]; rfl) q
theorem st_lst {n : Nat} {vs : List Val} {j : Int} {k : Nat} {v : Val} (h : M[n]? = some (.lst vs)) (e : ixOf j vs.length = some k) : storeI (.ref n) (.int j) v M = some (M.set n (.lst (vs.set k v))) := by
  simp only [storeI, h, e]
end
end Mn
end -- Pl3
section -- Pl4
set_option linter.all false
set_option autoImplicit false
set_option maxRecDepth 100000
namespace Mn
open PySem L2
structure Pen (M : Mem) (p q : Nat) : Prop where
  ex : ∃ (at_ d : Int) (is : List Int), M[p]? = some (.lst [.ref q, .int at_, .int d]) ∧ M[q]? = some (.lst (is.map .int)) ∧ is.length ≤ 63 ∧ 0 ≤ at_
theorem ints_get {is : List Int} {n : Nat} (h : n < is.length) : ∃ i, (is.map Val.int)[n]? = some (.int i) := ⟨is[n], by simp [h]⟩
theorem cmp_nil {M : Mem} {q n : Nat} {is : List Int} (h1 : M[q]? = some (.lst (is.map .int))) (h2 : M[n]? = some (.lst [])) : cmpop .NotEq (.ref q) (.ref n) M = some (!is.isEmpty) := by
  have e1 := data_ints h1
  have e2 : datM M (.ref n) = some (.list []) := data_ints (is := []) h2
  show (veqD M (.ref q) (.ref n)).map (!·) = _
  unfold veqD
  rw [e1, e2]
  dsimp only
  rw [shaped_ints is, show SeqAt.shaped (.list []) = true from rfl]
  cases is <;> rfl
theorem len_ref {M : Mem} {q : Nat} {vs : List Val} (h : M[q]? = some (.lst vs)) {Q : Val → Mem → Prop} (k : Q (.int vs.length) M) : XR (bcall .len [.ref q] M) Q := .of (by
  show ofO ((lenOf M (.ref q)).map fun n => Val.int n) M = _
  simp only [lenOf, h]
  rfl) k
theorem int_int {i : Int} {M : Mem} {Q : Val → Mem → Prop} (k : Q (.int i) M) : XR (bcall .int [.int i] M) Q := .of rfl k
theorem Pen.ne {M : Mem} {p q : Nat} (h : Pen M p q) : p ≠ q := fun e => by
  obtain ⟨a, d, is, h1, h2, _⟩ := h.ex
  subst e
  rw [h1] at h2
  cases is <;> cases h2
theorem Pen.lt {M : Mem} {p q : Nat} (h : Pen M p q) : p < M.length ∧ q < M.length := by
  obtain ⟨a, d, is, h1, h2, _⟩ := h.ex
  exact ⟨get_lt h1, get_lt h2⟩
theorem Pen.fr {M M' : Mem} {p q : Nat} (h : Pen M p q) {S : Nat → Prop} (f : Fr S M M') (hp : ¬ S p) (hq : ¬ S q) : Pen M' p q := by
  obtain ⟨a, d, is, h1, h2, h3, h4⟩ := h.ex
  exact ⟨a, d, is, f.get h1 hp, f.get h2 hq, h3, h4⟩
theorem Pen.app {M : Mem} {p q : Nat} (h : Pen M p q) (l : List Obj) : Pen (M ++ l) p q := h.fr (S := fun _ => False) (.app l) (fun z => z) fun z => z
theorem datsM_ints {M : Mem} {is : List Int} : datsM M (is.map .int) = some (is.map .int) := dats_ints _ is
theorem vin_ints {M : Mem} {c : Int} {is : List Int} : vin M (.int c) (is.map .int) = some (decide (c ∈ is)) := by
  unfold vin
  rw [datsM_ints]
  show (if SeqAt.shaped (.int c) && SeqAt.shaped (.list (is.map .int)) then some ((is.map PyData.int).any fun z => PyData.eqv z (.int c)) else none) = _
  rw [shaped_ints is, show SeqAt.shaped (.int c) = true from rfl]
  show some _ = some _
  congr 1
  rw [List.any_map, Bool.eq_iff_iff, List.any_eq_true, decide_eq_true_eq]
  constructor
  · rintro ⟨z, h1, h2⟩
    have e : z = c := by simpa [PyData.eqv] using h2
    subst e; exact h1
  · intro h
    exact ⟨c, h, by simp [PyData.eqv]⟩
theorem vle_ints (i j : Int) : vle (.int i) (.int j) = decide (i ≤ j) := by
  show (!PySem.W.dataLt (.int j) (.int i)) = _
  rw [PySem.W.dataLt_int, Bool.eq_iff_iff]
  simp
theorem sortable_ints (is : List Int) : sortable (is.map .int) = true := by
  unfold sortable
  have h1 : ((is.map PyData.int).all fun d => (is.map PyData.int).all fun e => PySem.W.alike d e) = true := by
    simp only [List.all_eq_true, List.mem_map]
    rintro _ ⟨i, _, rfl⟩ _ ⟨j, _, rfl⟩
    rfl
  have h2 : (is.map PyData.int).all SeqAt.shaped = true := by
    simp only [List.all_eq_true, List.mem_map]
    rintro _ ⟨i, _, rfl⟩
    rfl
  rw [h1, h2]
  refine (Bool.or_eq_true _ _).mpr (.inr (List.all_eq_true.mpr fun d hd => ?_))
  obtain ⟨i, _, rfl⟩ := List.mem_map.mp hd
  rfl
theorem vsort_ints {is : List Int} (h : is.length ≤ sizeLine) : vsort (is.map .int) = some ((is.mergeSort fun a b => decide (a ≤ b)).map .int) := by
  rw [vsort_def]
  rw [dats_ints]
  dsimp only
  rw [sortable_ints, decide_eq_true (by rw [List.length_map]; exact h)]
  show some ((is.map Val.int).mergeSort vle) = _
  rw [List.map_mergeSort (s := vle) (fun a _ b _ => (vle_ints a b).symm)]
/-- sorted(xs) of ints -/
theorem sorted_ints {M : Mem} {q : Nat} {is : List Int} (h : M[q]? = some (.lst (is.map .int))) (hl : is.length ≤ sizeLine) {Q : Val → Mem → Prop} (k : Q (.ref M.length) (M ++ [.lst ((is.mergeSort fun a b => decide (a ≤ b)).map .int)])) : XR (bcall .sorted [.ref q] M) Q := .of (by
  show (match lstOf M (.ref q) with | some vs => (match vsort vs with | some ws => new (.lst ws) M | none => .stuck) | none => .stuck) = _
  simp only [lstOf, h, vsort_ints hl]
  rfl) k
theorem sort_strict {is : List Int} (h : is.Nodup) : (is.mergeSort fun a b => decide (a ≤ b)).Pairwise (· < ·) := by
  have h1 := List.pairwise_mergeSort (le := fun a b : Int => decide (a ≤ b)) (fun a b c => by simp; omega) (fun a b => by simp; omega) is
  have h2 : (is.mergeSort fun a b => decide (a ≤ b)).Nodup := (List.mergeSort_perm is _).nodup_iff.mpr h
  refine (List.Pairwise.and h1 h2).imp ?_
  rintro a b ⟨x, y⟩
  have x : a ≤ b := by simpa using x
  omega
theorem tuple_lst {M : Mem} {q : Nat} {vs : List Val} (h : M[q]? = some (.lst vs)) {Q : Val → Mem → Prop} (k : Q (.tup vs) M) : XR (bcall .tuple [.ref q] M) Q := .of (by
  show (match seqOf M (.ref q) with | some vs => Res.ok (Val.tup vs) M | none => .stuck) = _
  simp only [seqOf, h]) k
theorem append_ok {M : Mem} {q : Nat} {vs : List Val} {v : Val} (h : M[q]? = some (.lst vs)) (hl : vs.length < sizeLine) {Q : Val → Mem → Prop} (k : Q .non (M.set q (.lst (vs ++ [v])))) : XR (bmeth .append (.ref q) [v] M) Q := .of (by
  show (match ownL M (.ref q) with | some p => mList .append p.1 p.2 [v] M | none => .stuck) = _
  simp only [ownL, h]
  show chk (decide (vs.length < sizeLine)) _ = _
  rw [decide_eq_true hl]
  rfl) k
theorem recv_append {M : Mem} {q : Nat} {vs : List Val} (h : M[q]? = some (.lst vs)) : recvOk .append M (.ref q) = true := by
  show (ownL M (.ref q)).isSome = true
  simp only [ownL, h]
  rfl
theorem cin_ref {M : Mem} {q : Nat} {c : Int} {is : List Int} (h : M[q]? = some (.lst (is.map .int))) : cin (.int c) (.ref q) M = some (decide (c ∈ is)) := by
  simp only [cin, h]
  exact vin_ints
end Mn
end -- Pl4
section -- Pl5
set_option linter.all false
set_option autoImplicit false
set_option maxRecDepth 100000
namespace Mn
open PySem L2
/-- nothing that was there is changed -/
abbrev Fr0 := Fr fun _ => False
theorem Fr0.to {S : Nat → Prop} {M M' : Mem} (f : Fr0 M M') : Fr S M M' := f.mono fun _ _ z => z.elim
theorem src_range {n : Int} {M : Mem} (h : -(2 ^ 62) ≤ n ∧ n < 2 ^ 62) : srcOf .range [.int n] M = some (.sq (.im (irange 0 n.toNat))) := by
  show (rangeOf [.int n]).map (fun l => Src.sq (.im l)) = _
  show (if smallI n then some (irange 0 n.toNat) else none).map (fun l => Src.sq (.im l)) = _
  rw [if_pos (show smallI n = true from decide_eq_true h)]; rfl
theorem rng_len {n : Nat} {M : Mem} : (Src.sq (.im (irange 0 n))).len M = some n := by show (some (irange 0 n)).map (·.length) = _; rw [Option.map_some, irange_len]
theorem rng_get {n i : Nat} (h : i < n) : (irange 0 n)[i]? = some (.int i) := by
  rw [irange_eq, List.getElem?_map, List.getElem?_range h]
  show some (Val.int (0 + (i : Nat))) = _
  rw [Int.zero_add]
theorem rng_at {n i len : Nat} {M : Mem} (h : i < n) : (Src.sq (.im (irange 0 n))).at M len i = some (.int i) := rng_get h
def enumL (vs : List Val) : List Val := vs.mapIdx fun i v => .tup [.int i, v]
/-- the items of a source -/
def SrcI (src : Src) (items : List Val) (M : Mem) : Prop := ∀ M', Fr0 M M' → src.len M' = some items.length ∧ ∀ i, i < items.length → src.at M' items.length i = items[i]?
theorem srcI_im {vs : List Val} {M : Mem} : SrcI (.sq (.im vs)) vs M := fun M' _ => ⟨rfl, fun i _ => rfl⟩
theorem srcI_mu {vs : List Val} {M : Mem} {n : Nat} (h : M[n]? = some (.lst vs)) : SrcI (.sq (.mu n)) vs M := fun M' f => by
  have e : (Sq.mu n).get M' = some vs := by simp only [Sq.get, f.get h fun z => z]
  refine ⟨by show ((Sq.mu n).get M').map _ = _; rw [e]; rfl, fun i _ => ?_⟩
  show ((Sq.mu n).get M').bind _ = _
  rw [e]; rfl
theorem enumL_len (vs : List Val) : (enumL vs).length = vs.length := List.length_mapIdx
theorem srcI_enum {vs : List Val} {M : Mem} : SrcI (.enum (.im vs)) (enumL vs) M := fun M' _ => ⟨by rw [enumL_len]; rfl, fun i _ => by
  show (vs[i]?).map _ = _
  unfold enumL
  rw [List.getElem?_mapIdx]⟩
theorem srcI_enumR {vs : List Val} {M : Mem} {n : Nat} (h : M[n]? = some (.lst vs)) : SrcI (.enum (.mu n)) (enumL vs) M := fun M' f => by
  have e : (Sq.mu n).get M' = some vs := by simp only [Sq.get, f.get h fun z => z]
  refine ⟨by rw [enumL_len]; show ((Sq.mu n).get M').map _ = _; rw [e]; rfl, fun i _ => ?_⟩
  show (((Sq.mu n).get M').bind _).map _ = _
  rw [e]
  show (vs[i]?).map _ = _
  unfold enumL
  rw [List.getElem?_mapIdx]
theorem filter_take {α : Type} {xs : List α} {p : α → Bool} {i : Nat} {x : α} (h : xs[i]? = some x) : (xs.take (i + 1)).filter p = (xs.take i).filter p ++ if p x then [x] else [] := by
  rw [List.take_add_one, h, List.filter_append]
  cases e : p x <;> simp [e]
section
variable {Γ : Gam} {ρ : Env} {M : Mem} {Q : Val → Mem → Prop}
/-- a comprehension that changes nothing -/
theorem x_compP {k : IK} {its : List E} {t : T} {own : List Nat} {cs : List E} {elt : E} (h : XR (evEs Γ its ρ M) fun vs M => ∃ src items, srcOf k vs M = some src ∧ SrcI src items M ∧ items.length ≤ sizeLine ∧ ∃ (p : Val → Bool) (g : Val → Val),
    (∀ v ∈ items, ∀ M', Fr0 M M' → ∃ ρ', asgT M' t v (wipeE ρ own) = some ρ' ∧ XR (evC Γ cs ρ' M') fun d M2 => Fr0 M' M2 ∧ d = p v ∧ (d = true → XR (evE Γ elt ρ' M2) fun w M3 => Fr0 M2 M3 ∧ w = g v)) ∧
    ∀ M', Fr0 M M' → Q (.ref M'.length) (M' ++ [.lst ((items.filter p).map g)])) : XR (evE Γ (.comp k its t own cs elt) ρ M) Q := x_comp (h.imp fun vs M ⟨src, items, e1, si, hl, p, g, hs, hd⟩ => by
  refine ⟨src, items.length, e1, (si M .refl).1, hl, fun i acc M' => Fr0 M M' ∧ acc = ((items.take i).filter p).map g, ⟨.refl, rfl⟩, ?_, ?_⟩
  · rintro i acc M' hi ⟨f, rfl⟩
    have hx : items[i]? = some items[i] := List.getElem?_eq_getElem hi
    obtain ⟨ρ', e2, d, M2, e3, f2, e4, r⟩ := hs items[i] (List.getElem_mem hi) M' f
    refine ⟨items[i], ρ', by rw [(si M' f).2 i hi]; exact hx, e2, d, M2, e3, ?_, ?_⟩
    · intro hd'
      obtain ⟨w, M3, e5, f3, e6⟩ := r hd'
      refine ⟨w, M3, e5, (f.trans f2).trans f3, ?_⟩
      rw [filter_take hx, ← e4, hd', e6, List.map_append]
      rfl
    · intro hd'
      refine ⟨f.trans f2, ?_⟩
      rw [filter_take hx, ← e4, hd']
      simp
  · rintro acc M' ⟨f, rfl⟩
    refine ⟨(si M' f).1, ?_⟩
    rw [List.take_length]
    exact hd M' f)
/-- a for whose body goes on -/
theorem z_forI {Z : Fl → Env → Mem → Prop} {k : IK} {its : List E} {t : T} {body : List S} (h : XR (evEs Γ its ρ M) fun vs M => ∃ src items, srcOf k vs M = some src ∧ SrcI src items M ∧ ∃ I : Nat → Env → Mem → Prop, I 0 ρ M ∧
    (∀ i ρ M', I i ρ M' → Fr0 M M') ∧
    (∀ i v ρ M, items[i]? = some v → I i ρ M → ∃ ρ', asgT M t v ρ = some ρ' ∧ XZ (evSs Γ body ρ' M) fun f ρ M => match f with | .nx => I (i + 1) ρ M | .ct => I (i + 1) ρ M | .bk => Z .nx ρ M | .rt v => Z (.rt v) ρ M) ∧
    ∀ ρ M, I items.length ρ M → Z .nx ρ M) : XZ (evS Γ (.for k its t body) ρ M) Z := z_for (h.imp fun vs M ⟨src, items, e1, si, I, h0, hf, hs, hd⟩ => by
  refine ⟨src, items.length, e1, (si M .refl).1, I, h0, ?_, fun ρ M' hI => ⟨(si M' (hf _ _ _ hI)).1, hd ρ M' hI⟩⟩
  intro i ρ M' hi hI
  have hx : items[i]? = some items[i] := List.getElem?_eq_getElem hi
  obtain ⟨ρ', e2, r⟩ := hs i items[i] ρ M' hx hI
  exact ⟨items[i], ρ', by rw [(si M' (hf _ _ _ hI)).2 i hi]; exact hx, e2, r⟩)
end
theorem cut_map {α β : Type} (f : α → β) (xs : List α) (l h : Option Int) : cut (xs.map f) l h = (cut xs l h).map f := by
  unfold cut
  rw [List.length_map, List.map_take, List.map_drop]
theorem cut_len {α : Type} (xs : List α) (l h : Option Int) : (cut xs l h).length ≤ xs.length := by
  unfold cut
  rw [List.length_take, List.length_drop]
  omega
/-- [list(script[:63]), 0, 0] -/
theorem dats_ok (rd : Nat → Option PyData) {vs : List Val} (h : okV (.tup vs)) : dats rd vs = some (dVs vs) := dats_sm rd vs h.1
theorem repr_ref {M : Mem} {n : Nat} {vs : List Val} (h : M[n]? = some (.lst vs)) (ok : okV (.tup vs)) : bcall .repr [.ref n] M = .ok (.str (PyData.list (dVs vs)).shown) M := by
  have e : datM M (.ref n) = some (.list (dVs vs)) := by
    show rdM M 6 n = _
    unfold rdM
    rw [h]
    dsimp only
    rw [dats_ok _ ok]
    rfl
  obtain ⟨a1, a2, a3, a4, a5⟩ := lay_sm _ ok.1
  obtain ⟨_, h2, h3⟩ := ok
  have lay : (PyData.list (dVs vs)).layable0 = true := okV.lay ⟨‹_›, h2, h3⟩
  have l := PyData.shown_le_of_layable0 lay a2
  have sh : shownOk (PyData.list (dVs vs)) = true := by
    unfold shownOk
    rw [show (PyData.list (dVs vs)).showable = true from a3, show SeqAt.shaped (.list (dVs vs)) = true from SeqAt.shaped_of_layable lay, decide_eq_true (by
      have : (PyData.list (dVs vs)).weight = (dV (.tup vs)).weight := rfl
      rw [sizeLine_eq]; omega)]
    rfl
  show (match datM M (.ref n) with | some d => chk (shownOk d) (Res.ok (Val.str d.shown) M) | none => .stuck) = _
  rw [e]
  dsimp only
  rw [sh]
  rfl
theorem ne_self {M : Mem} {s : Str} : cmpop .NotEq (.str s) (.str s) M = some false := by
  show (some (decide (s = s))).map (!·) = _
  rw [decide_eq_true rfl]; rfl
theorem eqI {M : Mem} {a b : Int} : veqD M (.int a) (.int b) = some (decide (a = b)) := by
  show some (PyData.eqv (.int a) (.int b)) = _
  congr 1
end Mn
end -- Pl5
section -- Pl6
set_option linter.all false
set_option autoImplicit false
set_option maxRecDepth 100000
namespace Mn
open PySem L2
theorem glb_cons {x y : Str} {v w : Val} {r : List (Str × Val)} (e : ((y, w) :: r).lookup x = some v) : (x = y ∧ w = v) ∨ r.lookup x = some v := by
  rw [List.lookup_cons] at e
  by_cases h : x = y
  · subst h
    simp at e
    exact .inl ⟨rfl, e⟩
  · have : (x == y) = false := by simpa using h
    rw [this] at e
    exact .inr e
theorem o_addL {M : Mem} {a b : Nat} {xs ys : List Val} {Q : Val → Mem → Prop} (ha : M[a]? = some (.lst xs)) (hb : M[b]? = some (.lst ys)) (h : xs.length + ys.length ≤ sizeLine) (q : Q (.ref M.length) (M ++ [.lst (xs ++ ys)])) : XR (binop .Add (.ref a) (.ref b) M) Q := .of (by
  show (match M[a]?, M[b]? with | some (.lst xs), some (.lst ys) => chk (decide (xs.length + ys.length ≤ sizeLine)) (new (.lst (xs ++ ys)) M) | _, _ => .stuck) = _
  rw [ha, hb]
  show chk (decide (xs.length + ys.length ≤ sizeLine)) _ = _
  rw [decide_eq_true h]; rfl) q
end Mn
end -- Pl6
section -- Pn1
set_option linter.all false
set_option autoImplicit false
set_option maxRecDepth 100000
/-! A second evaluator, without a store: lists and dicts as values. What a name holds is either kept for good (fz) or its own (ol, od, oi) and may be changed. -/
namespace Mn
open PySem L2

inductive Pv where
  | non | bl (b : Bool) | int (i : Int) | str (s : Str) | tup (vs : List Pv) | lst (vs : List Pv) | rol (vs : List Pv)
  | dct (kvs : List (Pv × Pv)) | ins (C : Str) (fs : List (Str × Pv)) | ty (t : String) | glo (x : Str)
inductive P where
  | fz (v : Pv) | ol (vs : List Pv) | od (kvs : List (Pv × Pv)) | oi (C : Str) (fs : List (Str × Pv))
abbrev PEnv := List (Option P)
/-- a result: a value, or what a name holds -/
inductive R where
  | v (p : P) | al (i : Nat)
inductive PO (α : Type) where
  | ok (a : α) (ρ : PEnv) | stuck
def PO.bind {α β : Type} (r : PO α) (f : α → PEnv → PO β) : PO β :=
  match r with
  | .ok a ρ => f a ρ
  | .stuck => .stuck
@[simp] theorem PO.bind_ok {α β : Type} (a : α) (ρ : PEnv) (f : α → PEnv → PO β) : (PO.ok a ρ).bind f = f a ρ := rfl
def pof {α : Type} (o : Option α) (ρ : PEnv) : PO α := match o with | some a => .ok a ρ | none => .stuck
@[simp] theorem pof_some {α : Type} (a : α) (ρ : PEnv) : pof (some a) ρ = .ok a ρ := rfl
def P.view : P → Pv
  | .fz v => v
  | .ol vs => .lst vs
  | .od kvs => .dct kvs
  | .oi C fs => .ins C fs
def P.isF : P → Bool
  | .fz _ => true
  | _ => false
/-- a look at a result -/
def pk (ρ : PEnv) : R → Option Pv
  | .v p => some p.view
  | .al i => match ρ[i]? with | some (some p) => some p.view | _ => none
def pks (ρ : PEnv) : List R → Option (List Pv)
  | [] => some []
  | r :: rs => match pk ρ r, pks ρ rs with | some v, some vs => some (v :: vs) | _, _ => none
/-- a result kept for good -/
def tk (r : R) (ρ : PEnv) : PO Pv :=
  match r with
  | .v p => .ok p.view ρ
  | .al i => match ρ[i]? with | some (some p) => .ok p.view (if p.isF then ρ else ρ.set i (some (.fz p.view))) | _ => .stuck
def tks : List R → PEnv → PO (List Pv)
  | [], ρ => .ok [] ρ
  | r :: rs, ρ => (tk r ρ).bind fun v ρ => (tks rs ρ).bind fun vs ρ => .ok (v :: vs) ρ
def fzr (v : Pv) : R := .v (.fz v)
/-! ### data -/
mutual
def vdat (k : Nat) : Pv → Option PyData
  | .non => some .none
  | .bl b => some (.bool b)
  | .int i => some (.int i)
  | .str s => some (.str s)
  | .tup vs => (vdats k vs).map .tuple
  | .lst vs => match k with | 0 => none | k + 1 => (vdats k vs).map .list
  | .rol vs => match k with | 0 => none | k + 1 => (vdats k vs).map .list
  | .dct _ => none
  | .ins _ _ => none
  | .ty _ => none
  | .glo _ => none
def vdats (k : Nat) : List Pv → Option (List PyData)
  | [] => some []
  | v :: vs => match vdat k v, vdats k vs with
    | some d, some ds => some (d :: ds)
    | _, _ => none
end
def pveqD (x y : Pv) : Option Bool :=
  match vdat 6 x, vdat 6 y with
  | some d, some e => if SeqAt.shaped d && SeqAt.shaped e then some (PyData.eqv d e) else none
  | _, _ => none
def pveq (x y : Pv) : Option Bool :=
  match x, y with
  | .str a, .str b => some (decide (a = b))
  | x, y => pveqD x y
def pvlt (x y : Pv) : Option Bool :=
  match vdat 6 x, vdat 6 y with
  | some (.tuple ds), some (.tuple es) => if PySem.W.alike (.tuple ds) (.tuple es) && SeqAt.shaped (.tuple ds) && SeqAt.shaped (.tuple es) then some (PySem.W.dataLt (.tuple ds) (.tuple es)) else none
  | some (.str a), some (.str b) => some (PySem.W.dataLt (.str a) (.str b))
  | _, _ => none
/-- the items of a list or tuple -/
def pseq : Pv → Option (List Pv)
  | .tup vs => some vs
  | .lst vs => some vs
  | .rol vs => some vs
  | _ => none
def plstOf : Pv → Option (List Pv)
  | .lst vs => some vs
  | .rol vs => some vs
  | _ => none
mutual
def pisKey : Pv → Bool
  | .non => true
  | .int _ => true
  | .str _ => true
  | .tup vs => pareKeys vs
  | _ => false
def pareKeys : List Pv → Bool
  | [] => true
  | v :: vs => pisKey v && pareKeys vs
end
mutual
def pkdepth : Pv → Nat
  | .tup vs => pkdepths vs + 1
  | _ => 0
def pkdepths : List Pv → Nat
  | [] => 0
  | v :: vs => max (pkdepth v) (pkdepths vs)
end
mutual
def pkeq : Pv → Pv → Bool
  | .non, .non => true
  | .int i, .int j => decide (i = j)
  | .str a, .str b => decide (a = b)
  | .tup vs, .tup ws => pkeqs vs ws
  | _, _ => false
def pkeqs : List Pv → List Pv → Bool
  | [], [] => true
  | v :: vs, w :: ws => pkeq v w && pkeqs vs ws
  | _, _ => false
end
def pleafK : Pv → Bool
  | .int _ => true
  | .str _ => true
  | _ => false
def ptupK : Pv → Bool
  | .tup vs => pareKeys vs && decide (pkdepths vs < 8)
  | _ => false
def pfits (kvs : List (Pv × Pv)) (k : Pv) : Bool :=
  (pleafK k && kvs.all fun p => pleafK p.1) || (ptupK k && kvs.all fun p => ptupK p.1)
def pdget (kvs : List (Pv × Pv)) (k : Pv) : Option Pv := (kvs.find? fun p => pkeq p.1 k).map (·.2)
def pdput : List (Pv × Pv) → Pv → Pv → List (Pv × Pv)
  | [], k, v => [(k, v)]
  | p :: r, k, v => if pkeq p.1 k then (p.1, v) :: r else p :: pdput r k v
def ptruth : Pv → Option Bool
  | .non => some false
  | .bl b => some b
  | .int i => some (i != 0)
  | .str s => if s.length ≤ 1000000 then some ((s.length : Int) != 0) else none
  | .tup vs => some (!vs.isEmpty)
  | .lst vs => some (!vs.isEmpty)
  | .rol vs => some (!vs.isEmpty)
  | .dct kvs => if kvs.all fun p => pleafK p.1 then some (!kvs.isEmpty) else none
  | _ => none
/-! ### operators -/
def pbin (op : Operator) (x y : Pv) : Option P :=
  match op, x, y with
  | .Add, .int i, .int j => some (.fz (.int (i + j)))
  | .Add, .str a, .str b => if a.length + b.length ≤ 1000000 then some (.fz (.str (a ++ b))) else none
  | .Add, .tup a, .tup b => if a.length + b.length ≤ 1000000 then some (.fz (.tup (a ++ b))) else none
  | .Add, .lst xs, .lst ys => if xs.length + ys.length ≤ 1000000 then some (.ol (xs ++ ys)) else none
  | .Sub, .int i, .int j => some (.fz (.int (i - j)))
  | .Mult, .int i, .int j => if (-(2 ^ 64) < i ∧ i < 2 ^ 64) ∨ (-(2 ^ 64) < j ∧ j < 2 ^ 64) then some (.fz (.int (i * j))) else none
  | .Mult, .lst xs, .int j => if -1000000 ≤ j ∧ j ≤ 1000000 ∧ xs.length * j.toNat ≤ 1000000 then some (.ol (List.replicate j.toNat xs).flatten) else none
  | .Mult, .tup xs, .int j => if xs.length ≠ 0 ∧ 2 ≤ j ∧ j ≤ 1000 ∧ xs.length ≤ 1000 then some (.fz (.tup (List.replicate j.toNat xs).flatten)) else none
  | .FloorDiv, .int i, .int j => if 0 < j ∧ j < 1073741824 then some (.fz (.int (i / j))) else none
  | .Mod, .int i, .int j => if 0 < j then some (.fz (.int (i % j))) else none
  | .Pow, .int i, .int j => if 0 ≤ j ∧ j ≤ 1000000 ∧ i.natAbs < 2 ^ 64 then some (.fz (.int (i ^ j.toNat))) else none
  | _, _, _ => none
def pvin (x : Pv) (ys : List Pv) : Option Bool :=
  match vdat 6 x, vdats 6 ys with
  | some d, some ds => if SeqAt.shaped d && SeqAt.shaped (.list ds) then some (ds.any fun z => PyData.eqv z d) else none
  | _, _ => none
def pcin (x y : Pv) : Option Bool :=
  match y with
  | .tup ys => pvin x ys
  | .str b => match x with
    | .str a => some (!(Builtin.Str.occurrences b a 0 b.length 1).isEmpty)
    | _ => none
  | .lst ys => pvin x ys
  | .rol ys => pvin x ys
  | .dct kvs => if pfits kvs x then some (pdget kvs x).isSome else none
  | _ => none
def pcis : Pv → Pv → Option Bool
  | x, .non => some (match x with | .non => true | _ => false)
  | .bl a, .bl b => some (a == b)
  | _, _ => none
def pcmp (op : CmpOp) (x y : Pv) : Option Bool :=
  match op with
  | .Eq => pveq x y
  | .NotEq => (pveq x y).map (!·)
  | .Lt => match x, y with
    | .int i, .int j => some (decide (i < j))
    | _, _ => pvlt x y
  | .LtE => match x, y with
    | .int i, .int j => some (decide (i ≤ j))
    | _, _ => none
  | .Gt => match x, y with
    | .int i, .int j => some (decide (j < i))
    | _, _ => none
  | .GtE => match x, y with
    | .int i, .int j => some (decide (j ≤ i))
    | _, _ => none
  | .Is => pcis x y
  | .IsNot => (pcis x y).map (!·)
  | .In => pcin x y
  | .NotIn => (pcin x y).map (!·)
def pixV (vs : List Pv) (j : Int) : Option Pv := match ixOf j vs.length with
  | some k => vs[k]?
  | none => none
def psub (x i : Pv) : Option Pv :=
  match x, i with
  | .tup vs, .int j => pixV vs j
  | .str s, .int j => match if s.length ≤ 1000000 then ixOf j s.length else none with | some k => s.cps[k]?.map fun c => .str ⟨#[c]⟩ | none => none
  | .lst vs, .int j => pixV vs j
  | .rol vs, .int j => pixV vs j
  | .dct kvs, i => if pfits kvs i then pdget kvs i else none
  | _, _ => none
def pslice (x : Pv) (l h : Option Int) : Option P :=
  match x with
  | .tup vs => some (.fz (.tup (cut vs l h)))
  | .lst vs => some (.ol (cut vs l h))
  | .rol vs => some (.ol (cut vs l h))
  | _ => none
def prevs (x : Pv) : Option P :=
  match x with
  | .lst vs => some (.ol vs.reverse)
  | _ => none
/-! ### built-in functions -/
def pints : List Pv → Option (List Int)
  | [] => some []
  | .int i :: vs => (pints vs).map (i :: ·)
  | _ => none
def pbools : List Pv → Option (List Bool)
  | [] => some []
  | .bl b :: vs => (pbools vs).map (b :: ·)
  | _ => none
def pvd (v : Pv) : PyData := (vdat 0 v).getD .none
def pvle (x y : Pv) : Bool := PySem.W.dataLe false pvd x y
def pvsort (vs : List Pv) : Option (List Pv) :=
  match vdats 0 vs with
  | some ds => if sortable ds && decide (vs.length ≤ 1000000) then some (msrt pvle vs.length vs) else none
  | none => none
def pvmin : List Pv → Option Pv
  | [] => none
  | v :: vs => some (vs.foldl (fun m x => if PySem.W.dataLt (pvd x) (pvd m) then x else m) v)
def pvmax : List Pv → Option Pv
  | [] => none
  | v :: vs => some (vs.foldl (fun m x => if PySem.W.dataLt (pvd m) (pvd x) then x else m) v)
def palikes (vs : List Pv) : Bool :=
  match vdats 0 vs with
  | some ds => sortable ds
  | none => false
def pitems : Pv → Option (List Pv)
  | .tup vs => some vs
  | .lst vs => some vs
  | .rol vs => some vs
  | .dct kvs => some (kvs.map (·.1))
  | _ => none
def plen : Pv → Option Nat
  | .tup vs => some vs.length
  | .str s => if s.length ≤ 1000000 then some s.length else none
  | .lst vs => some vs.length
  | .rol vs => some vs.length
  | .dct kvs => some kvs.length
  | _ => none
def ptyName : Pv → Option String
  | .non => some "NoneType"
  | .bl _ => some "bool"
  | .int _ => some "int"
  | .str _ => some "str"
  | .tup _ => some "tuple"
  | .lst _ => some "list"
  | .rol _ => some "list"
  | .dct _ => some "dict"
  | _ => none
def ppairs : List Pv → Option (List (Pv × Pv))
  | [] => some []
  | .tup [k, v] :: r => (ppairs r).map ((k, v) :: ·)
  | _ => none
def pdputs : List (Pv × Pv) → List (Pv × Pv) → Option (List (Pv × Pv))
  | kvs, [] => some kvs
  | kvs, (k, v) :: r => if pfits kvs k then pdputs (pdput kvs k v) r else none
def pbmin (xs : List Pv) : Option P :=
  match xs with
  | [x] => match pseq x with
    | some vs => if palikes vs then (pvmin vs).map .fz else none
    | none => none
  | [.int i, .int j] => some (.fz (.int (if j < i then j else i)))
  | _ => none
def pbmax (xs : List Pv) : Option P :=
  match xs with
  | [x] => match pseq x with
    | some vs => if palikes vs then (pvmax vs).map .fz else none
    | none => none
  | [.int i, .int j] => some (.fz (.int (if j > i then j else i)))
  | _ => none
def pbcall (f : BF) (xs : List Pv) : Option P :=
  match f, xs with
  | .len, [x] => (plen x).map fun n => .fz (.int n)
  | .abs, [.int i] => some (.fz (.int (if i < 0 then -i else i)))
  | .int, [.int i] => some (.fz (.int i))
  | .int, [.bl b] => some (.fz (.int (if b then 1 else 0)))
  | .min, xs => pbmin xs
  | .max, xs => pbmax xs
  | .sum, [x] => match plstOf x with
    | some vs => (pints vs).map fun is => .fz (.int is.sum)
    | none => none
  | .all, [x] => match plstOf x with
    | some vs => (pbools vs).map fun bs => .fz (.bl (bs.all id))
    | none => none
  | .any, [x] => match plstOf x with
    | some vs => (pbools vs).map fun bs => .fz (.bl (bs.any id))
    | none => none
  | .sorted, [x] => match plstOf x with
    | some vs => (pvsort vs).map .ol
    | none => none
  | .list, [x] => (pitems x).map .ol
  | .tuple, [x] => (pseq x).map fun vs => .fz (.tup vs)
  | .str, [.int i] => if i.natAbs.log2 < 1920 then some (.fz (.str (toString i))) else none
  | .repr, [x] => match vdat 6 x with
    | some d => if shownOk d then some (.fz (.str d.shown)) else none
    | none => none
  | .dict, [x] => match pseq x with
    | some vs => ((ppairs vs).bind (pdputs [])).map .od
    | none => none
  | .isinstance, [x, .ty t] => ((ptyName x).bind fun a => isTy a t).map fun b => .fz (.bl b)
  | _, _ => none
/-! ### sources of loops -/
def pirange (lo : Int) : Nat → List Pv
  | 0 => []
  | n + 1 => .int lo :: pirange (lo + 1) n
def pirangeC (lo c : Int) : Nat → List Pv
  | 0 => []
  | n + 1 => .int lo :: pirangeC (lo + c) c n
def prangeOf : List Pv → Option (List Pv)
  | [.int j] => if smallI j then some (pirange 0 j.toNat) else none
  | [.int i, .int j] => if smallI i && smallI j then some (pirange i (j - i).toNat) else none
  | [.int i, .int j, .int c] => if smallI i && smallI j && decide (c = -1) then some (pirangeC i c (i - j).toNat) else none
  | _ => none
def psrc (k : IK) (vs : List Pv) : Option (List Pv) :=
  match k, vs with
  | .ex, [.str s] => some (s.cps.toList.map fun c => .str ⟨#[c]⟩)
  | .ex, [v] => pseq v
  | .range, vs => prangeOf vs
  | .rev, [v] => (pseq v).map List.reverse
  | .enum, [v] => (pseq v).map fun l => l.zipIdx.map fun p => .tup [.int p.2, p.1]
  | .zip, [.tup s, .tup t] => if s.length = t.length then some ((s.zip t).map fun p => .tup [p.1, p.2]) else none
  | .zip, [.lst s, .lst t] => if s.length = t.length then some ((s.zip t).map fun p => .tup [p.1, p.2]) else none
  | _, _ => none
/-! ### what calls do -/
structure PGam where
  glob : Str → Option Pv
  call : Str → List P → List (Str × Pv) → Option (P × List (Option P))
  make : Str → List P → List (Str × Pv) → Option P
  lend : Str → List Bool
  fld : Str → Str → Bool
  fuel : Nat
  /-- names that stay what they are -/
  pin : Nat → Bool
/-! ### targets -/
mutual
def pasgT (pin : Nat → Bool) : T → Pv → PEnv → Option PEnv
  | .nm i, v, ρ => if i < ρ.length && !pin i then some (ρ.set i (some (.fz v))) else none
  | .tp ts, v, ρ => match v with
    | .tup vs => pasgTs pin ts vs ρ
    | _ => none
def pasgTs (pin : Nat → Bool) : List T → List Pv → PEnv → Option PEnv
  | [], [], ρ => some ρ
  | t :: ts, v :: vs, ρ => match pasgT pin t v ρ with
    | some ρ' => pasgTs pin ts vs ρ'
    | none => none
  | _, _, _ => none
end
/-- a value stored in a name -/
def pputP (pin : Nat → Bool) (i : Nat) (p : P) (ρ : PEnv) : Option PEnv := if i < ρ.length && !pin i then some (ρ.set i (some p)) else none
def pres : List R → PEnv → PO (List P)
  | [], ρ => .ok [] ρ
  | .v p :: rs, ρ => (pres rs ρ).bind fun ps ρ => .ok (p :: ps) ρ
  | .al i :: rs, ρ => (tk (.al i) ρ).bind fun v ρ => (pres rs ρ).bind fun ps ρ => .ok (.fz v :: ps) ρ
def pputPs (pin : Nat → Bool) : List T → List P → PEnv → Option PEnv
  | [], [], ρ => some ρ
  | .nm i :: ts, p :: ps, ρ => match pputP pin i p ρ with
    | some ρ' => pputPs pin ts ps ρ'
    | none => none
  | _, _, _ => none
def pwipe (ρ : PEnv) : List Nat → PEnv
  | [] => ρ
  | v :: vs => (pwipe ρ vs).set v none
/-- the names of a comprehension as they were -/
def prst (ρ0 ρ : PEnv) : List Nat → PEnv
  | [] => ρ
  | i :: is => (prst ρ0 ρ is).set i (match ρ0[i]? with | some (some (.fz w)) => some (.fz w) | _ => none)
/-- names that weren't bound are forgotten -/
def pfgt : PEnv → PEnv → PEnv
  | some _ :: r, x :: ρ => x :: pfgt r ρ
  | none :: r, _ :: ρ => none :: pfgt r ρ
  | [], ρ => ρ
  | _ :: _, [] => []
def pinO (own : List Nat) (i : Nat) : Bool := !own.contains i
def pcompL (g : PEnv → PO (Option Pv)) (own : List Nat) (t : T) : List Pv → PEnv → PO (List Pv)
  | [], ρ => .ok [] ρ
  | v :: vs, ρ => match pasgT (pinO own) t v (pwipe ρ own) with
    | none => .stuck
    | some ρ1 => (g ρ1).bind fun o ρ2 => (pcompL g own t vs ρ2).bind fun ws ρ3 => .ok (o.toList ++ ws) ρ3
def pdcompL (g : PEnv → PO (Option (Pv × Pv))) (own : List Nat) (t : T) : List Pv → List (Pv × Pv) → PEnv → PO (List (Pv × Pv))
  | [], acc, ρ => .ok acc ρ
  | v :: vs, acc, ρ => match pasgT (pinO own) t v (pwipe ρ own) with
    | none => .stuck
    | some ρ1 => (g ρ1).bind fun o ρ2 => match o with
      | none => pdcompL g own t vs acc ρ2
      | some q => if pfits acc q.1 then pdcompL g own t vs (pdput acc q.1 q.2) ρ2 else .stuck
/-! ### calls: what is handed in and given back -/
def lendA : List R → List Bool → PEnv → PO (List (P × Option Nat))
  | [], _, ρ => .ok [] ρ
  | r :: rs, bs, ρ => match bs.headD false with
    | false => (tk r ρ).bind fun v ρ => (lendA rs bs.tail ρ).bind fun l ρ => .ok ((.fz v, none) :: l) ρ
    | true => match r with
      | .v p => (lendA rs bs.tail ρ).bind fun l ρ => .ok ((p, none) :: l) ρ
      | .al i => match ρ[i]? with
        | some (some p) => if p.isF then (lendA rs bs.tail ρ).bind fun l ρ => .ok ((p, none) :: l) ρ
          else (lendA rs bs.tail (ρ.set i none)).bind fun l ρ => .ok ((p, some i) :: l) ρ
        | _ => .stuck
def giveB : List (P × Option Nat) → List (Option P) → PEnv → PEnv
  | (_, some i) :: l, some p :: ps, ρ => giveB l ps (ρ.set i (some p))
  | (_, some _) :: l, none :: ps, ρ => giveB l ps ρ
  | (_, none) :: l, _ :: ps, ρ => giveB l ps ρ
  | _, _, ρ => ρ
def pcallR (Γ : PGam) (f : Str) (rs : List R) (kns : List Str) (ks : List R) (ρ : PEnv) : PO R :=
  (tks ks ρ).bind fun ws ρ => (lendA rs (Γ.lend f) ρ).bind fun l ρ =>
    match Γ.call f (l.map (·.1)) (kns.zip ws) with
    | some (p, fs) => .ok (.v p) (giveB l fs ρ)
    | none => .stuck
def pmakeR (Γ : PGam) (C : Str) (rs : List R) (kns : List Str) (ks : List R) (ρ : PEnv) : PO R :=
  (tks ks ρ).bind fun ws ρ => (tks rs ρ).bind fun vs ρ =>
    match Γ.make C (vs.map .fz) (kns.zip ws) with
    | some p => .ok (.v p) ρ
    | none => .stuck
/-! ### methods -/
def pkF (ρ : PEnv) : R → Option Pv
  | .v (.fz v) => some v
  | .v _ => none
  | .al i => pk ρ (.al i)
def pbmeth (m : BM) (r : R) (rs : List R) (ρ : PEnv) : PO R :=
  match m with
  | .append => (tks rs ρ).bind fun xs ρ => match r with
    | .al i => match ρ[i]?, xs with
      | some (some (.ol vs)), [v] => if vs.length < 1000000 then .ok (fzr .non) (ρ.set i (some (.ol (vs ++ [v])))) else .stuck
      | _, _ => .stuck
    | _ => .stuck
  | .extend => match pks ρ rs with
    | some [.lst ws] => (match r with
      | .al i => match ρ[i]? with
        | some (some (.ol vs)) => if vs.length + ws.length ≤ 1000000 then .ok (fzr .non) (ρ.set i (some (.ol (vs ++ ws)))) else .stuck
        | _ => .stuck
      | _ => .stuck)
    | some [.tup ws] => (match r with
      | .al i => match ρ[i]? with
        | some (some (.ol vs)) => if vs.length + ws.length ≤ 1000000 then .ok (fzr .non) (ρ.set i (some (.ol (vs ++ ws)))) else .stuck
        | _ => .stuck
      | _ => .stuck)
    | _ => .stuck
  | .pop => match pks ρ rs, r with
    | some xs, .al i => (match ρ[i]? with
      | some (some (.ol vs)) => (match xs with
        | [] => match vs[vs.length - 1]? with | some v => .ok (fzr v) (ρ.set i (some (.ol vs.dropLast))) | none => .stuck
        | [.int j] => (match ixOf j vs.length with
          | some k => match vs[k]? with | some v => .ok (fzr v) (ρ.set i (some (.ol (vs.eraseIdx k)))) | none => .stuck
          | none => .stuck)
        | _ => .stuck)
      | _ => .stuck)
    | _, _ => .stuck
  | .insert => (tks rs ρ).bind fun xs ρ => match r with
    | .al i => match ρ[i]?, xs with
      | some (some (.ol vs)), [.int j, v] => if j = 0 ∧ vs.length < 1000000 then .ok (fzr .non) (ρ.set i (some (.ol (v :: vs)))) else .stuck
      | _, _ => .stuck
    | _ => .stuck
  | .count => match pk ρ r, pks ρ rs with
    | some x, some [.int i] => (match plstOf x with
      | some vs => match pints vs with | some is => .ok (fzr (.int (is.count i))) ρ | none => .stuck
      | none => .stuck)
    | _, _ => .stuck
  | .get => (tks rs ρ).bind fun xs ρ => match pkF ρ r, xs with
    | some (.dct kvs), [k, d] => if pfits kvs k then .ok (fzr ((pdget kvs k).getD d)) ρ else .stuck
    | _, _ => .stuck
  | .setdefault => (tks rs ρ).bind fun xs ρ => match r with
    | .al i => match ρ[i]?, xs with
      | some (some (.od kvs)), [k, d] => if pfits kvs k && decide (kvs.length < 1000000) then (match pdget kvs k with
        | some v => .ok (fzr v) ρ
        | none => .ok (fzr d) (ρ.set i (some (.od (pdput kvs k d))))) else .stuck
      | _, _ => .stuck
    | _ => .stuck
  | _ => .stuck
def precv (m : BM) : Option Pv → Bool
  | some (.lst _) => (match m with | .append => true | .extend => true | .pop => true | .insert => true | .count => true | _ => false)
  | some (.rol _) => (match m with | .count => true | _ => false)
  | some (.dct _) => (match m with | .get => true | .setdefault => true | _ => false)
  | _ => false
def ppart (b : Bool) (r : PO R) (ρ : PEnv) : PO (Option Int) := if b then .ok none ρ else r.bind fun r ρ => match pk ρ r with | some (.int i) => .ok (some i) ρ | _ => .stuck
mutual
def pE (Γ : PGam) : E → PEnv → PO R
  | .var i, ρ => match ρ[i]? with | some (some p) => .ok (if p.isF then .v p else .al i) ρ | _ => .stuck
  | .glob x, ρ => match Γ.glob x with | some v => .ok (fzr v) ρ | none => .stuck
  | .non, ρ => .ok (fzr .non) ρ
  | .bl b, ρ => .ok (fzr (.bl b)) ρ
  | .int i, ρ => .ok (fzr (.int i)) ρ
  | .str s, ρ => .ok (fzr (.str s)) ρ
  | .ty t, ρ => .ok (fzr (.ty t)) ρ
  | .tup es, ρ => (pEs Γ es ρ).bind fun rs ρ => (tks rs ρ).bind fun vs ρ => .ok (fzr (.tup vs)) ρ
  | .lst es, ρ => (pEs Γ es ρ).bind fun rs ρ => (tks rs ρ).bind fun vs ρ => .ok (.v (.ol vs)) ρ
  | .dct ks vs, ρ => (pEs Γ ks ρ).bind fun ks ρ => (pEs Γ vs ρ).bind fun vs ρ => (tks vs ρ).bind fun vs ρ => (tks ks ρ).bind fun ks ρ => match pdputs [] (ks.zip vs) with | some kvs => .ok (.v (.od kvs)) ρ | none => .stuck
  | .bin op a b, ρ => (pE Γ a ρ).bind fun r ρ => (pE Γ b ρ).bind fun s ρ => match pk ρ r, pk ρ s with
    | some x, some y => match pbin op x y with | some p => .ok (.v p) ρ | none => .stuck
    | _, _ => .stuck
  | .neg a, ρ => (pE Γ a ρ).bind fun r ρ => match pk ρ r with | some (.int i) => .ok (fzr (.int (-i))) ρ | _ => .stuck
  | .not a, ρ => (pE Γ a ρ).bind fun r ρ => match (pk ρ r).bind ptruth with | some b => .ok (fzr (.bl (!b))) ρ | none => .stuck
  | .and a b, ρ => (pE Γ a ρ).bind fun r ρ => match (pk ρ r).bind ptruth with | some true => pE Γ b ρ | some false => .ok r ρ | none => .stuck
  | .or a b, ρ => (pE Γ a ρ).bind fun r ρ => match (pk ρ r).bind ptruth with | some false => pE Γ b ρ | some true => .ok r ρ | none => .stuck
  | .ite c a b, ρ => (pE Γ c ρ).bind fun r ρ => match (pk ρ r).bind ptruth with | some true => pE Γ a ρ | some false => pE Γ b ρ | none => .stuck
  | .cmp op a b, ρ => (pE Γ a ρ).bind fun r ρ => (pE Γ b ρ).bind fun s ρ => match pk ρ r, pk ρ s with
    | some x, some y => match pcmp op x y with | some b => .ok (fzr (.bl b)) ρ | none => .stuck
    | _, _ => .stuck
  | .chain o1 o2 a b c, ρ => (pE Γ a ρ).bind fun r ρ => (pE Γ b ρ).bind fun s ρ => match pk ρ r, pk ρ s with
    | some x, some y => (match pcmp o1 x y with
      | some true => (pE Γ c ρ).bind fun t ρ => (match pk ρ s, pk ρ t with
        | some y, some z => match pcmp o2 y z with | some b => .ok (fzr (.bl b)) ρ | none => .stuck
        | _, _ => .stuck)
      | some false => .ok (fzr (.bl false)) ρ
      | none => .stuck)
    | _, _ => .stuck
  | .idx a i, ρ => (pE Γ a ρ).bind fun r ρ => (pE Γ i ρ).bind fun s ρ => match pk ρ r, pk ρ s with
    | some x, some y => match psub x y with | some v => .ok (fzr v) ρ | none => .stuck
    | _, _ => .stuck
  | .sl a lo hi, ρ => (pE Γ a ρ).bind fun r ρ => (ppart lo.isNon (pE Γ lo ρ) ρ).bind fun l ρ => (ppart hi.isNon (pE Γ hi ρ) ρ).bind fun h ρ => match (pk ρ r).bind fun x => pslice x l h with | some p => .ok (.v p) ρ | none => .stuck
  | .slr a, ρ => (pE Γ a ρ).bind fun r ρ => match (pk ρ r).bind prevs with | some p => .ok (.v p) ρ | none => .stuck
  | .attr o f, ρ => (pE Γ o ρ).bind fun r ρ => match pk ρ r with
    | some (.ins C fs) => if Γ.fld C f then (match fs.lookup f with | some v => .ok (fzr v) ρ | none => .stuck) else .stuck
    | _ => .stuck
  | .call f es kns kes, ρ => (pEs Γ es ρ).bind fun rs ρ => (pEs Γ kes ρ).bind fun ks ρ => pcallR Γ f rs kns ks ρ
  | .make C es kns kes, ρ => (pEs Γ es ρ).bind fun rs ρ => (pEs Γ kes ρ).bind fun ks ρ => pmakeR Γ C rs kns ks ρ
  | .meth C m o es kns kes, ρ => (pE Γ o ρ).bind fun r ρ => match pk ρ r with
    | some (.ins D fs) => if D = C ∧ fs.lookup m = none then (pEs Γ es ρ).bind fun rs ρ => (pEs Γ kes ρ).bind fun ks ρ => pcallR Γ (C ++ Str.ofString "." ++ m) (r :: rs) kns ks ρ else .stuck
    | _ => .stuck
  | .bcall f es, ρ => (pEs Γ es ρ).bind fun rs ρ => match (pks ρ rs).bind (pbcall f) with | some p => .ok (.v p) ρ | none => .stuck
  | .bmeth m o es, ρ => (pE Γ o ρ).bind fun r ρ => if precv m (pk ρ r) then (pEs Γ es ρ).bind fun rs ρ => pbmeth m r rs ρ else .stuck
  | .rng es, ρ => (pEs Γ es ρ).bind fun rs ρ => match (pks ρ rs).bind fun vs => if vs.length ≤ 2 then prangeOf vs else none with | some l => if l.length ≤ 1000000 then .ok (fzr (.tup l)) ρ else .stuck | none => .stuck
  | .comp k its tg own cond elt, ρ => (pEs Γ its ρ).bind fun rs ρ => (tks rs ρ).bind fun vs ρ => match psrc k vs with
    | none => .stuck
    | some l => if l.length ≤ 1000000 then
        (pcompL (fun ρ => (pC Γ cond ρ).bind fun b ρ => if b then (pE Γ elt ρ).bind fun r ρ => (tk r ρ).bind fun v ρ => .ok (some v) ρ else .ok none ρ) own tg l ρ).bind fun l ρ' => .ok (.v (.ol l)) (prst ρ ρ' own)
      else .stuck
  | .dcomp k its tg own cond ke ve, ρ => (pEs Γ its ρ).bind fun rs ρ => (tks rs ρ).bind fun vs ρ => match psrc k vs with
    | none => .stuck
    | some l => if l.length ≤ 1000000 then
        (pdcompL (fun ρ => (pC Γ cond ρ).bind fun b ρ => if b then (pE Γ ke ρ).bind fun r ρ => (pE Γ ve ρ).bind fun s ρ => (tk s ρ).bind fun v ρ => (tk r ρ).bind fun k ρ => .ok (some (k, v)) ρ else .ok none ρ) own tg l [] ρ).bind fun l ρ' => .ok (.v (.od l)) (prst ρ ρ' own)
      else .stuck
def pEs (Γ : PGam) : List E → PEnv → PO (List R)
  | [], ρ => .ok [] ρ
  | e :: es, ρ => (pE Γ e ρ).bind fun r ρ => (pEs Γ es ρ).bind fun rs ρ => .ok (r :: rs) ρ
def pC (Γ : PGam) : List E → PEnv → PO Bool
  | [], ρ => .ok true ρ
  | e :: es, ρ => (pE Γ e ρ).bind fun r ρ => match (pk ρ r).bind ptruth with | some true => pC Γ es ρ | some false => .ok false ρ | none => .stuck
end
/-! ### statements -/
inductive Pf where | nx | rt (r : R) | bk | ct
inductive PS where | ok (f : Pf) (ρ : PEnv) | stuck
def PO.st {α : Type} (r : PO α) (f : α → PEnv → PS) : PS :=
  match r with
  | .ok a ρ => f a ρ
  | .stuck => .stuck
@[simp] theorem PO.st_ok {α : Type} (a : α) (ρ : PEnv) (f : α → PEnv → PS) : (PO.ok a ρ).st f = f a ρ := rfl
def PS.seq (r : PS) (f : PEnv → PS) : PS :=
  match r with
  | .ok .nx ρ => f ρ
  | r => r
def pforL (f : PEnv → PS) (pin : Nat → Bool) (t : T) (ρ0 : PEnv) : List Pv → PEnv → PS
  | [], ρ => .ok .nx ρ
  | v :: vs, ρ => match pasgT pin t v ρ with
    | none => .stuck
    | some ρ1 => match f ρ1 with
      | .ok .nx ρ2 => pforL f pin t ρ0 vs (pfgt ρ0 ρ2)
      | .ok .ct ρ2 => pforL f pin t ρ0 vs (pfgt ρ0 ρ2)
      | .ok .bk ρ2 => .ok .nx (pfgt ρ0 ρ2)
      | r => r
def pwhileL (c : PEnv → PO Bool) (f : PEnv → PS) (ρ0 : PEnv) : Nat → PEnv → PS
  | 0, _ => .stuck
  | n + 1, ρ => (c ρ).st fun b ρ => if b then
      (match f ρ with
        | .ok .nx ρ2 => pwhileL c f ρ0 n (pfgt ρ0 ρ2)
        | .ok .ct ρ2 => pwhileL c f ρ0 n (pfgt ρ0 ρ2)
        | .ok .bk ρ2 => .ok .nx (pfgt ρ0 ρ2)
        | r => r) else .ok .nx ρ
def pT (Γ : PGam) (e : E) (ρ : PEnv) : PO Bool := (pE Γ e ρ).bind fun r ρ => match (pk ρ r).bind ptruth with | some b => .ok b ρ | none => .stuck
def isNms : List T → Bool := fun ts => ts.all fun t => match t with | .nm _ => true | _ => false
def pstoreI (r : R) (i : Pv) (v : Pv) (ρ : PEnv) : Option PEnv :=
  match r with
  | .al j => match ρ[j]? with
    | some (some (.ol vs)) => (match i with | .int x => (match ixOf x vs.length with | some k => some (ρ.set j (some (.ol (vs.set k v)))) | none => none) | _ => none)
    | some (some (.od kvs)) => if pfits kvs i && decide (kvs.length < 1000000) then some (ρ.set j (some (.od (pdput kvs i v)))) else none
    | _ => none
  | _ => none
def pputFd (f : Str) (v : Pv) : List (Str × Pv) → List (Str × Pv)
  | [] => [(f, v)]
  | (g, w) :: r => if g = f then (g, v) :: r else (g, w) :: pputFd f v r
def pstoreA (fld : Str → Str → Bool) (r : R) (f : Str) (v : Pv) (ρ : PEnv) : Option PEnv :=
  match r with
  | .al j => match ρ[j]? with
    | some (some (.oi C fs)) => if fld C f && decide (fs.length < 1000) then some (ρ.set j (some (.oi C (pputFd f v fs)))) else none
    | _ => none
  | _ => none
def pasg (Γ : PGam) (t : T) (r : R) (ρ : PEnv) : PS :=
  match t with
  | .nm i => (match r with
    | .v p => match pputP Γ.pin i p ρ with | some ρ' => .ok .nx ρ' | none => .stuck
    | .al j => if j = i then .ok .nx ρ else (tk (.al j) ρ).st fun v ρ => match pputP Γ.pin i (.fz v) ρ with | some ρ' => .ok .nx ρ' | none => .stuck)
  | .tp ts => match pk ρ r with
    | some (.tup vs) => (match pasgTs Γ.pin ts vs ρ with | some ρ' => .ok .nx ρ' | none => .stuck)
    | _ => .stuck
mutual
def pS (Γ : PGam) : S → PEnv → PS
  | .asg t e, ρ => match t, e with
    | .tp ts, .tup es => if isNms ts then (pEs Γ es ρ).st fun rs ρ => (pres rs ρ).st fun ps ρ => match pputPs Γ.pin ts ps ρ with | some ρ' => .ok .nx ρ' | none => .stuck
      else (pE Γ (.tup es) ρ).st fun r ρ => pasg Γ (.tp ts) r ρ
    | t, e => (pE Γ e ρ).st fun r ρ => pasg Γ t r ρ
  | .setIdx o i e, ρ => (pE Γ e ρ).st fun r ρ => (pE Γ o ρ).st fun s ρ => (pE Γ i ρ).st fun q ρ => (tk r ρ).st fun v ρ => match (pk ρ q).bind fun y => pstoreI s y v ρ with | some ρ' => .ok .nx ρ' | none => .stuck
  | .setAttr o f e, ρ => (pE Γ e ρ).st fun r ρ => (pE Γ o ρ).st fun s ρ => (tk r ρ).st fun v ρ => match pstoreA Γ.fld s f v ρ with | some ρ' => .ok .nx ρ' | none => .stuck
  | .aug i e, ρ => match ρ[i]? with
    | some (some (.fz (.int a))) => (pE Γ e ρ).st fun r ρ => (match pk ρ r with | some (.int b) => if i < ρ.length && !Γ.pin i then .ok .nx (ρ.set i (some (.fz (.int (a + b))))) else .stuck | _ => .stuck)
    | _ => .stuck
  | .expr e, ρ => (pE Γ e ρ).st fun _ ρ => .ok .nx ρ
  | .ret e, ρ => (pE Γ e ρ).st fun r ρ => .ok (.rt r) ρ
  | .ite c a b, ρ => (pT Γ c ρ).st fun k ρ => if k then pSs Γ a ρ else pSs Γ b ρ
  | .for k its t body, ρ => (pEs Γ its ρ).st fun rs ρ => (tks rs ρ).st fun vs ρ => match psrc k vs with
    | none => .stuck
    | some l => pforL (fun ρ => pSs Γ body ρ) Γ.pin t ρ l ρ
  | .while c body, ρ => pwhileL (fun ρ => pT Γ c ρ) (fun ρ => pSs Γ body ρ) ρ Γ.fuel ρ
  | .raise C es, ρ => .stuck
  | .brk, ρ => .ok .bk ρ
  | .cnt, ρ => .ok .ct ρ
  | .pass, ρ => .ok .nx ρ
def pSs (Γ : PGam) : List S → PEnv → PS
  | [], ρ => .ok .nx ρ
  | s :: ss, ρ => (pS Γ s ρ).seq fun ρ => pSs Γ ss ρ
end
/-! ### defs -/
mutual
def ofVal : Val → Pv
  | .non => .non
  | .bl b => .bl b
  | .int i => .int i
  | .str s => .str s
  | .tup vs => .tup (ofVals vs)
  | .ref _ => .non
  | .ty t => .ty t
  | .glo x => .glo x
def ofVals : List Val → List Pv
  | [] => []
  | v :: vs => ofVal v :: ofVals vs
end
mutual
def noRef : Val → Bool
  | .tup vs => noRefs vs
  | .ref _ => false
  | _ => true
def noRefs : List Val → Bool
  | [] => true
  | v :: vs => noRef v && noRefs vs
end
def pbindA (fd : FD) : List Str → List P → List (Str × Pv) → Option (List P)
  | [], [], _ => some []
  | [], _ :: _, _ => none
  | p :: ps, v :: vs, kw => (pbindA fd ps vs kw).map (v :: ·)
  | p :: ps, [], kw => match kw.lookup p with
    | some v => (pbindA fd ps [] kw).map (.fz v :: ·)
    | none => match fd.dfl.lookup p with
      | some v => if noRef v then (pbindA fd ps [] kw).map (.fz (ofVal v) :: ·) else none
      | none => none
/-- what a body hands back; what its parameters hold then -/
def pretOf (pin : Nat → Bool) (n : Nat) : PS → Option (P × List (Option P))
  | .ok .nx ρ => some (.fz .non, ρ.take n)
  | .ok (.rt r) ρ => match r with
    | .v p => some (p, ρ.take n)
    | .al i => match ρ[i]? with
      | some (some p) => if p.isF then some (p, ρ.take n) else if pin i then some (.fz p.view, (ρ.set i (some (.fz p.view))).take n) else some (p, (ρ.set i none).take n)
      | _ => none
  | _ => none
def pinL (bs : List Bool) (i : Nat) : Bool := bs.getD i false
def prunB (Γ : PGam) (fd : FD) (us : List P) : Option (P × List (Option P)) :=
  pretOf Γ.pin fd.ps.length (pSs Γ fd.body (us.map some ++ List.replicate (fd.n - us.length) none))
abbrev PCF := Str → List P → List (Str × Pv) → Option (P × List (Option P))
/-- what is handed in and may be changed -/
def maskL : List Bool → List (Option P) → List (Option P)
  | _, [] => []
  | [], _ :: r => none :: maskL [] r
  | b :: bs, x :: r => (if b then x else none) :: maskL bs r
def pbodyG (Pr : Prg) (L : Str → List Bool) (f : Str) (c1 c2 : PCF) : PGam :=
  ⟨fun x => match Pr.glb.lookup x with | some v => if noRef v then some (ofVal v) else none | none => none, c1,
   fun C ps kw => if (Pr.cls.lookup C).isSome && (L (C ++ Str.ofString ".__init__")).headD false then
      (match c2 (C ++ Str.ofString ".__init__") (.oi C [] :: ps) kw with | some (.fz .non, some p :: _) => some p | _ => none) else none,
   L, fldIn Pr, Pr.fuel, pinL (L f)⟩
def pstepC (Pr : Prg) (L : Str → List Bool) (c1 c2 : PCF) : PCF := fun f ps kw => match Pr.fns.lookup f with
  | none => none
  | some fd => match pbindA fd fd.ps ps kw with
    | none => none
    | some us => match prunB (pbodyG Pr L f c1 c2) fd us with
      | some (p, fs) => some (p, (maskL (L f) fs).take ps.length)
      | none => none
def pcallP (Pr : Prg) (L : Str → List Bool) : Nat → PCF × PCF
  | 0 => (fun _ _ _ => none, fun _ _ _ => none)
  | k + 1 => let p := pcallP Pr L k; (pstepC Pr L p.1 p.2, p.1)
def pcallAt (Pr : Prg) (L : Str → List Bool) (k : Nat) : PCF := (pcallP Pr L k).1
end Mn
end -- Pn1
section -- Pn2
set_option linter.all false
set_option autoImplicit false
set_option maxRecDepth 100000
/-! The relation of the evaluator without a store to the one with it. -/
namespace Mn.Pn
open PySem L2

mutual
/-- v stands at u, all in the region Z (what is kept for good) -/
inductive Den (M : Mem) (Z : Nat → Prop) : Pv → Val → Prop
  | non : Den M Z .non .non
  | bl (b : Bool) : Den M Z (.bl b) (.bl b)
  | int (i : Int) : Den M Z (.int i) (.int i)
  | str (s : Str) : Den M Z (.str s) (.str s)
  | ty (t : String) : Den M Z (.ty t) (.ty t)
  | glo (x : Str) : Den M Z (.glo x) (.glo x)
  | tup {vs : List Pv} {us : List Val} : Dens M Z vs us → Den M Z (.tup vs) (.tup us)
  | lst {vs : List Pv} {us : List Val} {n : Nat} : Z n → M[n]? = some (.lst us) → Dens M Z vs us → Den M Z (.lst vs) (.ref n)
  | rol {vs : List Pv} {us : List Val} {n : Nat} : Z n → M[n]? = some (.rol us) → Dens M Z vs us → Den M Z (.rol vs) (.ref n)
  | dct {vs : List (Pv × Pv)} {us : List (Val × Val)} {n : Nat} : Z n → M[n]? = some (.dct us) → Denp M Z vs us → Den M Z (.dct vs) (.ref n)
  | ins {C : Str} {vs : List (Str × Pv)} {us : List (Str × Val)} {n : Nat} : Z n → M[n]? = some (.ins C us) → Denf M Z vs us → Den M Z (.ins C vs) (.ref n)
inductive Dens (M : Mem) (Z : Nat → Prop) : List Pv → List Val → Prop
  | nil : Dens M Z [] []
  | cons {v : Pv} {u : Val} {vs : List Pv} {us : List Val} : Den M Z v u → Dens M Z vs us → Dens M Z (v :: vs) (u :: us)
inductive Denp (M : Mem) (Z : Nat → Prop) : List (Pv × Pv) → List (Val × Val) → Prop
  | nil : Denp M Z [] []
  | cons {k v : Pv} {x u : Val} {vs : List (Pv × Pv)} {us : List (Val × Val)} : Den M Z k x → Den M Z v u → Denp M Z vs us → Denp M Z ((k, v) :: vs) ((x, u) :: us)
inductive Denf (M : Mem) (Z : Nat → Prop) : List (Str × Pv) → List (Str × Val) → Prop
  | nil : Denf M Z [] []
  | cons {f : Str} {v : Pv} {u : Val} {vs : List (Str × Pv)} {us : List (Str × Val)} : Den M Z v u → Denf M Z vs us → Denf M Z ((f, v) :: vs) ((f, u) :: us)
end
section
variable {M M' : Mem} {Z Z' : Nat → Prop}
mutual
theorem Den.mono (h1 : ∀ n, Z n → M'[n]? = M[n]?) (h2 : ∀ n, Z n → Z' n) : ∀ {v : Pv} {u : Val}, Den M Z v u → Den M' Z' v u
  | _, _, .non => .non
  | _, _, .bl b => .bl b
  | _, _, .int b => .int b
  | _, _, .str b => .str b
  | _, _, .ty b => .ty b
  | _, _, .glo b => .glo b
  | _, _, .tup h => .tup (Dens.mono h1 h2 h)
  | _, _, .lst z e h => .lst (h2 _ z) ((h1 _ z).trans e) (Dens.mono h1 h2 h)
  | _, _, .rol z e h => .rol (h2 _ z) ((h1 _ z).trans e) (Dens.mono h1 h2 h)
  | _, _, .dct z e h => .dct (h2 _ z) ((h1 _ z).trans e) (Denp.mono h1 h2 h)
  | _, _, .ins z e h => .ins (h2 _ z) ((h1 _ z).trans e) (Denf.mono h1 h2 h)
theorem Dens.mono (h1 : ∀ n, Z n → M'[n]? = M[n]?) (h2 : ∀ n, Z n → Z' n) : ∀ {v : List Pv} {u : List Val}, Dens M Z v u → Dens M' Z' v u
  | _, _, .nil => .nil
  | _, _, .cons a b => .cons (Den.mono h1 h2 a) (Dens.mono h1 h2 b)
theorem Denp.mono (h1 : ∀ n, Z n → M'[n]? = M[n]?) (h2 : ∀ n, Z n → Z' n) : ∀ {v : List (Pv × Pv)} {u : List (Val × Val)}, Denp M Z v u → Denp M' Z' v u
  | _, _, .nil => .nil
  | _, _, .cons a b c => .cons (Den.mono h1 h2 a) (Den.mono h1 h2 b) (Denp.mono h1 h2 c)
theorem Denf.mono (h1 : ∀ n, Z n → M'[n]? = M[n]?) (h2 : ∀ n, Z n → Z' n) : ∀ {v : List (Str × Pv)} {u : List (Str × Val)}, Denf M Z v u → Denf M' Z' v u
  | _, _, .nil => .nil
  | _, _, .cons b c => .cons (Den.mono h1 h2 b) (Denf.mono h1 h2 c)
end
theorem Dens.length : ∀ {vs : List Pv} {us : List Val}, Dens M Z vs us → us.length = vs.length
  | _, _, .nil => rfl
  | _, _, .cons _ h => by simp [Dens.length h]
theorem Dens.get : ∀ {vs : List Pv} {us : List Val} {i : Nat} {v : Pv}, Dens M Z vs us → vs[i]? = some v → ∃ u, us[i]? = some u ∧ Den M Z v u
  | _, _, _, _, .nil, e => by simp at e
  | _, _, 0, _, .cons h _, e => by simp at e; subst e; exact ⟨_, rfl, h⟩
  | _, _, i + 1, v, .cons _ hs, e => by
    obtain ⟨u, h1, h2⟩ := Dens.get (i := i) (v := v) hs (by simpa using e)
    exact ⟨u, by simpa using h1, h2⟩
theorem Dens.append : ∀ {vs ws : List Pv} {us xs : List Val}, Dens M Z vs us → Dens M Z ws xs → Dens M Z (vs ++ ws) (us ++ xs)
  | _, _, _, _, .nil, s => s
  | _, _, _, _, .cons h hs, s => .cons h (Dens.append hs s)
theorem Dens.drop : ∀ (n : Nat) {vs : List Pv} {us : List Val}, Dens M Z vs us → Dens M Z (vs.drop n) (us.drop n)
  | 0, _, _, h => h
  | _ + 1, _, _, .nil => .nil
  | n + 1, _, _, .cons _ hs => Dens.drop n hs
theorem Dens.take : ∀ (n : Nat) {vs : List Pv} {us : List Val}, Dens M Z vs us → Dens M Z (vs.take n) (us.take n)
  | 0, _, _, _ => .nil
  | _ + 1, _, _, .nil => .nil
  | n + 1, _, _, .cons h hs => .cons h (Dens.take n hs)
theorem Dens.reverse {vs : List Pv} {us : List Val} (h : Dens M Z vs us) : Dens M Z vs.reverse us.reverse := by
  induction vs generalizing us with
  | nil => cases h; exact .nil
  | cons v vs ih =>
    cases h with
    | cons h hs => rw [List.reverse_cons, List.reverse_cons]; exact (ih hs).append (.cons h .nil)
theorem Dens.set : ∀ (i : Nat) {vs : List Pv} {us : List Val} {v : Pv} {u : Val}, Den M Z v u → Dens M Z vs us → Dens M Z (vs.set i v) (us.set i u)
  | _, _, _, _, _, _, .nil => .nil
  | 0, _, _, _, _, r, .cons _ hs => .cons r hs
  | i + 1, _, _, _, _, r, .cons h hs => .cons h (Dens.set i r hs)
theorem Dens.eraseIdx : ∀ (i : Nat) {vs : List Pv} {us : List Val}, Dens M Z vs us → Dens M Z (vs.eraseIdx i) (us.eraseIdx i)
  | _, _, _, .nil => .nil
  | 0, _, _, .cons _ hs => hs
  | i + 1, _, _, .cons h hs => .cons h (Dens.eraseIdx i hs)
theorem Dens.dropLast {vs : List Pv} {us : List Val} (h : Dens M Z vs us) : Dens M Z vs.dropLast us.dropLast := by
  rw [List.dropLast_eq_take, List.dropLast_eq_take, h.length]; exact h.take _
theorem Dens.rep {vs : List Pv} {us : List Val} (h : Dens M Z vs us) : ∀ k : Nat, Dens M Z (List.replicate k vs).flatten (List.replicate k us).flatten
  | 0 => .nil
  | k + 1 => by rw [List.replicate_succ, List.replicate_succ, List.flatten_cons, List.flatten_cons]; exact h.append (h.rep k)
theorem Dens.cut {vs : List Pv} {us : List Val} (h : Dens M Z vs us) (l u : Option Int) : Dens M Z (cut vs l u) (cut us l u) := by
  unfold Mn.cut; rw [h.length]; exact (h.drop _).take _
theorem Dens.mem : ∀ {vs : List Pv} {us : List Val} {v : Pv}, Dens M Z vs us → v ∈ vs → ∃ u ∈ us, Den M Z v u
  | _, _, _, .nil, e => by cases e
  | _, _, v, .cons h hs, e => by
    rcases List.mem_cons.mp e with rfl | e
    · exact ⟨_, List.mem_cons_self, h⟩
    · obtain ⟨u, h1, h2⟩ := Dens.mem hs e; exact ⟨u, List.mem_cons_of_mem _ h1, h2⟩
theorem Dens.of_get : ∀ {vs : List Pv} {us : List Val}, us.length = vs.length → (∀ (i : Nat) (v : Pv) (u : Val), vs[i]? = some v → us[i]? = some u → Den M Z v u) → Dens M Z vs us
  | [], [], _, _ => .nil
  | v :: vs, u :: us, hl, h => .cons (h 0 v u rfl rfl) (Dens.of_get (by simpa using hl) fun i w x h1 h2 => h (i + 1) w x (by simpa using h1) (by simpa using h2))
  | [], _ :: _, hl, _ => by simp at hl
  | _ :: _, [], hl, _ => by simp at hl
theorem Dens.map {α : Type} {f : α → Pv} {g : α → Val} (h : ∀ a, Den M Z (f a) (g a)) : ∀ l : List α, Dens M Z (l.map f) (l.map g)
  | [] => .nil
  | a :: l => .cons (h a) (Dens.map h l)
end
mutual
theorem ofVal_den {M : Mem} {Z : Nat → Prop} : ∀ {v : Val}, noRef v = true → Den M Z (ofVal v) v
  | .non, _ => .non
  | .bl _, _ => .bl _
  | .int _, _ => .int _
  | .str _, _ => .str _
  | .tup vs, h => .tup (ofVals_den (vs := vs) h)
  | .ref _, h => by cases h
  | .ty _, _ => .ty _
  | .glo _, _ => .glo _
theorem ofVals_den {M : Mem} {Z : Nat → Prop} : ∀ {vs : List Val}, noRefs vs = true → Dens M Z (ofVals vs) vs
  | [], _ => .nil
  | v :: vs, h => by
    have h : (noRef v && noRefs vs) = true := h
    rw [Bool.and_eq_true] at h
    exact .cons (ofVal_den h.1) (ofVals_den h.2)
end
/-! ### the state -/
structure Hs where
  Z : Nat → Prop
  A : Nat → Option Nat
  M : Mem
def Own (h : Hs) (p : P) (n : Nat) : Prop := match p with
  | .fz _ => False
  | .ol vs => ∃ us, h.M[n]? = some (.lst us) ∧ Dens h.M h.Z vs us
  | .od vs => ∃ us, h.M[n]? = some (.dct us) ∧ Denp h.M h.Z vs us
  | .oi C vs => ∃ us, h.M[n]? = some (.ins C us) ∧ Denf h.M h.Z vs us
def Slot (h : Hs) (a : Option Nat) (p : P) (u : Val) : Prop := match p with
  | .fz v => Den h.M h.Z v u
  | p => ∃ n, u = .ref n ∧ a = some n ∧ Own h p n
structure Inv (B : Nat → Prop) (h : Hs) (ρ : PEnv) (σ : Env) : Prop where
  len : ρ.length = σ.length
  bl : ∀ n, B n → n < h.M.length
  zl : ∀ n, h.Z n → n < h.M.length
  ow : ∀ i n, h.A i = some n → ¬ B n ∧ ¬ h.Z n ∧ n < h.M.length
  inj : ∀ i j n, h.A i = some n → h.A j = some n → i = j
  sl : ∀ i p, ρ[i]? = some (some p) → ∃ u, σ[i]? = some (some u) ∧ Slot h (h.A i) p u
structure Stp (B : Nat → Prop) (h h' : Hs) : Prop where
  len : h.M.length ≤ h'.M.length
  b : ∀ n, B n → h'.M[n]? = h.M[n]?
  z : ∀ n, h.Z n → h'.Z n
  zz : ∀ n, h.Z n → h'.M[n]? = h.M[n]?
  nz : ∀ n, n < h.M.length → h'.Z n → h.Z n ∨ ¬ B n
theorem Stp.refl {B : Nat → Prop} {h : Hs} : Stp B h h := ⟨Nat.le_refl _, fun _ _ => rfl, fun _ z => z, fun _ _ => rfl, fun _ _ z => .inl z⟩
theorem Stp.trans {B : Nat → Prop} {h h1 h2 : Hs} (a : Stp B h h1) (b : Stp B h1 h2) : Stp B h h2 :=
  ⟨Nat.le_trans a.len b.len, fun n x => (b.b n x).trans (a.b n x), fun n x => b.z n (a.z n x), fun n x => (b.zz n (a.z n x)).trans (a.zz n x), fun n hl x => (b.nz n (Nat.lt_of_lt_of_le hl a.len) x).elim (fun y => a.nz n hl y) .inr⟩
theorem Stp.weak {B B1 : Nat → Prop} {h h' : Hs} (s : Stp B1 h h') (w : ∀ n, B n → B1 n) : Stp B h h' := ⟨s.len, fun n x => s.b n (w n x), s.z, s.zz, fun n hl x => (s.nz n hl x).imp id fun y z => y (w n z)⟩
theorem Inv.weak {B B1 : Nat → Prop} {h : Hs} {ρ : PEnv} {σ : Env} (s : Inv B1 h ρ σ) (w : ∀ n, B n → B1 n) : Inv B h ρ σ := ⟨s.len, fun n x => s.bl n (w n x), s.zl, fun i n x => let ⟨a, b, c⟩ := s.ow i n x; ⟨fun z => a (w n z), b, c⟩, s.inj, s.sl⟩
theorem Den.stp {B : Nat → Prop} {h h' : Hs} (s : Stp B h h') {v : Pv} {u : Val} (d : Den h.M h.Z v u) : Den h'.M h'.Z v u := d.mono s.zz s.z
theorem Dens.stp {B : Nat → Prop} {h h' : Hs} (s : Stp B h h') {v : List Pv} {u : List Val} (d : Dens h.M h.Z v u) : Dens h'.M h'.Z v u := d.mono s.zz s.z
theorem Denp.stp {B : Nat → Prop} {h h' : Hs} (s : Stp B h h') {v : List (Pv × Pv)} {u : List (Val × Val)} (d : Denp h.M h.Z v u) : Denp h'.M h'.Z v u := d.mono s.zz s.z
theorem Own.move {h h' : Hs} {p : P} {n : Nat} (o : Own h p n) (e : h'.M[n]? = h.M[n]?) (zz : ∀ n, h.Z n → h'.M[n]? = h.M[n]?) (z : ∀ n, h.Z n → h'.Z n) : Own h' p n := by
  cases p with
  | fz v => exact o
  | ol vs => obtain ⟨us, a, b⟩ := o; exact ⟨us, e.trans a, b.mono zz z⟩
  | od vs => obtain ⟨us, a, b⟩ := o; exact ⟨us, e.trans a, b.mono zz z⟩
  | oi C vs => obtain ⟨us, a, b⟩ := o; exact ⟨us, e.trans a, b.mono zz z⟩
theorem Own.notF {h : Hs} {p : P} {n : Nat} (o : Own h p n) : p.isF = false := by cases p <;> first | rfl | exact o.elim
/-- its own object kept for good -/
theorem Own.den {h : Hs} {p : P} {n : Nat} (o : Own h p n) {Z' : Nat → Prop} (z : ∀ n, h.Z n → Z' n) (hn : Z' n) : Den h.M Z' p.view (.ref n) := by
  cases p with
  | fz v => exact o.elim
  | ol vs => obtain ⟨us, a, b⟩ := o; exact .lst hn a (b.mono (fun _ _ => rfl) z)
  | od vs => obtain ⟨us, a, b⟩ := o; exact .dct hn a (b.mono (fun _ _ => rfl) z)
  | oi C vs => obtain ⟨us, a, b⟩ := o; exact .ins hn a (b.mono (fun _ _ => rfl) z)
/-! ### results -/
def _root_.Mn.R.fresh : R → Bool
  | .v p => !p.isF
  | .al _ => false
/-- a value of its own -/
def RelP (B : Nat → Prop) (h : Hs) (p : P) (u : Val) : Prop := match p with
  | .fz v => Den h.M h.Z v u
  | p => ∃ n, u = .ref n ∧ Own h p n ∧ ¬ B n ∧ ¬ h.Z n ∧ n < h.M.length ∧ ∀ i, h.A i ≠ some n
def RelR (B : Nat → Prop) (h : Hs) (σ : Env) (r : R) (u : Val) : Prop := match r with
  | .v p => RelP B h p u
  | .al i => σ[i]? = some (some u)
def bxP (B : Nat → Prop) (p : P) (u : Val) : Nat → Prop := fun n => B n ∨ (p.isF = false ∧ u = .ref n)
def bx (B : Nat → Prop) (r : R) (u : Val) : Nat → Prop := fun n => B n ∨ (r.fresh = true ∧ u = .ref n)
theorem bx_l {B : Nat → Prop} {r : R} {u : Val} : ∀ n, B n → bx B r u n := fun _ h => .inl h
theorem bxP_l {B : Nat → Prop} {p : P} {u : Val} : ∀ n, B n → bxP B p u n := fun _ h => .inl h
theorem RelP.own {B : Nat → Prop} {h : Hs} {p : P} {u : Val} (r : RelP B h p u) (e : p.isF = false) : ∃ n, u = .ref n ∧ Own h p n ∧ ¬ B n ∧ ¬ h.Z n ∧ n < h.M.length ∧ ∀ i, h.A i ≠ some n := by
  cases p with
  | fz v => cases e
  | ol vs => exact r
  | od vs => exact r
  | oi C vs => exact r
theorem RelP.of {B : Nat → Prop} {h : Hs} {p : P} {n : Nat} (o : Own h p n) (h1 : ¬ B n) (h2 : ¬ h.Z n) (h3 : n < h.M.length) (h4 : ∀ i, h.A i ≠ some n) : RelP B h p (.ref n) := by
  cases p with
  | fz v => exact o.elim
  | ol vs => exact ⟨n, rfl, o, h1, h2, h3, h4⟩
  | od vs => exact ⟨n, rfl, o, h1, h2, h3, h4⟩
  | oi C vs => exact ⟨n, rfl, o, h1, h2, h3, h4⟩
theorem RelP.fz {B : Nat → Prop} {h : Hs} {p : P} {u : Val} (r : RelP B h p u) (e : p.isF = true) : ∃ v, p = .fz v ∧ Den h.M h.Z v u := by
  cases p with
  | fz v => exact ⟨v, rfl, r⟩
  | ol vs => cases e
  | od vs => cases e
  | oi C vs => cases e
theorem RelP.weak {B B1 : Nat → Prop} {h : Hs} {p : P} {u : Val} (r : RelP B1 h p u) (w : ∀ n, B n → B1 n) : RelP B h p u := by
  cases e : p.isF with
  | true => obtain ⟨v, rfl, d⟩ := r.fz e; exact d
  | false => obtain ⟨n, rfl, o, h1, h2⟩ := r.own e; exact .of o (fun z => h1 (w n z)) h2.1 h2.2.1 h2.2.2
theorem RelR.weak {B B1 : Nat → Prop} {h : Hs} {σ : Env} {r : R} {u : Val} (x : RelR B1 h σ r u) (w : ∀ n, B n → B1 n) : RelR B h σ r u := by
  cases r with
  | v p => exact RelP.weak x w
  | al i => exact x
section
variable {B : Nat → Prop} {h h' : Hs} {ρ ρ' : PEnv} {σ : Env}
theorem Inv.bxP (I : Inv B h ρ σ) {p : P} {u : Val} (r : RelP B h p u) : Inv (bxP B p u) h ρ σ := by
  refine ⟨I.len, fun n hn => ?_, I.zl, fun i n e => ?_, I.inj, I.sl⟩
  · rcases hn with hn | ⟨e, rfl⟩
    · exact I.bl n hn
    · obtain ⟨m, e1, _, _, _, hl, _⟩ := r.own e
      cases e1; exact hl
  · obtain ⟨a, b, c⟩ := I.ow i n e
    refine ⟨fun z => ?_, b, c⟩
    rcases z with z | ⟨e2, rfl⟩
    · exact a z
    · obtain ⟨m, e1, _, _, _, _, hA⟩ := r.own e2
      cases e1; exact hA i e
theorem Inv.bx (I : Inv B h ρ σ) {r : R} {u : Val} (x : RelR B h σ r u) : Inv (bx B r u) h ρ σ := by
  cases r with
  | al i => exact I.weak fun n z => z.elim id fun z => by cases z.1
  | v p => exact (I.bxP x).weak fun n z => z.imp id fun z => ⟨by simpa [R.fresh] using z.1, z.2⟩
/-- what is made stays made while others come -/
theorem RelP.stp {p : P} {u : Val} (r : RelP B h p u) (s : Stp (Pn.bxP B p u) h h') (I : Inv (Pn.bxP B p u) h' ρ' σ) : RelP B h' p u := by
  cases e : p.isF with
  | true => obtain ⟨v, rfl, d⟩ := r.fz e; exact d.stp s
  | false =>
    obtain ⟨n, rfl, o, h1, h2, h3, h4⟩ := r.own e
    have b : Pn.bxP B p (.ref n) n := .inr ⟨e, rfl⟩
    exact .of (o.move (s.b n b) s.zz s.z) h1 (fun z => (s.nz n h3 z).elim h2 fun y => y b) (Nat.lt_of_lt_of_le h3 s.len) fun i z => (I.ow i n z).1 b
theorem RelR.stp {r : R} {u : Val} (x : RelR B h σ r u) (s : Stp (Pn.bx B r u) h h') (I : Inv (Pn.bx B r u) h' ρ' σ) : RelR B h' σ r u := by
  cases r with
  | al i => exact x
  | v p => exact RelP.stp x (s.weak fun n z => z.imp id fun z => ⟨by simpa [R.fresh] using z.1, z.2⟩) (I.weak fun n z => z.imp id fun z => ⟨by simpa [R.fresh] using z.1, z.2⟩)
end
def RelRs (B : Nat → Prop) (h : Hs) (σ : Env) : List R → List Val → Prop
  | [], [] => True
  | r :: rs, u :: us => RelR B h σ r u ∧ RelRs (bx B r u) h σ rs us
  | _, _ => False
def RelPs (B : Nat → Prop) (h : Hs) : List P → List Val → Prop
  | [], [] => True
  | p :: ps, u :: us => RelP B h p u ∧ RelPs (bxP B p u) h ps us
  | _, _ => False
theorem bx_mono {B B1 : Nat → Prop} {r : R} {u : Val} (w : ∀ n, B n → B1 n) : ∀ n, bx B r u n → bx B1 r u n := fun n z => z.imp (w n) id
theorem bxP_mono {B B1 : Nat → Prop} {r : P} {u : Val} (w : ∀ n, B n → B1 n) : ∀ n, bxP B r u n → bxP B1 r u n := fun n z => z.imp (w n) id
theorem RelRs.weak {h : Hs} {σ : Env} : ∀ {rs : List R} {us : List Val} {B B1 : Nat → Prop}, RelRs B1 h σ rs us → (∀ n, B n → B1 n) → RelRs B h σ rs us
  | [], [], _, _, _, _ => trivial
  | r :: rs, u :: us, _, _, x, w => ⟨x.1.weak w, RelRs.weak x.2 (bx_mono w)⟩
  | [], _ :: _, _, _, x, _ => x.elim
  | _ :: _, [], _, _, x, _ => x.elim
def bxs (B : Nat → Prop) : List R → List Val → Nat → Prop
  | r :: rs, u :: us => bxs (bx B r u) rs us
  | _, _ => B
theorem bxs_l : ∀ {rs : List R} {us : List Val} {B : Nat → Prop} (n : Nat), B n → bxs B rs us n
  | [], [], _, _, h => h
  | r :: rs, u :: us, _, n, h => bxs_l (rs := rs) (us := us) n (.inl h)
  | [], _ :: _, _, _, h => h
  | _ :: _, [], _, _, h => h
theorem Inv.bxs {h : Hs} {ρ : PEnv} {σ : Env} : ∀ {rs : List R} {us : List Val} {B : Nat → Prop}, Inv B h ρ σ → RelRs B h σ rs us → Inv (bxs B rs us) h ρ σ
  | [], [], _, I, _ => I
  | r :: rs, u :: us, _, I, x => Inv.bxs (rs := rs) (us := us) (I.bx x.1) x.2
  | [], _ :: _, _, _, x => x.elim
  | _ :: _, [], _, _, x => x.elim
theorem RelRs.stp {h h' : Hs} {ρ' : PEnv} {σ : Env} : ∀ {rs : List R} {us : List Val} {B : Nat → Prop}, RelRs B h σ rs us → Stp (Pn.bxs B rs us) h h' → Inv (Pn.bxs B rs us) h' ρ' σ → RelRs B h' σ rs us
  | [], [], _, _, _, _ => trivial
  | r :: rs, u :: us, _, x, s, I => ⟨x.1.stp (s.weak fun n z => bxs_l (rs := rs) (us := us) n z) (I.weak fun n z => bxs_l (rs := rs) (us := us) n z), RelRs.stp x.2 s I⟩
  | [], _ :: _, _, x, _, _ => x.elim
  | _ :: _, [], _, x, _, _ => x.elim
theorem RelRs.length {h : Hs} {σ : Env} : ∀ {rs : List R} {us : List Val} {B : Nat → Prop}, RelRs B h σ rs us → us.length = rs.length
  | [], [], _, _ => rfl
  | r :: rs, u :: us, _, x => by simp [RelRs.length x.2]
  | [], _ :: _, _, x => x.elim
  | _ :: _, [], _, x => x.elim
/-! ### a look -/
/-- v stands at u, but for its place -/
def Pk (h : Hs) (v : Pv) (u : Val) : Prop := match v with
  | .lst vs => ∃ n us, u = .ref n ∧ h.M[n]? = some (.lst us) ∧ Dens h.M h.Z vs us
  | .rol vs => ∃ n us, u = .ref n ∧ h.M[n]? = some (.rol us) ∧ Dens h.M h.Z vs us
  | .dct vs => ∃ n us, u = .ref n ∧ h.M[n]? = some (.dct us) ∧ Denp h.M h.Z vs us
  | .ins C vs => ∃ n us, u = .ref n ∧ h.M[n]? = some (.ins C us) ∧ Denf h.M h.Z vs us
  | v => Den h.M h.Z v u
theorem Den.pk {h : Hs} {v : Pv} {u : Val} (d : Den h.M h.Z v u) : Pk h v u := by
  cases d with
  | lst a b c => exact ⟨_, _, rfl, b, c⟩
  | rol a b c => exact ⟨_, _, rfl, b, c⟩
  | dct a b c => exact ⟨_, _, rfl, b, c⟩
  | ins a b c => exact ⟨_, _, rfl, b, c⟩
  | non => exact .non
  | bl b => exact .bl b
  | int b => exact .int b
  | str b => exact .str b
  | ty b => exact .ty b
  | glo b => exact .glo b
  | tup h => exact .tup h
theorem Own.pk {h : Hs} {p : P} {n : Nat} (o : Own h p n) : Pk h p.view (.ref n) := by
  cases p with
  | fz v => exact o.elim
  | ol vs => obtain ⟨us, a, b⟩ := o; exact ⟨n, us, rfl, a, b⟩
  | od vs => obtain ⟨us, a, b⟩ := o; exact ⟨n, us, rfl, a, b⟩
  | oi C vs => obtain ⟨us, a, b⟩ := o; exact ⟨n, us, rfl, a, b⟩
inductive Pks (h : Hs) : List Pv → List Val → Prop
  | nil : Pks h [] []
  | cons {v : Pv} {u : Val} {vs : List Pv} {us : List Val} : Pk h v u → Pks h vs us → Pks h (v :: vs) (u :: us)
theorem Dens.pks {h : Hs} : ∀ {vs : List Pv} {us : List Val}, Dens h.M h.Z vs us → Pks h vs us
  | _, _, .nil => .nil
  | _, _, .cons a b => .cons a.pk (Dens.pks b)
/-- the region without its borders -/
def tt : Nat → Prop := fun _ => True
theorem Pk.tt {h : Hs} {v : Pv} {u : Val} (d : Pk h v u) : Den h.M tt v u := by
  cases v with
  | lst vs => obtain ⟨n, us, rfl, a, b⟩ := d; exact .lst trivial a (b.mono (fun _ _ => rfl) fun _ _ => trivial)
  | rol vs => obtain ⟨n, us, rfl, a, b⟩ := d; exact .rol trivial a (b.mono (fun _ _ => rfl) fun _ _ => trivial)
  | dct vs => obtain ⟨n, us, rfl, a, b⟩ := d; exact .dct trivial a (b.mono (fun _ _ => rfl) fun _ _ => trivial)
  | ins C vs => obtain ⟨n, us, rfl, a, b⟩ := d; exact .ins trivial a (b.mono (fun _ _ => rfl) fun _ _ => trivial)
  | non => exact Den.mono (fun _ _ => rfl) (fun _ _ => trivial) d
  | bl b => exact Den.mono (fun _ _ => rfl) (fun _ _ => trivial) d
  | int b => exact Den.mono (fun _ _ => rfl) (fun _ _ => trivial) d
  | str b => exact Den.mono (fun _ _ => rfl) (fun _ _ => trivial) d
  | tup b => exact Den.mono (fun _ _ => rfl) (fun _ _ => trivial) d
  | ty b => exact Den.mono (fun _ _ => rfl) (fun _ _ => trivial) d
  | glo b => exact Den.mono (fun _ _ => rfl) (fun _ _ => trivial) d
theorem Pks.tt {h : Hs} : ∀ {v : List Pv} {u : List Val}, Pks h v u → Dens h.M tt v u
  | _, _, .nil => .nil
  | _, _, .cons a b => .cons a.tt (Pks.tt b)
section
variable {B : Nat → Prop} {h h' : Hs} {ρ ρ' : PEnv} {σ : Env}
theorem Slot.pk {a : Option Nat} {p : P} {u : Val} (s : Slot h a p u) : Pk h p.view u := by
  cases p with
  | fz v => exact Den.pk s
  | ol vs => obtain ⟨n, rfl, _, o⟩ := s; exact o.pk
  | od vs => obtain ⟨n, rfl, _, o⟩ := s; exact o.pk
  | oi C vs => obtain ⟨n, rfl, _, o⟩ := s; exact o.pk
theorem Slot.own {a : Option Nat} {p : P} {u : Val} (s : Slot h a p u) (e : p.isF = false) : ∃ n, u = .ref n ∧ a = some n ∧ Own h p n := by
  cases p with
  | fz v => cases e
  | ol vs => exact s
  | od vs => exact s
  | oi C vs => exact s
theorem Slot.fzd {a : Option Nat} {p : P} {u : Val} (s : Slot h a p u) (e : p.isF = true) : ∃ v, p = .fz v ∧ Den h.M h.Z v u := by
  cases p with
  | fz v => exact ⟨v, rfl, s⟩
  | ol vs => cases e
  | od vs => cases e
  | oi C vs => cases e
theorem Slot.of {n : Nat} {p : P} (o : Own h p n) : Slot h (some n) p (.ref n) := by
  cases p with
  | fz v => exact o.elim
  | ol vs => exact ⟨n, rfl, rfl, o⟩
  | od vs => exact ⟨n, rfl, rfl, o⟩
  | oi C vs => exact ⟨n, rfl, rfl, o⟩
theorem RelP.pk {p : P} {u : Val} (r : RelP B h p u) : Pk h p.view u := by
  cases e : p.isF with
  | true => obtain ⟨v, rfl, d⟩ := r.fz e; exact d.pk
  | false => obtain ⟨n, rfl, o, _⟩ := r.own e; exact o.pk
theorem pk_ok (I : Inv B h ρ σ) {r : R} {u : Val} {v : Pv} (x : RelR B h σ r u) (e : pk ρ r = some v) : Pk h v u := by
  cases r with
  | v p => cases e; exact RelP.pk x
  | al i =>
    have e : (match ρ[i]? with | some (some p) => some p.view | _ => none) = some v := e
    cases hp : ρ[i]? with
    | none => rw [hp] at e; cases e
    | some o =>
      cases o with
      | none => rw [hp] at e; cases e
      | some p =>
        rw [hp] at e; cases e
        obtain ⟨w, e1, s⟩ := I.sl i p hp
        have x : σ[i]? = some (some u) := x
        rw [x] at e1; cases e1
        exact s.pk
theorem pks_ok (I : Inv B h ρ σ) : ∀ {rs : List R} {us : List Val} {vs : List Pv} {B1 : Nat → Prop}, (∀ n, B n → B1 n) → RelRs B1 h σ rs us → pks ρ rs = some vs → Pks h vs us
  | [], [], _, _, _, _, e => by cases e; exact .nil
  | r :: rs, u :: us, vs, B1, w, x, e => by
    have e : (match pk ρ r, pks ρ rs with | some v, some vs => some (v :: vs) | _, _ => none) = some vs := e
    cases h1 : pk ρ r with
    | none => rw [h1] at e; cases e
    | some v =>
      cases h2 : pks ρ rs with
      | none => rw [h1, h2] at e; cases e
      | some ws =>
        rw [h1, h2] at e; cases e
        exact .cons (pk_ok I (x.1.weak w) h1) (pks_ok I (fun n z => .inl (w n z)) x.2 h2)
  | [], _ :: _, _, _, _, x, _ => x.elim
  | _ :: _, [], _, _, _, x, _ => x.elim
/-! ### kept for good -/
/-- the region grows by what is frozen, alone -/
structure Fz (B : Nat → Prop) (h h' : Hs) (N : Nat → Prop) : Prop where
  m : h'.M = h.M
  z : ∀ n, h.Z n → h'.Z n
  nz : ∀ n, h'.Z n → h.Z n ∨ N n ∨ ∃ i, h.A i = some n
  a : ∀ i n, h'.A i = some n → h.A i = some n
theorem Fz.stp {N : Nat → Prop} {ρ : PEnv} (f : Fz B h h' N) (I : Inv B h ρ σ) (hN : ∀ n, N n → ¬ B n) : Stp B h h' :=
  ⟨by rw [f.m]; exact Nat.le_refl _, fun n _ => by rw [f.m], f.z, fun n _ => by rw [f.m], fun n _ z => by
    rcases f.nz n z with z | z | ⟨i, z⟩
    · exact .inl z
    · exact .inr (hN n z)
    · exact .inr (I.ow i n z).1⟩
theorem getElem?_set_cases {α : Type} {l : List α} {i j : Nat} {a b : α} (e : (l.set i a)[j]? = some b) : (j = i ∧ b = a ∧ i < l.length) ∨ (j ≠ i ∧ l[j]? = some b) := by
  by_cases hj : i = j
  · subst hj
    by_cases hl : i < l.length
    · rw [List.getElem?_set_self hl] at e; cases e; exact .inl ⟨rfl, rfl, hl⟩
    · rw [List.getElem?_eq_none (by simpa using hl)] at e; cases e
  · rw [List.getElem?_set_ne hj] at e; exact .inr ⟨fun z => hj z.symm, e⟩
theorem tk_ok (I : Inv B h ρ σ) {r : R} {u : Val} {v : Pv} (x : RelR B h σ r u) (e : tk r ρ = .ok v ρ') :
    ∃ h', Fz B h h' (fun n => r.fresh = true ∧ u = .ref n) ∧ Inv B h' ρ' σ ∧ Den h'.M h'.Z v u := by
  cases r with
  | v p =>
    cases e
    cases hf : p.isF with
    | true =>
      obtain ⟨w, rfl, d⟩ := RelP.fz x hf
      exact ⟨h, ⟨rfl, fun _ z => z, fun _ z => .inl z, fun _ _ z => z⟩, I, d⟩
    | false =>
      obtain ⟨n, rfl, o, h1, h2, h3, h4⟩ := RelP.own x hf
      refine ⟨⟨fun m => h.Z m ∨ m = n, h.A, h.M⟩, ⟨rfl, fun _ z => .inl z, fun m z => z.elim .inl fun z => .inr (.inl ⟨by simp [R.fresh, hf], by rw [z]⟩), fun _ _ z => z⟩, ?_, o.den (fun _ z => .inl z) (.inr rfl)⟩
      refine ⟨I.len, I.bl, fun m z => z.elim (I.zl m) fun z => by subst z; exact h3, fun i m z => ?_, I.inj, fun i p hp => ?_⟩
      · obtain ⟨a, b, c⟩ := I.ow i m z
        exact ⟨a, fun y => y.elim b fun y => by subst y; exact h4 i z, c⟩
      · obtain ⟨w, e1, s⟩ := I.sl i p hp
        refine ⟨w, e1, ?_⟩
        cases hp2 : p.isF with
        | true => obtain ⟨v, rfl, d⟩ := s.fzd hp2; exact Den.mono (fun _ _ => rfl) (fun _ z => Or.inl z) d
        | false =>
          obtain ⟨k, rfl, e2, o2⟩ := s.own hp2
          have := Slot.of (h := ⟨fun m => h.Z m ∨ m = n, h.A, h.M⟩) (o2.move rfl (fun _ _ => rfl) fun _ z => Or.inl z)
          show Slot _ (h.A i) p _
          rw [e2]; exact this
  | al i =>
    have e : (match ρ[i]? with | some (some p) => PO.ok p.view (if p.isF then ρ else ρ.set i (some (.fz p.view))) | _ => .stuck) = .ok v ρ' := e
    cases hp : ρ[i]? with
    | none => rw [hp] at e; cases e
    | some q =>
      cases q with
      | none => rw [hp] at e; cases e
      | some p =>
        rw [hp] at e
        have x : σ[i]? = some (some u) := x
        obtain ⟨w, e1, s⟩ := I.sl i p hp
        rw [x] at e1; cases e1
        cases hf : p.isF with
        | true =>
          simp only [hf, if_true] at e
          cases e
          refine ⟨h, ⟨rfl, fun _ z => z, fun _ z => .inl z, fun _ _ z => z⟩, I, ?_⟩
          obtain ⟨v, rfl, d⟩ := s.fzd hf; exact d
        | false =>
          simp only [hf, Bool.false_eq_true, if_false] at e
          cases e
          obtain ⟨n, rfl, e2, o⟩ := s.own hf
          obtain ⟨a1, a2, a3⟩ := I.ow i n e2
          have dn : Den h.M (fun m => h.Z m ∨ m = n) p.view (.ref n) := o.den (fun _ z => .inl z) (.inr rfl)
          refine ⟨⟨fun m => h.Z m ∨ m = n, fun j => if j = i then none else h.A j, h.M⟩, ⟨rfl, fun _ z => .inl z, fun m z => z.elim .inl fun z => .inr (.inr ⟨i, by rw [z]; exact e2⟩), fun j m z => by
            have z : (if j = i then none else h.A j) = some m := z
            split at z
            · cases z
            · exact z⟩, ?_, dn⟩
          refine ⟨by rw [List.length_set]; exact I.len, I.bl, fun m z => z.elim (I.zl m) fun z => by subst z; exact a3, fun j m z => ?_, fun j k m z1 z2 => ?_, fun j q hq => ?_⟩
          · have z1 : (if j = i then none else h.A j) = some m := z
            by_cases hj : j = i
            · rw [if_pos hj] at z1; cases z1
            · rw [if_neg hj] at z1
              obtain ⟨b1, b2, b3⟩ := I.ow j m z1
              exact ⟨b1, fun y => y.elim b2 fun y => hj (I.inj j i m z1 (y ▸ e2)), b3⟩
          · have z1 : (if j = i then none else h.A j) = some m := z1
            have z2 : (if k = i then none else h.A k) = some m := z2
            split at z1
            · cases z1
            · split at z2
              · cases z2
              · exact I.inj j k m z1 z2
          · rcases getElem?_set_cases hq with ⟨rfl, hq, _⟩ | ⟨hj, hq⟩
            · cases hq
              exact ⟨_, x, dn⟩
            · obtain ⟨w, e3, s2⟩ := I.sl j q hq
              refine ⟨w, e3, ?_⟩
              show Slot _ (if j = i then none else h.A j) q w
              rw [if_neg hj]
              cases hp2 : q.isF with
              | true => obtain ⟨v, rfl, d⟩ := s2.fzd hp2; exact Den.mono (fun _ _ => rfl) (fun _ z => Or.inl z) d
              | false =>
                obtain ⟨k, rfl, e4, o2⟩ := s2.own hp2
                rw [e4]
                exact Slot.of (o2.move rfl (fun _ _ => rfl) fun _ z => Or.inl z)
/-- the others, when one is kept for good -/
theorem RelP.fzs {N : Nat → Prop} {p : P} {u : Val} {B1 : Nat → Prop} (r : RelP B1 h p u) (f : Fz B h h' N) (hN : ∀ n, N n → B1 n) : RelP B1 h' p u := by
  cases e : p.isF with
  | true => obtain ⟨v, rfl, d⟩ := r.fz e; exact d.mono (fun _ _ => by rw [f.m]) f.z
  | false =>
    obtain ⟨n, rfl, o, h1, h2, h3, h4⟩ := r.own e
    refine .of (o.move (by rw [f.m]) (fun _ _ => by rw [f.m]) f.z) h1 (fun z => ?_) (by rw [f.m]; exact h3) fun i z => h4 i (f.a i n z)
    rcases f.nz n z with z | z | ⟨i, z⟩
    · exact h2 z
    · exact h1 (hN n z)
    · exact h4 i z
theorem RelRs.fzs {N : Nat → Prop} (f : Fz B h h' N) : ∀ {rs : List R} {us : List Val} {B1 : Nat → Prop}, RelRs B1 h σ rs us → (∀ n, N n → B1 n) → RelRs B1 h' σ rs us
  | [], [], _, _, _ => trivial
  | r :: rs, u :: us, B1, x, hN => ⟨by
      cases r with
      | v p => exact RelP.fzs x.1 f hN
      | al i => exact x.1, RelRs.fzs f x.2 fun n z => .inl (hN n z)⟩
  | [], _ :: _, _, x, _ => x.elim
  | _ :: _, [], _, x, _ => x.elim
theorem PO.bind_inv {α β : Type} {r : PO α} {f : α → PEnv → PO β} {b : β} {ρ' : PEnv} (h : r.bind f = .ok b ρ') : ∃ a ρ1, r = .ok a ρ1 ∧ f a ρ1 = .ok b ρ' := by
  cases r with
  | ok a ρ1 => exact ⟨a, ρ1, rfl, h⟩
  | stuck => cases h
theorem tks_ok : ∀ {rs : List R} {us : List Val} {vs : List Pv} {h : Hs} {ρ ρ' : PEnv}, Inv B h ρ σ → RelRs B h σ rs us → tks rs ρ = .ok vs ρ' →
    ∃ h' N, Fz B h h' N ∧ (∀ n, N n → ¬ B n) ∧ Inv B h' ρ' σ ∧ Dens h'.M h'.Z vs us
  | [], [], _, h, _, _, I, _, e => by cases e; exact ⟨h, fun _ => False, ⟨rfl, fun _ z => z, fun _ z => .inl z, fun _ _ z => z⟩, fun _ z => z.elim, I, .nil⟩
  | r :: rs, u :: us, vs, h, ρ, ρ', I, x, e => by
    obtain ⟨v, ρ1, e1, e⟩ := PO.bind_inv (show (tk r ρ).bind _ = _ from e)
    obtain ⟨ws, ρ2, e2, e⟩ := PO.bind_inv e
    cases e
    obtain ⟨h1, f1, I1, d1⟩ := tk_ok I x.1 e1
    have x2 := (x.2.fzs f1 fun n z => .inr z).weak (B := B) fun n z => .inl z
    obtain ⟨h2, N, f2, n2, I2, d2⟩ := tks_ok I1 x2 e2
    refine ⟨h2, fun n => (r.fresh = true ∧ u = .ref n) ∨ N n, ⟨f2.m.trans f1.m, fun n z => f2.z n (f1.z n z), fun n z => ?_, fun i n z => f1.a i n (f2.a i n z)⟩, fun n z => ?_, I2, .cons (d1.mono (fun _ _ => by rw [f2.m]) f2.z) d2⟩
    · rcases f2.nz n z with z | z | ⟨i, z⟩
      · rcases f1.nz n z with z | z | z
        · exact .inl z
        · exact .inr (.inl (.inl z))
        · exact .inr (.inr z)
      · exact .inr (.inl (.inr z))
      · exact .inr (.inr ⟨i, f1.a i n z⟩)
    · rcases z with ⟨z1, rfl⟩ | z
      · cases r with
        | al i => cases z1
        | v p =>
          obtain ⟨m, e3, _, hb, _⟩ := RelP.own x.1 (by simpa [R.fresh] using z1)
          cases e3; exact hb
      · exact n2 n z
  | [], _ :: _, _, _, _, _, _, x, _ => x.elim
  | _ :: _, [], _, _, _, _, _, x, _ => x.elim
theorem fresh_nb {r : R} {u : Val} (x : RelR B h σ r u) : ∀ n, (r.fresh = true ∧ u = .ref n) → ¬ B n := fun n z => by
  cases r with
  | al i => cases z.1
  | v p =>
    obtain ⟨m, e3, _, hb, _⟩ := RelP.own x (by simpa [R.fresh] using z.1)
    rw [z.2] at e3; cases e3; exact hb
end
end Mn.Pn
end -- Pn2
section -- Pn3
set_option linter.all false
set_option autoImplicit false
set_option maxRecDepth 100000
/-! Operators and built-in functions, related. -/
namespace Mn.Pn
open PySem L2
section
variable {M : Mem} {Z : Nat → Prop}
mutual
theorem vdat_ok : ∀ {v : Pv} {u : Val}, Den M Z v u → ∀ (k : Nat) (d : PyData), vdat k v = some d → dat (rdM M k) u = some d
  | _, _, .non, _, _, e => by cases e; rfl
  | _, _, .bl b, _, _, e => by cases e; rfl
  | _, _, .int b, _, _, e => by cases e; rfl
  | _, _, .str b, _, _, e => by cases e; rfl
  | _, _, .ty b, _, _, e => by cases e
  | _, _, .glo b, _, _, e => by cases e
  | .tup vs, .tup us, .tup h, k, d, e => by
    have e : (vdats k vs).map PyData.tuple = some d := e
    cases hd : vdats k vs with
    | none => rw [hd] at e; cases e
    | some ds =>
      rw [hd] at e; cases e
      show (dats (rdM M k) us).map PyData.tuple = _
      rw [vdats_ok h k ds hd]; rfl
  | .lst vs, .ref n, .lst (us := us) z g h, 0, d, e => by cases e
  | .lst vs, .ref n, .lst (us := us) z g h, k + 1, d, e => by
    have e : (vdats k vs).map PyData.list = some d := e
    cases hd : vdats k vs with
    | none => rw [hd] at e; cases e
    | some ds =>
      rw [hd] at e; cases e
      show rdM M (k + 1) n = _
      unfold rdM
      rw [g]
      dsimp only
      rw [vdats_ok h k ds hd]; rfl
  | .rol vs, .ref n, .rol (us := us) z g h, 0, d, e => by cases e
  | .rol vs, .ref n, .rol (us := us) z g h, k + 1, d, e => by
    have e : (vdats k vs).map PyData.list = some d := e
    cases hd : vdats k vs with
    | none => rw [hd] at e; cases e
    | some ds =>
      rw [hd] at e; cases e
      show rdM M (k + 1) n = _
      unfold rdM
      rw [g]
      dsimp only
      rw [vdats_ok h k ds hd]; rfl
  | _, _, .dct _ _ _, _, _, e => by cases e
  | _, _, .ins _ _ _, _, _, e => by cases e
theorem vdats_ok : ∀ {vs : List Pv} {us : List Val}, Dens M Z vs us → ∀ (k : Nat) (ds : List PyData), vdats k vs = some ds → dats (rdM M k) us = some ds
  | _, _, .nil, _, _, e => by cases e; rfl
  | v :: vs, u :: us, .cons a b, k, ds, e => by
    have e : (match vdat k v, vdats k vs with | some d, some ds => some (d :: ds) | _, _ => none) = some ds := e
    cases h1 : vdat k v with
    | none => rw [h1] at e; cases e
    | some d =>
      cases h2 : vdats k vs with
      | none => rw [h1, h2] at e; cases e
      | some es =>
        rw [h1, h2] at e; cases e
        show (match dat (rdM M k) u, dats (rdM M k) us with | some d, some ds => some (d :: ds) | _, _ => none) = _
        rw [vdat_ok a k d h1, vdats_ok b k es h2]
end
theorem datM_v {v : Pv} {u : Val} {d : PyData} (h : Den M Z v u) (e : vdat 6 v = some d) : datM M u = some d := vdat_ok h 6 d e
theorem datsM_v {v : List Pv} {u : List Val} {d : List PyData} (h : Dens M Z v u) (e : vdats 6 v = some d) : datsM M u = some d := vdats_ok h 6 d e
theorem veqD_ok {x y : Pv} {a b : Val} {r : Bool} (hx : Den M Z x a) (hy : Den M Z y b) (e : pveqD x y = some r) : veqD M a b = some r := by
  unfold pveqD at e
  unfold veqD
  cases h1 : vdat 6 x with
  | none => rw [h1] at e; cases e
  | some d =>
    cases h2 : vdat 6 y with
    | none => rw [h1, h2] at e; cases e
    | some d2 =>
      rw [h1, h2] at e
      rw [datM_v hx h1, datM_v hy h2]
      exact e
theorem veq_ok {x y : Pv} {a b : Val} {r : Bool} (hx : Den M Z x a) (hy : Den M Z y b) (e : pveq x y = some r) : veq M a b = some r := by
  cases hx with
  | str s =>
    cases hy with
    | str t => exact e
    | non => exact veqD_ok (M := M) (Z := Z) (.str s) .non e
    | bl c => exact veqD_ok (M := M) (Z := Z) (.str s) (.bl c) e
    | int c => exact veqD_ok (M := M) (Z := Z) (.str s) (.int c) e
    | ty c => exact veqD_ok (M := M) (Z := Z) (.str s) (.ty c) e
    | glo c => exact veqD_ok (M := M) (Z := Z) (.str s) (.glo c) e
    | tup h => exact veqD_ok (M := M) (Z := Z) (.str s) (.tup h) e
    | lst z g h => exact veqD_ok (M := M) (Z := Z) (.str s) (.lst z g h) e
    | rol z g h => exact veqD_ok (M := M) (Z := Z) (.str s) (.rol z g h) e
    | dct z g h => exact veqD_ok (M := M) (Z := Z) (.str s) (.dct z g h) e
    | ins z g h => exact veqD_ok (M := M) (Z := Z) (.str s) (.ins z g h) e
  | non => exact veqD_ok (M := M) (Z := Z) .non hy e
  | bl c => exact veqD_ok (M := M) (Z := Z) (.bl c) hy e
  | int c => exact veqD_ok (M := M) (Z := Z) (.int c) hy e
  | ty c => exact veqD_ok (M := M) (Z := Z) (.ty c) hy e
  | glo c => exact veqD_ok (M := M) (Z := Z) (.glo c) hy e
  | tup h => exact veqD_ok (M := M) (Z := Z) (.tup h) hy e
  | lst z g h => exact veqD_ok (M := M) (Z := Z) (.lst z g h) hy e
  | rol z g h => exact veqD_ok (M := M) (Z := Z) (.rol z g h) hy e
  | dct z g h => exact veqD_ok (M := M) (Z := Z) (.dct z g h) hy e
  | ins z g h => exact veqD_ok (M := M) (Z := Z) (.ins z g h) hy e
theorem vlt_ok {x y : Pv} {a b : Val} {r : Bool} (hx : Den M Z x a) (hy : Den M Z y b) (e : pvlt x y = some r) : vlt M a b = some r := by
  unfold pvlt at e
  unfold vlt
  cases h1 : vdat 6 x with
  | none => rw [h1] at e; cases e
  | some d =>
    cases h2 : vdat 6 y with
    | none => rw [h1, h2] at e; cases d <;> cases e
    | some d2 =>
      rw [h1, h2] at e
      rw [datM_v hx h1, datM_v hy h2]
      exact e
theorem vin_ok {x : Pv} {ys : List Pv} {a : Val} {bs : List Val} {r : Bool} (hx : Den M Z x a) (hy : Dens M Z ys bs) (e : pvin x ys = some r) : vin M a bs = some r := by
  unfold pvin at e
  unfold vin
  cases h1 : vdat 6 x with
  | none => rw [h1] at e; cases e
  | some d =>
    cases h2 : vdats 6 ys with
    | none => rw [h1, h2] at e; cases e
    | some d2 =>
      rw [h1, h2] at e
      rw [datM_v hx h1, datsM_v hy h2]
      exact e
/-! ### keys -/
mutual
theorem keq_den : ∀ {v w : Pv} {a b : Val}, Den M Z v a → Den M Z w b → keq a b = pkeq v w
  | _, _, _, _, .non, h => by cases h <;> rfl
  | _, _, _, _, .bl _, h => by cases h <;> rfl
  | _, _, _, _, .int _, h => by cases h <;> rfl
  | _, _, _, _, .str _, h => by cases h <;> rfl
  | _, _, _, _, .ty _, h => by cases h <;> rfl
  | _, _, _, _, .glo _, h => by cases h <;> rfl
  | .tup vs, _, .tup us, _, .tup x, h => by
    cases h with
    | tup y => exact keqs_den x y
    | _ => rfl
  | _, _, _, _, .lst _ _ _, h => by cases h <;> rfl
  | _, _, _, _, .rol _ _ _, h => by cases h <;> rfl
  | _, _, _, _, .dct _ _ _, h => by cases h <;> rfl
  | _, _, _, _, .ins _ _ _, h => by cases h <;> rfl
theorem keqs_den : ∀ {vs ws : List Pv} {as bs : List Val}, Dens M Z vs as → Dens M Z ws bs → keqs as bs = pkeqs vs ws
  | _, _, _, _, .nil, h => by cases h <;> rfl
  | v :: vs, _, a :: as, _, .cons x xs, h => by
    cases h with
    | nil => rfl
    | @cons w b ws bs y ys =>
      show (keq a b && keqs as bs) = (pkeq v w && pkeqs vs ws)
      rw [keq_den x y, keqs_den xs ys]
end
mutual
theorem isKey_den : ∀ {v : Pv} {a : Val}, Den M Z v a → isKey a = pisKey v
  | _, _, .non => rfl
  | _, _, .bl _ => rfl
  | _, _, .int _ => rfl
  | _, _, .str _ => rfl
  | _, _, .ty _ => rfl
  | _, _, .glo _ => rfl
  | .tup vs, .tup us, .tup x => areKeys_den x
  | _, _, .lst _ _ _ => rfl
  | _, _, .rol _ _ _ => rfl
  | _, _, .dct _ _ _ => rfl
  | _, _, .ins _ _ _ => rfl
theorem areKeys_den : ∀ {vs : List Pv} {as : List Val}, Dens M Z vs as → areKeys as = pareKeys vs
  | _, _, .nil => rfl
  | v :: vs, a :: as, .cons x xs => by
    show (isKey a && areKeys as) = (pisKey v && pareKeys vs)
    rw [isKey_den x, areKeys_den xs]
end
mutual
theorem kdepth_den : ∀ {v : Pv} {a : Val}, Den M Z v a → kdepth a = pkdepth v
  | _, _, .non => rfl
  | _, _, .bl _ => rfl
  | _, _, .int _ => rfl
  | _, _, .str _ => rfl
  | _, _, .ty _ => rfl
  | _, _, .glo _ => rfl
  | .tup vs, .tup us, .tup x => by show kdepths us + 1 = pkdepths vs + 1; rw [kdepths_den x]
  | _, _, .lst _ _ _ => rfl
  | _, _, .rol _ _ _ => rfl
  | _, _, .dct _ _ _ => rfl
  | _, _, .ins _ _ _ => rfl
theorem kdepths_den : ∀ {vs : List Pv} {as : List Val}, Dens M Z vs as → kdepths as = pkdepths vs
  | _, _, .nil => rfl
  | v :: vs, a :: as, .cons x xs => by
    show max (kdepth a) (kdepths as) = max (pkdepth v) (pkdepths vs)
    rw [kdepth_den x, kdepths_den xs]
end
theorem leafK_den {v : Pv} {a : Val} (h : Den M Z v a) : leafK a = pleafK v := by cases h <;> rfl
theorem tupK_den {v : Pv} {a : Val} (h : Den M Z v a) : tupK a = ptupK v := by
  cases h with
  | @tup vs us x =>
    show (areKeys us && decide (kdepths us < 8)) = (pareKeys vs && decide (pkdepths vs < 8))
    rw [areKeys_den x, kdepths_den x]
  | _ => rfl
theorem all_den {f : Val → Bool} {g : Pv → Bool} (hfg : ∀ {v : Pv} {a : Val}, Den M Z v a → f a = g v) : ∀ {kvs : List (Pv × Pv)} {us : List (Val × Val)}, Denp M Z kvs us → (us.all fun p => f p.1) = kvs.all fun p => g p.1
  | _, _, .nil => rfl
  | _, _, .cons a b c => by simp only [List.all_cons]; rw [hfg a, all_den hfg c]
theorem fits_den {kvs : List (Pv × Pv)} {us : List (Val × Val)} {k : Pv} {x : Val} (h : Denp M Z kvs us) (hk : Den M Z k x) : fits us x = pfits kvs k := by
  unfold fits pfits
  rw [leafK_den hk, tupK_den hk, all_den leafK_den h, all_den tupK_den h]
theorem dget_den : ∀ {kvs : List (Pv × Pv)} {us : List (Val × Val)} {k : Pv} {x : Val}, Denp M Z kvs us → Den M Z k x → (∃ v u, pdget kvs k = some v ∧ dget us x = some u ∧ Den M Z v u) ∨ (pdget kvs k = none ∧ dget us x = none)
  | _, _, k, x, .nil, hk => .inr ⟨rfl, rfl⟩
  | (k1, v1) :: kvs, (x1, u1) :: us, k, x, .cons a b c, hk => by
    unfold pdget dget
    simp only [List.find?_cons]
    rw [keq_den a hk]
    cases pkeq k1 k with
    | true => exact .inl ⟨v1, u1, rfl, rfl, b⟩
    | false => exact dget_den c hk
theorem dput_den : ∀ {kvs : List (Pv × Pv)} {us : List (Val × Val)} {k v : Pv} {x u : Val}, Denp M Z kvs us → Den M Z k x → Den M Z v u → Denp M Z (pdput kvs k v) (dput us x u)
  | _, _, k, v, x, u, .nil, hk, hv => .cons hk hv .nil
  | (k1, v1) :: kvs, (x1, u1) :: us, k, v, x, u, .cons a b c, hk, hv => by
    show Denp M Z (if pkeq k1 k then (k1, v) :: kvs else (k1, v1) :: pdput kvs k v) (if keq x1 x then (x1, u) :: us else (x1, u1) :: dput us x u)
    rw [keq_den a hk]
    cases pkeq k1 k with
    | true => exact .cons a hv c
    | false => exact .cons a b (dput_den c hk hv)
theorem Denp.len : ∀ {kvs : List (Pv × Pv)} {us : List (Val × Val)}, Denp M Z kvs us → us.length = kvs.length
  | _, _, .nil => rfl
  | _, _, .cons _ _ c => by simp [Denp.len c]
theorem Denf.len : ∀ {kvs : List (Str × Pv)} {us : List (Str × Val)}, Denf M Z kvs us → us.length = kvs.length
  | _, _, .nil => rfl
  | _, _, .cons _ c => by simp [Denf.len c]
theorem Denp.keys : ∀ {kvs : List (Pv × Pv)} {us : List (Val × Val)}, Denp M Z kvs us → Dens M Z (kvs.map (·.1)) (us.map (·.1))
  | _, _, .nil => .nil
  | _, _, .cons a _ c => .cons a (Denp.keys c)
theorem dputs_den : ∀ {kvs acc r : List (Pv × Pv)} {us ac : List (Val × Val)}, Denp M Z acc ac → Denp M Z kvs us → pdputs acc kvs = some r → ∃ q, dputs ac us = some q ∧ Denp M Z r q
  | _, acc, r, _, ac, h, .nil, e => by cases e; exact ⟨ac, rfl, h⟩
  | (k, v) :: kvs, acc, r, (x, u) :: us, ac, h, .cons a b c, e => by
    have e : (if pfits acc k then pdputs (pdput acc k v) kvs else none) = some r := e
    show ∃ q, (if fits ac x then dputs (dput ac x u) us else none) = some q ∧ _
    rw [fits_den h a]
    cases hf : pfits acc k with
    | false => rw [hf] at e; cases e
    | true =>
      rw [hf] at e
      exact dputs_den (dput_den h a b) c e
theorem Dens.zip : ∀ {ks vs : List Pv} {xs us : List Val}, Dens M Z ks xs → Dens M Z vs us → Denp M Z (ks.zip vs) (xs.zip us)
  | _, _, _, _, .nil, _ => by cases ‹Dens M Z _ _› <;> exact .nil
  | _, _, _, _, .cons a as, h => by
    cases h with
    | nil => exact .nil
    | cons b bs => exact .cons a b (Dens.zip as bs)
theorem lookup_den : ∀ {fs : List (Str × Pv)} {us : List (Str × Val)} {f : Str} {v : Pv}, Denf M Z fs us → fs.lookup f = some v → ∃ u, us.lookup f = some u ∧ Den M Z v u
  | _, _, f, v, .nil, e => by cases e
  | (g, w) :: fs, (_, x) :: us, f, v, .cons b c, e => by
    rw [List.lookup_cons] at e ⊢
    cases hg : f == g with
    | true => rw [hg] at e; cases e; exact ⟨x, rfl, b⟩
    | false => rw [hg] at e; exact lookup_den c e
theorem lookup_none : ∀ {fs : List (Str × Pv)} {us : List (Str × Val)} {f : Str}, Denf M Z fs us → fs.lookup f = none → us.lookup f = none
  | _, _, f, .nil, e => rfl
  | (g, w) :: fs, (_, x) :: us, f, .cons b c, e => by
    rw [List.lookup_cons] at e ⊢
    cases hg : f == g with
    | true => rw [hg] at e; cases e
    | false => rw [hg] at e; exact lookup_none c e
theorem putFd_den : ∀ {fs : List (Str × Pv)} {us : List (Str × Val)} {f : Str} {v : Pv} {u : Val}, Denf M Z fs us → Den M Z v u → Denf M Z (pputFd f v fs) (putFd f u us)
  | _, _, f, v, u, .nil, h => .cons h .nil
  | (g, w) :: fs, (_, x) :: us, f, v, u, .cons b c, h => by
    show Denf M Z (if g = f then (g, v) :: fs else (g, w) :: pputFd f v fs) (if g = f then (g, u) :: us else (g, x) :: putFd f u us)
    by_cases hg : g = f
    · rw [if_pos hg, if_pos hg]; exact .cons h c
    · rw [if_neg hg, if_neg hg]; exact .cons b (putFd_den c h)
end
/-! ### what is made -/
theorem cap_line : (1000000 : Nat) ≤ sizeLine := by rw [sizeLine_eq]; decide
def Mk (h : Hs) (p : P) (r : Res Val) : Prop := match p with
  | .fz v => ∃ u, r = .ok u h.M ∧ Den h.M h.Z v u
  | .ol vs => ∃ us, r = .ok (.ref h.M.length) (h.M ++ [.lst us]) ∧ Dens h.M h.Z vs us
  | .od vs => ∃ us, r = .ok (.ref h.M.length) (h.M ++ [.dct us]) ∧ Denp h.M h.Z vs us
  | .oi C vs => ∃ us, r = .ok (.ref h.M.length) (h.M ++ [.ins C us]) ∧ Denf h.M h.Z vs us
section
variable {B : Nat → Prop} {h h' : Hs} {ρ ρ' : PEnv} {σ : Env}
theorem stp_new (I : Inv B h ρ σ) (o : Obj) : Stp B h ⟨h.Z, h.A, h.M ++ [o]⟩ ∧ Inv B ⟨h.Z, h.A, h.M ++ [o]⟩ ρ σ := by
  have old : ∀ n, n < h.M.length → (h.M ++ [o])[n]? = h.M[n]? := fun n hn => List.getElem?_append_left hn
  refine ⟨⟨by simp, fun n z => old n (I.bl n z), fun _ z => z, fun n z => old n (I.zl n z), fun _ _ z => .inl z⟩, ⟨I.len, fun n z => Nat.lt_of_lt_of_le (I.bl n z) (by simp), fun n z => Nat.lt_of_lt_of_le (I.zl n z) (by simp), fun i n z => let ⟨a, b, c⟩ := I.ow i n z; ⟨a, b, Nat.lt_of_lt_of_le c (by simp)⟩, I.inj, fun i p hp => ?_⟩⟩
  obtain ⟨u, e, s⟩ := I.sl i p hp
  refine ⟨u, e, ?_⟩
  cases hf : p.isF with
  | true => obtain ⟨v, rfl, d⟩ := s.fzd hf; exact d.mono (fun n z => old n (I.zl n z)) fun _ z => z
  | false =>
    obtain ⟨n, rfl, e2, o2⟩ := s.own hf
    show Slot _ (h.A i) p _
    rw [e2]
    exact Slot.of (o2.move (old n (I.ow i n e2).2.2) (fun n z => old n (I.zl n z)) fun _ z => z)
theorem mk_ok (I : Inv B h ρ σ) {p : P} {r : Res Val} (m : Mk h p r) : ∃ u h', r = .ok u h'.M ∧ Stp B h h' ∧ Inv B h' ρ σ ∧ RelP B h' p u := by
  have nB : ¬ B h.M.length := fun z => Nat.lt_irrefl _ (I.bl _ z)
  have nZ : ¬ h.Z h.M.length := fun z => Nat.lt_irrefl _ (I.zl _ z)
  have nA : ∀ i, h.A i ≠ some h.M.length := fun i z => Nat.lt_irrefl _ (I.ow i _ z).2.2
  cases p with
  | fz v => obtain ⟨u, e, d⟩ := m; exact ⟨u, h, e, .refl, I, d⟩
  | ol vs =>
    obtain ⟨us, e, d⟩ := m
    obtain ⟨s, I2⟩ := stp_new I (.lst us)
    exact ⟨_, _, e, s, I2, h.M.length, rfl, ⟨us, app_new, d.stp s⟩, nB, nZ, by simp, nA⟩
  | od vs =>
    obtain ⟨us, e, d⟩ := m
    obtain ⟨s, I2⟩ := stp_new I (.dct us)
    exact ⟨_, _, e, s, I2, h.M.length, rfl, ⟨us, app_new, d.stp s⟩, nB, nZ, by simp, nA⟩
  | oi C vs =>
    obtain ⟨us, e, d⟩ := m
    obtain ⟨s, I2⟩ := stp_new I (.ins C us)
    exact ⟨_, _, e, s, I2, h.M.length, rfl, ⟨us, app_new, d.mono s.zz s.z⟩, nB, nZ, by simp, nA⟩
end
section
variable {h : Hs}
theorem truth_pk {v : Pv} {u : Val} {b : Bool} (d : Pk h v u) (e : ptruth v = some b) : truth h.M u = some b := by
  cases v with
  | non => cases d; exact e
  | bl c => cases d; exact e
  | int i => cases d; exact e
  | str s =>
    cases d
    have e : (if s.length ≤ 1000000 then some ((s.length : Int) != 0) else none) = some b := e
    split at e
    · rename_i hl
      show (if s.length ≤ sizeLine then some ((s.length : Int) != 0) else none) = _
      rw [if_pos (Nat.le_trans hl cap_line)]; exact e
    · cases e
  | tup vs =>
    cases d with
    | @tup _ us x =>
      cases e
      show some (!us.isEmpty) = some (!vs.isEmpty)
      cases x <;> rfl
  | lst vs =>
    obtain ⟨n, us, rfl, g, x⟩ := d
    cases e
    show (match h.M[n]? with | some (.lst vs) => some (!vs.isEmpty) | some (.rol vs) => some (!vs.isEmpty) | some (.dct kvs) => if kvs.all fun p => leafK p.1 then some (!kvs.isEmpty) else none | _ => none) = _
    rw [g]
    cases x <;> rfl
  | rol vs =>
    obtain ⟨n, us, rfl, g, x⟩ := d
    cases e
    show (match h.M[n]? with | some (.lst vs) => some (!vs.isEmpty) | some (.rol vs) => some (!vs.isEmpty) | some (.dct kvs) => if kvs.all fun p => leafK p.1 then some (!kvs.isEmpty) else none | _ => none) = _
    rw [g]
    cases x <;> rfl
  | dct vs =>
    obtain ⟨n, us, rfl, g, x⟩ := d
    have e : (if vs.all fun p => pleafK p.1 then some (!vs.isEmpty) else none) = some b := e
    show (match h.M[n]? with | some (.lst vs) => some (!vs.isEmpty) | some (.rol vs) => some (!vs.isEmpty) | some (.dct kvs) => if kvs.all fun p => leafK p.1 then some (!kvs.isEmpty) else none | _ => none) = _
    rw [g]
    dsimp only
    rw [all_den leafK_den x]
    split at e
    · rename_i hl; rw [if_pos hl]; cases e; cases x <;> rfl
    · cases e
  | ins C vs => cases e
  | ty t => cases e
  | glo x => cases e
theorem seq_pk {v : Pv} {u : Val} {vs : List Pv} (d : Pk h v u) (e : pseq v = some vs) : ∃ us, seqOf h.M u = some us ∧ Dens h.M h.Z vs us := by
  cases v with
  | tup ws => cases e; cases d with | @tup _ us x => exact ⟨us, rfl, x⟩
  | lst ws =>
    cases e
    obtain ⟨n, us, rfl, g, x⟩ := d
    exact ⟨us, by show (match h.M[n]? with | some (.lst vs) => some vs | some (.rol vs) => some vs | _ => none) = _; rw [g], x⟩
  | rol ws =>
    cases e
    obtain ⟨n, us, rfl, g, x⟩ := d
    exact ⟨us, by show (match h.M[n]? with | some (.lst vs) => some vs | some (.rol vs) => some vs | _ => none) = _; rw [g], x⟩
  | _ => cases e
theorem lst_pk {v : Pv} {u : Val} {vs : List Pv} (d : Pk h v u) (e : plstOf v = some vs) : ∃ us, lstOf h.M u = some us ∧ Dens h.M h.Z vs us := by
  cases v with
  | lst ws =>
    cases e
    obtain ⟨n, us, rfl, g, x⟩ := d
    exact ⟨us, by show (match h.M[n]? with | some (.lst vs) => some vs | some (.rol vs) => some vs | _ => none) = _; rw [g], x⟩
  | rol ws =>
    cases e
    obtain ⟨n, us, rfl, g, x⟩ := d
    exact ⟨us, by show (match h.M[n]? with | some (.lst vs) => some vs | some (.rol vs) => some vs | _ => none) = _; rw [g], x⟩
  | _ => cases e
theorem items_pk {v : Pv} {u : Val} {vs : List Pv} (d : Pk h v u) (e : pitems v = some vs) : ∃ us, itemsOf h.M u = some us ∧ Dens h.M h.Z vs us := by
  cases v with
  | tup ws => cases e; cases d with | @tup _ us x => exact ⟨us, rfl, x⟩
  | lst ws =>
    cases e
    obtain ⟨n, us, rfl, g, x⟩ := d
    exact ⟨us, by show (match h.M[n]? with | some (.lst vs) => some vs | some (.rol vs) => some vs | some (.dct kvs) => some (List.map Prod.fst kvs) | _ => none) = _; rw [g], x⟩
  | rol ws =>
    cases e
    obtain ⟨n, us, rfl, g, x⟩ := d
    exact ⟨us, by show (match h.M[n]? with | some (.lst vs) => some vs | some (.rol vs) => some vs | some (.dct kvs) => some (List.map Prod.fst kvs) | _ => none) = _; rw [g], x⟩
  | dct ws =>
    cases e
    obtain ⟨n, us, rfl, g, x⟩ := d
    exact ⟨us.map (·.1), by show (match h.M[n]? with | some (.lst vs) => some vs | some (.rol vs) => some vs | some (.dct kvs) => some (List.map Prod.fst kvs) | _ => none) = _; rw [g], x.keys⟩
  | _ => cases e
theorem len_pk {v : Pv} {u : Val} {n : Nat} (d : Pk h v u) (e : plen v = some n) : lenOf h.M u = some n := by
  cases v with
  | tup ws => cases e; cases d with | @tup _ us x => exact congrArg some x.length
  | str s =>
    cases d
    have e : (if s.length ≤ 1000000 then some s.length else none) = some n := e
    split at e
    · rename_i hl
      show (if s.length ≤ sizeLine then some s.length else none) = _
      rw [if_pos (Nat.le_trans hl cap_line)]; exact e
    · cases e
  | lst ws =>
    cases e
    obtain ⟨n, us, rfl, g, x⟩ := d
    show (match h.M[n]? with | some (.lst vs) => some vs.length | some (.rol vs) => some vs.length | some (.dct kvs) => some kvs.length | _ => none) = _
    rw [g]; exact congrArg some x.length
  | rol ws =>
    cases e
    obtain ⟨n, us, rfl, g, x⟩ := d
    show (match h.M[n]? with | some (.lst vs) => some vs.length | some (.rol vs) => some vs.length | some (.dct kvs) => some kvs.length | _ => none) = _
    rw [g]; exact congrArg some x.length
  | dct ws =>
    cases e
    obtain ⟨n, us, rfl, g, x⟩ := d
    show (match h.M[n]? with | some (.lst vs) => some vs.length | some (.rol vs) => some vs.length | some (.dct kvs) => some kvs.length | _ => none) = _
    rw [g]; exact congrArg some x.len
  | _ => cases e
theorem ty_pk {v : Pv} {u : Val} {t : String} (d : Pk h v u) (e : ptyName v = some t) : tyName h.M u = some t := by
  cases v with
  | non => cases d; exact e
  | bl c => cases d; exact e
  | int i => cases d; exact e
  | str s => cases d; exact e
  | tup vs => cases d; exact e
  | lst ws =>
    obtain ⟨n, us, rfl, g, x⟩ := d
    show (match h.M[n]? with | some (.lst _) => some "list" | some (.rol _) => some "list" | some (.dct _) => some "dict" | _ => none) = _
    rw [g]; exact e
  | rol ws =>
    obtain ⟨n, us, rfl, g, x⟩ := d
    show (match h.M[n]? with | some (.lst _) => some "list" | some (.rol _) => some "list" | some (.dct _) => some "dict" | _ => none) = _
    rw [g]; exact e
  | dct ws =>
    obtain ⟨n, us, rfl, g, x⟩ := d
    show (match h.M[n]? with | some (.lst _) => some "list" | some (.rol _) => some "list" | some (.dct _) => some "dict" | _ => none) = _
    rw [g]; exact e
  | _ => cases e
theorem pints_ok {M : Mem} {Z : Nat → Prop} : ∀ {vs : List Pv} {us : List Val} {is : List Int}, Dens M Z vs us → pints vs = some is → intsOf us = some is
  | _, _, _, .nil, e => by cases e; rfl
  | v :: vs, u :: us, is, .cons a b, e => by
    cases a with
    | int i =>
      have e : (pints vs).map (i :: ·) = some is := e
      cases hp : pints vs with
      | none => rw [hp] at e; cases e
      | some js =>
        rw [hp] at e; cases e
        show (intsOf us).map (i :: ·) = _
        rw [pints_ok b hp]; rfl
    | _ => cases e
theorem pbools_ok {M : Mem} {Z : Nat → Prop} : ∀ {vs : List Pv} {us : List Val} {is : List Bool}, Dens M Z vs us → pbools vs = some is → boolsOf us = some is
  | _, _, _, .nil, e => by cases e; rfl
  | v :: vs, u :: us, is, .cons a b, e => by
    cases a with
    | bl i =>
      have e : (pbools vs).map (i :: ·) = some is := e
      cases hp : pbools vs with
      | none => rw [hp] at e; cases e
      | some js =>
        rw [hp] at e; cases e
        show (boolsOf us).map (i :: ·) = _
        rw [pbools_ok b hp]; rfl
    | _ => cases e
theorem ppairs_ok {M : Mem} {Z : Nat → Prop} : ∀ {vs : List Pv} {us : List Val} {is : List (Pv × Pv)}, Dens M Z vs us → ppairs vs = some is → ∃ js, pairsOf us = some js ∧ Denp M Z is js
  | _, _, _, .nil, e => by cases e; exact ⟨[], rfl, .nil⟩
  | v :: vs, u :: us, is, .cons a b, e => by
    cases a with
    | @tup ws xs x =>
      cases x with
      | nil => cases e
      | @cons k a1 ws1 xs1 x1 y =>
        cases y with
        | nil => cases e
        | @cons w a2 ws2 xs2 x2 y2 =>
          cases y2 with
          | cons _ _ => cases e
          | nil =>
            have e : (ppairs vs).map ((k, w) :: ·) = some is := e
            cases hp : ppairs vs with
            | none => rw [hp] at e; cases e
            | some js =>
              rw [hp] at e; cases e
              obtain ⟨q, e1, e2⟩ := ppairs_ok b hp
              exact ⟨_, by show (pairsOf us).map ((a1, a2) :: ·) = _; rw [e1]; rfl, .cons x1 x2 e2⟩
    | _ => cases e
end
end Mn.Pn
end -- Pn3
section -- Pn4
set_option linter.all false
set_option autoImplicit false
set_option maxRecDepth 100000
namespace Mn.Pn
open PySem L2
section
variable {h : Hs}
theorem chk_t {α : Type} {b : Bool} {r : Res α} (e : b = true) : chk b r = r := by subst e; rfl
theorem bin_pk {op : Operator} {x y : Pv} {a b : Val} {p : P} (hx : Pk h x a) (hy : Pk h y b) (e : pbin op x y = some p) : Mk h p (binop op a b h.M) := by
  have cl := cap_line
  unfold pbin at e
  split at e
  · cases hx; cases hy; cases e; exact ⟨_, rfl, .int _⟩
  · rename_i s t
    cases hx; cases hy
    split at e
    · rename_i hl; cases e; exact ⟨_, chk_t (decide_eq_true (Nat.le_trans hl cl)), .str _⟩
    · cases e
  · rename_i s t
    cases hx with
    | tup hx =>
      cases hy with
      | tup hy =>
        split at e
        · rename_i hl; cases e; exact ⟨_, chk_t (decide_eq_true (by rw [hx.length, hy.length]; omega)), .tup (hx.append hy)⟩
        · cases e
  · rename_i s t
    obtain ⟨n, us, rfl, g, hx⟩ := hx
    obtain ⟨m, ws, rfl, g2, hy⟩ := hy
    split at e
    · rename_i hl; cases e
      refine ⟨us ++ ws, ?_, hx.append hy⟩
      show (match h.M[n]?, h.M[m]? with | some (.lst xs), some (.lst ys) => chk (decide (xs.length + ys.length ≤ sizeLine)) (new (.lst (xs ++ ys)) h.M) | _, _ => .stuck) = _
      rw [g, g2]
      exact chk_t (decide_eq_true (by rw [hx.length, hy.length]; omega))
    · cases e
  · cases hx; cases hy; cases e; exact ⟨_, rfl, .int _⟩
  · cases hx; cases hy
    split at e
    · rename_i hl; cases e; exact ⟨_, chk_t (decide_eq_true hl), .int _⟩
    · cases e
  · rename_i s t
    obtain ⟨n, us, rfl, g, hx⟩ := hx
    cases hy
    split at e
    · rename_i hl; cases e
      refine ⟨_, ?_, hx.rep t.toNat⟩
      show (match h.M[n]? with | some (.lst xs) => chk (decide (-(2 ^ 63) ≤ t ∧ t < 2 ^ 63 ∧ xs.length * t.toNat ≤ sizeLine)) (new (.lst (List.replicate t.toNat xs).flatten) h.M) | _ => .stuck) = _
      rw [g]
      exact chk_t (decide_eq_true ⟨by omega, by omega, by rw [hx.length]; omega⟩)
    · cases e
  · rename_i s t
    cases hx with
    | tup hx =>
      cases hy
      split at e
      · rename_i hl; cases e; exact ⟨_, chk_t (decide_eq_true (by rw [hx.length]; exact hl)), .tup (hx.rep t.toNat)⟩
      · cases e
  · cases hx; cases hy
    split at e
    · rename_i hl; cases e; exact ⟨_, chk_t (decide_eq_true hl), .int _⟩
    · cases e
  · cases hx; cases hy
    split at e
    · rename_i hl; cases e; exact ⟨_, chk_t (decide_eq_true hl), .int _⟩
    · cases e
  · cases hx; cases hy
    split at e
    · rename_i hl; cases e; exact ⟨_, chk_t (decide_eq_true hl), .int _⟩
    · cases e
  · cases e
theorem cin_pk {x y : Pv} {a b : Val} {r : Bool} (hx : Pk h x a) (hy : Pk h y b) (e : pcin x y = some r) : cin a b h.M = some r := by
  cases y with
  | tup ys => cases hy with | tup hy => exact vin_ok hx.tt (hy.mono (fun _ _ => rfl) fun _ _ => trivial) e
  | str s =>
    cases hy
    cases x with
    | str t => cases hx; exact e
    | _ => cases e
  | lst ys =>
    obtain ⟨n, us, rfl, g, hy⟩ := hy
    show (match h.M[n]? with | some (.lst ys) => vin h.M a ys | some (.rol ys) => vin h.M a ys | some (.dct kvs) => (if fits kvs a then some (dget kvs a).isSome else none) | _ => none) = _
    rw [g]
    exact vin_ok hx.tt (hy.mono (fun _ _ => rfl) fun _ _ => trivial) e
  | rol ys =>
    obtain ⟨n, us, rfl, g, hy⟩ := hy
    show (match h.M[n]? with | some (.lst ys) => vin h.M a ys | some (.rol ys) => vin h.M a ys | some (.dct kvs) => (if fits kvs a then some (dget kvs a).isSome else none) | _ => none) = _
    rw [g]
    exact vin_ok hx.tt (hy.mono (fun _ _ => rfl) fun _ _ => trivial) e
  | dct kvs =>
    obtain ⟨n, us, rfl, g, hy⟩ := hy
    show (match h.M[n]? with | some (.lst ys) => vin h.M a ys | some (.rol ys) => vin h.M a ys | some (.dct kvs) => (if fits kvs a then some (dget kvs a).isSome else none) | _ => none) = _
    rw [g]
    have e : (if pfits kvs x then some (pdget kvs x).isSome else none) = some r := e
    have hy := hy.mono (M' := h.M) (fun _ _ => rfl) (fun _ _ => (trivial : tt _))
    dsimp only
    rw [fits_den hy hx.tt]
    split at e
    · rename_i hf
      rw [if_pos hf]
      rcases dget_den hy hx.tt with ⟨v, u, e1, e2, _⟩ | ⟨e1, e2⟩ <;> (rw [e1] at e; rw [e2]; exact e)
    · cases e
  | _ => cases e
theorem cis_pk {x y : Pv} {a b : Val} {r : Bool} (hx : Pk h x a) (hy : Pk h y b) (e : pcis x y = some r) : cis a b = some r := by
  unfold pcis at e
  split at e
  · cases hy
    cases x with
    | non => cases hx; exact e
    | bl _ => cases hx; exact e
    | int _ => cases hx; exact e
    | str _ => cases hx; exact e
    | tup _ => cases hx; exact e
    | ty _ => cases hx; exact e
    | glo _ => cases hx; exact e
    | lst _ => obtain ⟨n, us, rfl, _⟩ := hx; exact e
    | rol _ => obtain ⟨n, us, rfl, _⟩ := hx; exact e
    | dct _ => obtain ⟨n, us, rfl, _⟩ := hx; exact e
    | ins _ _ => obtain ⟨n, us, rfl, _⟩ := hx; exact e
  · cases hx; cases hy; exact e
  · cases e
theorem cmp_pk {op : CmpOp} {x y : Pv} {a b : Val} {r : Bool} (hx : Pk h x a) (hy : Pk h y b) (e : pcmp op x y = some r) : cmpop op a b h.M = some r := by
  cases op with
  | Eq => exact veq_ok hx.tt hy.tt e
  | NotEq =>
    have e : (pveq x y).map (!·) = some r := e
    show (veq h.M a b).map (!·) = some r
    cases hv : pveq x y with
    | none => rw [hv] at e; cases e
    | some q => rw [hv] at e; rw [veq_ok hx.tt hy.tt hv]; exact e
  | Lt =>
    have e : (match (generalizing := false) x, y with | .int i, .int j => some (decide (i < j)) | _, _ => pvlt x y) = some r := e
    split at e
    · cases hx; cases hy; exact e
    · rename_i hn
      have := vlt_ok hx.tt hy.tt e
      show (match (generalizing := false) a, b with | .int i, .int j => some (decide (i < j)) | _, _ => vlt h.M a b) = _
      split
      · have h1 : ∃ i, x = .int i := by
          have hx := hx.tt
          cases hx; exact ⟨_, rfl⟩
        have h2 : ∃ i, y = .int i := by
          have hy := hy.tt
          cases hy; exact ⟨_, rfl⟩
        obtain ⟨i, rfl⟩ := h1
        obtain ⟨j, rfl⟩ := h2
        exact (hn i j rfl rfl).elim
      · exact this
  | LtE =>
    have e : (match (generalizing := false) x, y with | .int i, .int j => some (decide (i ≤ j)) | _, _ => none) = some r := e
    split at e
    · cases hx; cases hy; exact e
    · cases e
  | Gt =>
    have e : (match (generalizing := false) x, y with | .int i, .int j => some (decide (j < i)) | _, _ => none) = some r := e
    split at e
    · cases hx; cases hy; exact e
    · cases e
  | GtE =>
    have e : (match (generalizing := false) x, y with | .int i, .int j => some (decide (j ≤ i)) | _, _ => none) = some r := e
    split at e
    · cases hx; cases hy; exact e
    · cases e
  | Is => exact cis_pk hx hy e
  | IsNot =>
    have e : (pcis x y).map (!·) = some r := e
    show (cis a b).map (!·) = some r
    cases hv : pcis x y with
    | none => rw [hv] at e; cases e
    | some q => rw [hv] at e; rw [cis_pk hx hy hv]; exact e
  | In => exact cin_pk hx hy e
  | NotIn =>
    have e : (pcin x y).map (!·) = some r := e
    show (cin a b h.M).map (!·) = some r
    cases hv : pcin x y with
    | none => rw [hv] at e; cases e
    | some q => rw [hv] at e; rw [cin_pk hx hy hv]; exact e
theorem ixV_den {vs : List Pv} {us : List Val} {j : Int} {v : Pv} {M : Mem} {Z : Nat → Prop} (hd : Dens M Z vs us) (e : pixV vs j = some v) : ∃ u, ixV us j M = .ok u M ∧ Den M Z v u := by
  unfold pixV at e
  unfold ixV
  rw [hd.length]
  cases hk : ixOf j vs.length with
  | none => rw [hk] at e; cases e
  | some k =>
    rw [hk] at e
    obtain ⟨u, e1, e2⟩ := hd.get e
    exact ⟨u, by show ofO us[k]? M = _; rw [e1]; rfl, e2⟩
theorem sub_pk {x y v : Pv} {a b : Val} (hx : Pk h x a) (hy : Pk h y b) (e : psub x y = some v) : ∃ u, subs a b h.M = .ok u h.M ∧ Den h.M h.Z v u := by
  unfold psub at e
  split at e
  · cases hx with | tup hx => cases hy; exact ixV_den hx e
  · rename_i s j
    cases hx; cases hy
    split at e
    · rename_i k hk
      split at hk
      · rename_i hl
        cases hc : s.cps[k]? with
        | none => rw [hc] at e; cases e
        | some c =>
          rw [hc] at e; cases e
          refine ⟨.str ⟨#[c]⟩, ?_, .str _⟩
          show (match if s.length ≤ sizeLine then ixOf j s.length else none with | some k => ofO (s.cps[k]?.map fun c => Val.str ⟨#[c]⟩) h.M | none => .stuck) = _
          rw [if_pos (Nat.le_trans hl cap_line), hk]
          dsimp only
          rw [hc]; rfl
      · cases hk
    · cases e
  · rename_i j
    obtain ⟨n, us, rfl, g, hx⟩ := hx
    cases hy
    obtain ⟨u, e1, e2⟩ := ixV_den hx e
    refine ⟨u, ?_, e2⟩
    show (match h.M[n]? with | some (.lst vs) => ixV vs j h.M | some (.rol vs) => ixV vs j h.M | some (.dct kvs) => chk (fits kvs (.int j)) (ofO (dget kvs (.int j)) h.M) | _ => .stuck) = _
    rw [g]; exact e1
  · rename_i j
    obtain ⟨n, us, rfl, g, hx⟩ := hx
    cases hy
    obtain ⟨u, e1, e2⟩ := ixV_den hx e
    refine ⟨u, ?_, e2⟩
    show (match h.M[n]? with | some (.lst vs) => ixV vs j h.M | some (.rol vs) => ixV vs j h.M | some (.dct kvs) => chk (fits kvs (.int j)) (ofO (dget kvs (.int j)) h.M) | _ => .stuck) = _
    rw [g]; exact e1
  · rename_i kvs
    obtain ⟨n, us, rfl, g, hx⟩ := hx
    split at e
    · rename_i hf
      have hx2 := hx.mono (M' := h.M) (fun _ _ => rfl) (fun _ _ => (trivial : tt _))
      -- the key is a leaf or a tuple: it stands in the region
      have hk : Den h.M h.Z y b := by
        cases y with
        | lst _ => simp [pfits, pleafK, ptupK] at hf
        | rol _ => simp [pfits, pleafK, ptupK] at hf
        | dct _ => simp [pfits, pleafK, ptupK] at hf
        | ins _ _ => simp [pfits, pleafK, ptupK] at hf
        | non => exact hy
        | bl _ => exact hy
        | int _ => exact hy
        | str _ => exact hy
        | tup _ => exact hy
        | ty _ => exact hy
        | glo _ => exact hy
      rcases dget_den hx hk with ⟨v', u, e1, e2, e3⟩ | ⟨e1, e2⟩
      · rw [e1] at e; cases e
        refine ⟨u, ?_, e3⟩
        have hs : subs (.ref n) b h.M = chk (fits us b) (ofO (dget us b) h.M) := by
          unfold subs
          dsimp only
          rw [g]
        rw [hs, e2]
        exact chk_t (by rw [fits_den hx hk]; exact hf)
      · rw [e1] at e; cases e
    · cases e
  · cases e
theorem slice_pk {x : Pv} {a : Val} {l u : Option Int} {p : P} (hx : Pk h x a) (e : pslice x l u = some p) : Mk h p (sliceB a l u h.M) := by
  cases x with
  | tup vs => cases e; cases hx with | tup hx => exact ⟨_, rfl, .tup (hx.cut l u)⟩
  | lst vs =>
    cases e
    obtain ⟨n, us, rfl, g, hx⟩ := hx
    refine ⟨_, ?_, hx.cut l u⟩
    show (match h.M[n]? with | some (.lst vs) => new (.lst (cut vs l u)) h.M | some (.rol vs) => new (.lst (cut vs l u)) h.M | _ => .stuck) = _
    rw [g]; rfl
  | rol vs =>
    cases e
    obtain ⟨n, us, rfl, g, hx⟩ := hx
    refine ⟨_, ?_, hx.cut l u⟩
    show (match h.M[n]? with | some (.lst vs) => new (.lst (cut vs l u)) h.M | some (.rol vs) => new (.lst (cut vs l u)) h.M | _ => .stuck) = _
    rw [g]; rfl
  | _ => cases e
theorem revs_pk {x : Pv} {a : Val} {p : P} (hx : Pk h x a) (e : prevs x = some p) : Mk h p (sliceRev a h.M) := by
  cases x with
  | lst vs =>
    cases e
    obtain ⟨n, us, rfl, g, hx⟩ := hx
    refine ⟨_, ?_, hx.reverse⟩
    show (match h.M[n]? with | some (.lst vs) => new (.lst vs.reverse) h.M | _ => .stuck) = _
    rw [g]; rfl
  | _ => cases e
end
/-! ### sorts -/
mutual
def toVal : Pv → Val
  | .non => .non
  | .bl b => .bl b
  | .int i => .int i
  | .str s => .str s
  | .tup vs => .tup (toVals vs)
  | _ => .non
def toVals : List Pv → List Val
  | [] => []
  | v :: vs => toVal v :: toVals vs
end
theorem toVals_map : ∀ vs : List Pv, toVals vs = vs.map toVal
  | [] => rfl
  | v :: vs => by show toVal v :: toVals vs = _; rw [toVals_map vs]; rfl
section
variable {M : Mem} {Z : Nat → Prop}
mutual
theorem toVal_ok : ∀ {v : Pv} {u : Val}, Den M Z v u → ∀ (d : PyData), vdat 0 v = some d → u = toVal v ∧ dat rn u = some d
  | _, _, .non, _, e => by cases e; exact ⟨rfl, rfl⟩
  | _, _, .bl b, _, e => by cases e; exact ⟨rfl, rfl⟩
  | _, _, .int b, _, e => by cases e; exact ⟨rfl, rfl⟩
  | _, _, .str b, _, e => by cases e; exact ⟨rfl, rfl⟩
  | _, _, .ty b, _, e => by cases e
  | _, _, .glo b, _, e => by cases e
  | .tup vs, .tup us, .tup h, d, e => by
    have e : (vdats 0 vs).map PyData.tuple = some d := e
    cases hd : vdats 0 vs with
    | none => rw [hd] at e; cases e
    | some ds =>
      rw [hd] at e; cases e
      obtain ⟨e1, e2⟩ := toVals_ok h ds hd
      refine ⟨by subst e1; rfl, ?_⟩
      show (dats rn us).map PyData.tuple = _
      rw [e2]; rfl
  | _, _, .lst _ _ _, _, e => by cases e
  | _, _, .rol _ _ _, _, e => by cases e
  | _, _, .dct _ _ _, _, e => by cases e
  | _, _, .ins _ _ _, _, e => by cases e
theorem toVals_ok : ∀ {vs : List Pv} {us : List Val}, Dens M Z vs us → ∀ (ds : List PyData), vdats 0 vs = some ds → us = toVals vs ∧ dats rn us = some ds
  | _, _, .nil, _, e => by cases e; exact ⟨rfl, rfl⟩
  | v :: vs, u :: us, .cons a b, ds, e => by
    have e : (match vdat 0 v, vdats 0 vs with | some d, some ds => some (d :: ds) | _, _ => none) = some ds := e
    cases h1 : vdat 0 v with
    | none => rw [h1] at e; cases e
    | some d =>
      cases h2 : vdats 0 vs with
      | none => rw [h1, h2] at e; cases e
      | some es =>
        rw [h1, h2] at e; cases e
        obtain ⟨a1, a2⟩ := toVal_ok a d h1
        obtain ⟨b1, b2⟩ := toVals_ok b es h2
        refine ⟨by subst a1 b1; rfl, ?_⟩
        show (match dat rn u, dats rn us with | some d, some ds => some (d :: ds) | _, _ => none) = _
        rw [a2, b2]
end
theorem vdats_mem : ∀ {vs : List Pv} {ds : List PyData}, vdats 0 vs = some ds → ds = vs.map pvd ∧ ∀ v ∈ vs, vdat 0 v = some (pvd v)
  | [], _, e => by cases e; exact ⟨rfl, fun v hv => by cases hv⟩
  | v :: vs, ds, e => by
    have e : (match vdat 0 v, vdats 0 vs with | some d, some ds => some (d :: ds) | _, _ => none) = some ds := e
    cases h1 : vdat 0 v with
    | none => rw [h1] at e; cases e
    | some d =>
      cases h2 : vdats 0 vs with
      | none => rw [h1, h2] at e; cases e
      | some es =>
        rw [h1, h2] at e; cases e
        obtain ⟨a, b⟩ := vdats_mem h2
        have hv : pvd v = d := by unfold pvd; rw [h1]; rfl
        refine ⟨by rw [List.map_cons, hv, ← a], fun w hw => ?_⟩
        rcases List.mem_cons.mp hw with rfl | hw
        · rw [hv]; exact h1
        · exact b w hw
/-- values without references have one face -/
theorem den_face {vs : List Pv} {us : List Val} {ds : List PyData} (hd : Dens M Z vs us) (e : vdats 0 vs = some ds) : us = vs.map toVal ∧ dats rn us = some ds ∧ ∀ v ∈ vs, Den M Z v (toVal v) ∧ pd (toVal v) = pvd v := by
  obtain ⟨e1, e2⟩ := toVals_ok hd ds e
  rw [toVals_map] at e1
  refine ⟨e1, e2, fun v hv => ?_⟩
  obtain ⟨u, hu, hd2⟩ := hd.mem hv
  obtain ⟨a, b⟩ := toVal_ok hd2 _ ((vdats_mem e).2 v hv)
  rw [← a]
  refine ⟨hd2, ?_⟩
  unfold pd
  show (dat rn u).getD .none = _
  rw [b]; rfl
theorem vsort_ok {vs ws : List Pv} {us : List Val} (hd : Dens M Z vs us) (e : pvsort vs = some ws) : ∃ xs, vsort us = some xs ∧ Dens M Z ws xs := by
  unfold pvsort at e
  cases hv : vdats 0 vs with
  | none => rw [hv] at e; cases e
  | some ds =>
    rw [hv] at e
    dsimp only at e
    split at e
    · rename_i hs
      cases e
      rw [Bool.and_eq_true, decide_eq_true_eq] at hs
      obtain ⟨e1, e2, e3⟩ := den_face hd hv
      have hm : msrt pvle vs.length vs = vs.mergeSort pvle := msrt_eq pvle _ vs (Nat.le_refl _)
      refine ⟨(vs.mergeSort pvle).map toVal, ?_, ?_⟩
      · rw [vsort_def]
        show (match dats rn us with | some ds => if sortable ds && decide (us.length ≤ sizeLine) then some (us.mergeSort vle) else none | none => none) = _
        rw [e2]
        dsimp only
        rw [hs.1, decide_eq_true (show us.length ≤ sizeLine by rw [hd.length]; exact Nat.le_trans hs.2 cap_line)]
        rw [e1]
        rw [List.map_mergeSort (s := vle) fun a ha b hb => ?_]
        · rfl
        · unfold pvle vle PySem.W.dataLe PySem.W.sortLe
          dsimp only
          rw [(e3 a ha).2, (e3 b hb).2]
      · rw [hm]
        refine Dens.of_get (by simp) fun i v u h1 h2 => ?_
        rw [List.getElem?_map, h1] at h2
        cases h2
        exact (e3 v ((List.mergeSort_perm vs pvle).mem_iff.mp (List.mem_of_getElem? h1))).1
    · cases e
theorem alikes_ok {vs : List Pv} {us : List Val} (hd : Dens M Z vs us) (e : palikes vs = true) : alikes us = true ∧ us = vs.map toVal ∧ ∀ v ∈ vs, Den M Z v (toVal v) ∧ pd (toVal v) = pvd v := by
  unfold palikes at e
  cases hv : vdats 0 vs with
  | none => rw [hv] at e; cases e
  | some ds =>
    rw [hv] at e
    obtain ⟨e1, e2, e3⟩ := den_face hd hv
    refine ⟨?_, e1, e3⟩
    show (match dats rn us with | some ds => sortable ds | none => false) = true
    rw [e2]; exact e
theorem vmin_ok {vs : List Pv} {us : List Val} {w : Pv} (hd : Dens M Z vs us) (e : palikes vs = true) (e2 : pvmin vs = some w) : ∃ u, vmin us = some u ∧ Den M Z w u := by
  obtain ⟨_, rfl, e3⟩ := alikes_ok hd e
  cases vs with
  | nil => cases e2
  | cons v vs =>
    cases e2
    have go : ∀ (l : List Pv) (m : Pv), (∀ v ∈ m :: l, Den M Z v (toVal v) ∧ pd (toVal v) = pvd v) → (l.map toVal).foldl (fun m x => if PySem.W.dataLt (pd x) (pd m) then x else m) (toVal m) = toVal (l.foldl (fun m x => if PySem.W.dataLt (pvd x) (pvd m) then x else m) m) ∧ l.foldl (fun m x => if PySem.W.dataLt (pvd x) (pvd m) then x else m) m ∈ m :: l := by
      intro l
      induction l with
      | nil => intro m _; exact ⟨rfl, List.mem_cons_self⟩
      | cons x l ih =>
        intro m hm
        have hx := hm x (by simp)
        have h0 := hm m (by simp)
        simp only [List.map_cons, List.foldl_cons]
        rw [hx.2, h0.2]
        split
        · obtain ⟨a, b⟩ := ih x fun v hv => hm v (List.mem_cons_of_mem _ hv)
          exact ⟨a, List.mem_cons_of_mem _ b⟩
        · obtain ⟨a, b⟩ := ih m fun v hv => hm v (by rcases List.mem_cons.mp hv with rfl | hv <;> simp [*])
          exact ⟨a, by rcases List.mem_cons.mp b with b | b <;> simp [b]⟩
    obtain ⟨a, b⟩ := go vs v e3
    exact ⟨_, congrArg some a, (e3 _ b).1⟩
theorem vmax_ok {vs : List Pv} {us : List Val} {w : Pv} (hd : Dens M Z vs us) (e : palikes vs = true) (e2 : pvmax vs = some w) : ∃ u, vmax us = some u ∧ Den M Z w u := by
  obtain ⟨_, rfl, e3⟩ := alikes_ok hd e
  cases vs with
  | nil => cases e2
  | cons v vs =>
    cases e2
    have go : ∀ (l : List Pv) (m : Pv), (∀ v ∈ m :: l, Den M Z v (toVal v) ∧ pd (toVal v) = pvd v) → (l.map toVal).foldl (fun m x => if PySem.W.dataLt (pd m) (pd x) then x else m) (toVal m) = toVal (l.foldl (fun m x => if PySem.W.dataLt (pvd m) (pvd x) then x else m) m) ∧ l.foldl (fun m x => if PySem.W.dataLt (pvd m) (pvd x) then x else m) m ∈ m :: l := by
      intro l
      induction l with
      | nil => intro m _; exact ⟨rfl, List.mem_cons_self⟩
      | cons x l ih =>
        intro m hm
        have hx := hm x (by simp)
        have h0 := hm m (by simp)
        simp only [List.map_cons, List.foldl_cons]
        rw [hx.2, h0.2]
        split
        · obtain ⟨a, b⟩ := ih x fun v hv => hm v (List.mem_cons_of_mem _ hv)
          exact ⟨a, List.mem_cons_of_mem _ b⟩
        · obtain ⟨a, b⟩ := ih m fun v hv => hm v (by rcases List.mem_cons.mp hv with rfl | hv <;> simp [*])
          exact ⟨a, by rcases List.mem_cons.mp b with b | b <;> simp [b]⟩
    obtain ⟨a, b⟩ := go vs v e3
    exact ⟨_, congrArg some a, (e3 _ b).1⟩
end
section
variable {h : Hs}
theorem bmin_pk {xs : List Pv} {us : List Val} {p : P} (d : Pks h xs us) (e : pbmin xs = some p) : Mk h p (bmin us h.M) := by
  unfold pbmin at e
  split at e
  · rename_i x
    cases d with | @cons _ u _ _ a b => cases b with | nil =>
    split at e
    · rename_i vs hs
      split at e
      · rename_i ha
        cases hm : pvmin vs with
        | none => rw [hm] at e; cases e
        | some w =>
          rw [hm] at e; cases e
          obtain ⟨ws, e1, e2⟩ := seq_pk a hs
          obtain ⟨x1, e3, e4⟩ := vmin_ok e2 ha hm
          refine ⟨x1, ?_, e4⟩
          show (match seqOf h.M u with | some vs => chk (alikes vs) (ofO (vmin vs) h.M) | none => .stuck) = _
          rw [e1]
          dsimp only
          rw [chk_t (alikes_ok e2 ha).1, e3]; rfl
      · cases e
    · cases e
  · cases d with | cons a b => cases b with | cons b c => cases c with | nil =>
    cases a; cases b; cases e
    exact ⟨_, rfl, .int _⟩
  · cases e
theorem bmax_pk {xs : List Pv} {us : List Val} {p : P} (d : Pks h xs us) (e : pbmax xs = some p) : Mk h p (bmax us h.M) := by
  unfold pbmax at e
  split at e
  · rename_i x
    cases d with | @cons _ u _ _ a b => cases b with | nil =>
    split at e
    · rename_i vs hs
      split at e
      · rename_i ha
        cases hm : pvmax vs with
        | none => rw [hm] at e; cases e
        | some w =>
          rw [hm] at e; cases e
          obtain ⟨ws, e1, e2⟩ := seq_pk a hs
          obtain ⟨x1, e3, e4⟩ := vmax_ok e2 ha hm
          refine ⟨x1, ?_, e4⟩
          show (match seqOf h.M u with | some vs => chk (alikes vs) (ofO (vmax vs) h.M) | none => .stuck) = _
          rw [e1]
          dsimp only
          rw [chk_t (alikes_ok e2 ha).1, e3]; rfl
      · cases e
    · cases e
  · cases d with | cons a b => cases b with | cons b c => cases c with | nil =>
    cases a; cases b; cases e
    exact ⟨_, rfl, .int _⟩
  · cases e
theorem bcall_pk {f : BF} {xs : List Pv} {us : List Val} {p : P} (d : Pks h xs us) (e : pbcall f xs = some p) : Mk h p (bcall f us h.M) := by
  unfold pbcall at e
  split at e
  · cases d with | @cons _ u _ _ a b => cases b with | nil =>
    rename_i x
    cases hl : plen x with
    | none => rw [hl] at e; cases e
    | some n =>
      rw [hl] at e; cases e
      exact ⟨.int n, by unfold bcall; dsimp only; rw [len_pk a hl]; rfl, .int _⟩
  · cases d with | cons a b => cases b with | nil => cases a; cases e; exact ⟨_, rfl, .int _⟩
  · cases d with | cons a b => cases b with | nil => cases a; cases e; exact ⟨_, rfl, .int _⟩
  · cases d with | cons a b => cases b with | nil => cases a; cases e; exact ⟨_, rfl, .int _⟩
  · exact bmin_pk d e
  · exact bmax_pk d e
  · cases d with | @cons x u _ _ a b => cases b with | nil =>
    split at e
    · rename_i vs hs
      obtain ⟨ws, e1, e2⟩ := lst_pk a hs
      cases hi : pints vs with
      | none => rw [hi] at e; cases e
      | some is =>
        rw [hi] at e; cases e
        refine ⟨.int is.sum, ?_, .int _⟩
        show (match lstOf h.M u with | some vs => ofO ((intsOf vs).map fun is : List Int => Val.int is.sum) h.M | none => .stuck) = _
        rw [e1]; dsimp only; rw [pints_ok e2 hi]; rfl
    · cases e
  · cases d with | @cons x u _ _ a b => cases b with | nil =>
    split at e
    · rename_i vs hs
      obtain ⟨ws, e1, e2⟩ := lst_pk a hs
      cases hi : pbools vs with
      | none => rw [hi] at e; cases e
      | some is =>
        rw [hi] at e; cases e
        refine ⟨.bl (is.all id), ?_, .bl _⟩
        show (match lstOf h.M u with | some vs => ofO ((boolsOf vs).map fun bs : List Bool => Val.bl (bs.all id)) h.M | none => .stuck) = _
        rw [e1]; dsimp only; rw [pbools_ok e2 hi]; rfl
    · cases e
  · cases d with | @cons x u _ _ a b => cases b with | nil =>
    split at e
    · rename_i vs hs
      obtain ⟨ws, e1, e2⟩ := lst_pk a hs
      cases hi : pbools vs with
      | none => rw [hi] at e; cases e
      | some is =>
        rw [hi] at e; cases e
        refine ⟨.bl (is.any id), ?_, .bl _⟩
        show (match lstOf h.M u with | some vs => ofO ((boolsOf vs).map fun bs : List Bool => Val.bl (bs.any id)) h.M | none => .stuck) = _
        rw [e1]; dsimp only; rw [pbools_ok e2 hi]; rfl
    · cases e
  · cases d with | @cons x u _ _ a b => cases b with | nil =>
    split at e
    · rename_i vs hs
      obtain ⟨ws, e1, e2⟩ := lst_pk a hs
      cases hi : pvsort vs with
      | none => rw [hi] at e; cases e
      | some is =>
        rw [hi] at e; cases e
        obtain ⟨xs, e3, e4⟩ := vsort_ok e2 hi
        refine ⟨xs, ?_, e4⟩
        show (match lstOf h.M u with | some vs => (match vsort vs with | some ws => new (.lst ws) h.M | none => .stuck) | none => .stuck) = _
        rw [e1]; dsimp only; rw [e3]; rfl
    · cases e
  · rename_i x
    cases d with | @cons _ u _ _ a b => cases b with | nil =>
    cases hs : pitems x with
    | none => rw [hs] at e; cases e
    | some vs =>
      rw [hs] at e; cases e
      obtain ⟨ws, e1, e2⟩ := items_pk a hs
      refine ⟨ws, ?_, e2⟩
      show (match itemsOf h.M u with | some vs => new (.lst vs) h.M | none => .stuck) = _
      rw [e1]; rfl
  · rename_i x
    cases d with | @cons _ u _ _ a b => cases b with | nil =>
    cases hs : pseq x with
    | none => rw [hs] at e; cases e
    | some vs =>
      rw [hs] at e; cases e
      obtain ⟨ws, e1, e2⟩ := seq_pk a hs
      refine ⟨.tup ws, ?_, .tup e2⟩
      show (match seqOf h.M u with | some vs => Res.ok (Val.tup vs) h.M | none => .stuck) = _
      rw [e1]
  · cases d with | cons a b => cases b with | nil =>
    cases a
    split at e
    · rename_i hl; cases e; exact ⟨_, chk_t (decide_eq_true hl), .str _⟩
    · cases e
  · cases d with | @cons x u _ _ a b => cases b with | nil =>
    split at e
    · rename_i d hd
      split at e
      · rename_i hs
        cases e
        refine ⟨.str d.shown, ?_, .str _⟩
        show (match datM h.M u with | some d => chk (shownOk d) (Res.ok (Val.str d.shown) h.M) | none => .stuck) = _
        rw [datM_v a.tt hd]
        exact chk_t hs
      · cases e
    · cases e
  · cases d with | @cons x u _ _ a b => cases b with | nil =>
    split at e
    · rename_i vs hs
      obtain ⟨ws, e1, e2⟩ := seq_pk a hs
      cases hp : ppairs vs with
      | none => rw [hp] at e; cases e
      | some ps =>
        rw [hp] at e
        obtain ⟨qs, e3, e4⟩ := ppairs_ok e2 hp
        cases hq : pdputs [] ps with
        | none => rw [show (some ps).bind (pdputs []) = pdputs [] ps from rfl, hq] at e; cases e
        | some r =>
          rw [show (some ps).bind (pdputs []) = pdputs [] ps from rfl, hq] at e; cases e
          obtain ⟨q2, e5, e6⟩ := dputs_den .nil e4 hq
          refine ⟨q2, ?_, e6⟩
          show (match seqOf h.M u with | some vs => (match (pairsOf vs).bind (dputs []) with | some kvs => new (.dct kvs) h.M | none => .stuck) | none => .stuck) = _
          rw [e1]; dsimp only; rw [e3]
          show (match dputs [] qs with | some kvs => new (.dct kvs) h.M | none => .stuck) = _
          rw [e5]; rfl
    · cases e
  · rename_i x t
    cases d with | @cons _ u _ _ a b => cases b with | cons b c => cases c with | nil =>
    cases b
    cases hn : ptyName x with
    | none => rw [hn] at e; cases e
    | some n =>
      rw [hn] at e
      cases hi : isTy n t with
      | none => rw [show (some n).bind (fun a => isTy a t) = isTy n t from rfl, hi] at e; cases e
      | some r =>
        rw [show (some n).bind (fun a => isTy a t) = isTy n t from rfl, hi] at e; cases e
        refine ⟨.bl r, ?_, .bl _⟩
        show ofO ((isA h.M u t).map Val.bl) h.M = _
        unfold isA
        rw [ty_pk a hn]
        show ofO ((isTy n t).map Val.bl) h.M = _
        rw [hi]; rfl
  · cases e
/-! ### sources -/
theorem pirange_den {M : Mem} {Z : Nat → Prop} : ∀ (n : Nat) (lo : Int), Dens M Z (pirange lo n) (irange lo n)
  | 0, _ => .nil
  | n + 1, lo => .cons (.int lo) (pirange_den n (lo + 1))
theorem pirangeC_den {M : Mem} {Z : Nat → Prop} (c : Int) : ∀ (n : Nat) (lo : Int), Dens M Z (pirangeC lo c n) (irangeC lo c n)
  | 0, _ => .nil
  | n + 1, lo => .cons (.int lo) (pirangeC_den c n (lo + c))
theorem prange_ok {M : Mem} {Z : Nat → Prop} {vs l : List Pv} {us : List Val} (d : Dens M Z vs us) (e : prangeOf vs = some l) : ∃ xs, rangeOf us = some xs ∧ Dens M Z l xs := by
  unfold prangeOf at e
  split at e
  · cases d with | cons a b => cases b with | nil =>
    cases a
    split at e
    · rename_i hs; cases e; exact ⟨_, if_pos hs, pirange_den _ _⟩
    · cases e
  · cases d with | cons a b => cases b with | cons b c => cases c with | nil =>
    cases a; cases b
    split at e
    · rename_i hs; cases e; exact ⟨_, if_pos hs, pirange_den _ _⟩
    · cases e
  · cases d with | cons a b => cases b with | cons b c => cases c with | cons c d => cases d with | nil =>
    cases a; cases b; cases c
    split at e
    · rename_i hs; cases e; exact ⟨_, if_pos hs, pirangeC_den _ _ _⟩
    · cases e
  · cases e
end
end Mn.Pn
end -- Pn4
section -- Pn5
set_option linter.all false
set_option autoImplicit false
set_option maxRecDepth 100000
/-! Calls: what is handed in, what comes back. -/
namespace Mn.Pn
open PySem L2
section
variable {B : Nat → Prop} {h h' : Hs} {ρ ρ' : PEnv} {σ : Env}
/-- a slot takes a value -/
theorem Inv.put (I : Inv B h ρ σ) {i : Nat} {p : P} {u : Val} (hs : σ[i]? = some (some u)) (r : RelP B h p u) :
    ∃ h', h'.M = h.M ∧ h'.Z = h.Z ∧ Inv B h' (ρ.set i (some p)) σ ∧ ∀ j n, h'.A j = some n → h.A j = some n ∨ (p.isF = false ∧ u = .ref n ∧ j = i) := by
  cases hf : p.isF with
  | true =>
    obtain ⟨v, rfl, d⟩ := r.fz hf
    refine ⟨h, rfl, rfl, ⟨by rw [List.length_set]; exact I.len, I.bl, I.zl, I.ow, I.inj, fun j q hq => ?_⟩, fun j n z => .inl z⟩
    rcases getElem?_set_cases hq with ⟨rfl, hq, _⟩ | ⟨_, hq⟩
    · cases hq; exact ⟨u, hs, d⟩
    · exact I.sl j q hq
  | false =>
    obtain ⟨n, rfl, o, h1, h2, h3, h4⟩ := r.own hf
    refine ⟨⟨h.Z, fun j => if j = i then some n else h.A j, h.M⟩, rfl, rfl, ⟨by rw [List.length_set]; exact I.len, I.bl, I.zl, fun j m z => ?_, fun j k m z1 z2 => ?_, fun j q hq => ?_⟩, fun j m z => ?_⟩
    · have z : (if j = i then some n else h.A j) = some m := z
      split at z
      · cases z; exact ⟨h1, h2, h3⟩
      · exact I.ow j m z
    · have z1 : (if j = i then some n else h.A j) = some m := z1
      have z2 : (if k = i then some n else h.A k) = some m := z2
      by_cases e1 : j = i
      · rw [if_pos e1] at z1; cases z1
        by_cases e2 : k = i
        · rw [e1, e2]
        · rw [if_neg e2] at z2; exact (h4 k z2).elim
      · rw [if_neg e1] at z1
        by_cases e2 : k = i
        · rw [if_pos e2] at z2; cases z2; exact (h4 j z1).elim
        · rw [if_neg e2] at z2; exact I.inj j k m z1 z2
    · rcases getElem?_set_cases hq with ⟨rfl, hq, _⟩ | ⟨hj, hq⟩
      · cases hq
        refine ⟨_, hs, ?_⟩
        show Slot _ (if j = j then some n else h.A j) p _
        rw [if_pos rfl]
        exact Slot.of (o.move rfl (fun _ _ => rfl) fun _ z => z)
      · obtain ⟨w, e3, s2⟩ := I.sl j q hq
        refine ⟨w, e3, ?_⟩
        show Slot _ (if j = i then some n else h.A j) q w
        rw [if_neg hj]
        cases hp2 : q.isF with
        | true => obtain ⟨v, rfl, d⟩ := s2.fzd hp2; exact d
        | false =>
          obtain ⟨k, rfl, e4, o2⟩ := s2.own hp2
          rw [e4]; exact Slot.of (o2.move rfl (fun _ _ => rfl) fun _ z => z)
    · have z : (if j = i then some n else h.A j) = some m := z
      split at z
      · rename_i e; cases z; exact .inr ⟨rfl, rfl, e⟩
      · exact .inl z
/-- a slot is forgotten -/
theorem Inv.out (I : Inv B h ρ σ) (i : Nat) : Inv B h (ρ.set i none) σ := ⟨by rw [List.length_set]; exact I.len, I.bl, I.zl, I.ow, I.inj, fun j q hq => by
  rcases getElem?_set_cases hq with ⟨_, hq, _⟩ | ⟨_, hq⟩
  · cases hq
  · exact I.sl j q hq⟩
theorem Inv.outσ (I : Inv B h ρ σ) (i : Nat) (o : Option Val) : Inv B h (ρ.set i none) (σ.set i o) := ⟨by rw [List.length_set, List.length_set]; exact I.len, I.bl, I.zl, I.ow, I.inj, fun j q hq => by
  rcases getElem?_set_cases hq with ⟨_, hq, _⟩ | ⟨hj, hq⟩
  · cases hq
  · obtain ⟨u, e, s⟩ := I.sl j q hq
    exact ⟨u, by rw [List.getElem?_set_ne (fun z => hj z.symm)]; exact e, s⟩⟩
theorem set_twice {α : Type} (l : List α) (i : Nat) (a b : α) : (l.set i a).set i b = l.set i b := by rw [List.set_set]
theorem Inv.asg (I : Inv B h ρ σ) {i : Nat} {p : P} {u : Val} (hi : i < ρ.length) (r : RelP B h p u) :
    ∃ h', h'.M = h.M ∧ h'.Z = h.Z ∧ Inv B h' (ρ.set i (some p)) (σ.set i (some u)) ∧ ∀ j n, h'.A j = some n → h.A j = some n ∨ (p.isF = false ∧ u = .ref n ∧ j = i) := by
  have := (I.outσ i (some u)).put (i := i) (p := p) (u := u) (by rw [List.getElem?_set_self (by rw [← I.len]; exact hi)]) r
  rw [set_twice] at this
  exact this
theorem RelR.more {n : Nat} (hn : ∃ i, h.A i = some n) : ∀ {rs : List R} {us : List Val} {B : Nat → Prop}, RelRs B h σ rs us → RelRs (fun m => B m ∨ m = n) h σ rs us
  | [], [], _, _ => trivial
  | r :: rs, u :: us, B, x => by
    refine ⟨?_, (RelR.more hn x.2).weak fun m z => by
      rcases z with (z | z) | z
      · exact .inl (.inl z)
      · exact .inr z
      · exact .inl (.inr z)⟩
    cases r with
    | al i => exact x.1
    | v p =>
      cases e : p.isF with
      | true => obtain ⟨v, rfl, d⟩ := RelP.fz x.1 e; exact d
      | false =>
        obtain ⟨m, rfl, o, h1, h2, h3, h4⟩ := RelP.own x.1 e
        exact RelP.of o (fun z => z.elim h1 fun z => by obtain ⟨i, hi⟩ := hn; exact h4 i (by rw [z]; exact hi)) h2 h3 h4
  | [], _ :: _, _, x => x.elim
  | _ :: _, [], _, x => x.elim
/-- what is handed in -/
def LArgs (B : Nat → Prop) (h : Hs) (σ : Env) (ρ : PEnv) : List (P × Option Nat) → List Val → Prop
  | [], [] => True
  | q :: l, u :: us => RelP B h q.1 u ∧ (∀ i, q.2 = some i → σ[i]? = some (some u) ∧ ρ[i]? = some none) ∧ LArgs (bxP B q.1 u) h σ ρ l us
  | _, _ => False
theorem LArgs.weak : ∀ {l : List (P × Option Nat)} {us : List Val} {B B1 : Nat → Prop}, LArgs B1 h σ ρ l us → (∀ n, B n → B1 n) → LArgs B h σ ρ l us
  | [], [], _, _, _, _ => trivial
  | r :: rs, u :: us, _, _, x, w => ⟨x.1.weak w, x.2.1, LArgs.weak x.2.2 (bxP_mono w)⟩
  | [], _ :: _, _, _, x, _ => x.elim
  | _ :: _, [], _, _, x, _ => x.elim
theorem tk_none {r : R} {v : Pv} {i : Nat} (e : tk r ρ = .ok v ρ') (hi : ρ[i]? = some none) : ρ'[i]? = some none := by
  cases r with
  | v p => cases e; exact hi
  | al j =>
    have e : (match ρ[j]? with | some (some p) => PO.ok p.view (if p.isF then ρ else ρ.set j (some (.fz p.view))) | _ => .stuck) = .ok v ρ' := e
    cases hp : ρ[j]? with
    | none => rw [hp] at e; cases e
    | some q =>
      cases q with
      | none => rw [hp] at e; cases e
      | some p =>
        rw [hp] at e
        simp only [PO.ok.injEq] at e
        obtain ⟨_, rfl⟩ := e
        split
        · exact hi
        · rw [List.getElem?_set_ne]
          · exact hi
          · intro z; subst z; rw [hp] at hi; cases hi
theorem lendA_none {i : Nat} : ∀ {rs : List R} {bs : List Bool} {ρ ρ' : PEnv} {l : List (P × Option Nat)}, lendA rs bs ρ = .ok l ρ' → ρ[i]? = some none → ρ'[i]? = some none
  | [], _, _, _, _, e, hi => by cases e; exact hi
  | r :: rs, bs, ρ, ρ', l, e, hi => by
    unfold lendA at e
    split at e
    · obtain ⟨v, ρ1, e1, e⟩ := PO.bind_inv e
      obtain ⟨w, ρ2, e2, e⟩ := PO.bind_inv e
      cases e
      exact lendA_none e2 (tk_none e1 hi)
    · split at e
      · obtain ⟨w, ρ2, e2, e⟩ := PO.bind_inv e
        cases e
        exact lendA_none e2 hi
      · split at e
        · split at e
          · obtain ⟨w, ρ2, e2, e⟩ := PO.bind_inv e
            cases e
            exact lendA_none e2 hi
          · obtain ⟨w, ρ2, e2, e⟩ := PO.bind_inv e
            cases e
            refine lendA_none e2 ?_
            rename_i j _ p hp _
            by_cases z : j = i
            · subst z; rw [hp] at hi; cases hi
            · rw [List.getElem?_set_ne z]; exact hi
        · cases e
theorem fz_bxP {v : Pv} {u : Val} : ∀ n, bxP B (.fz v) u n → B n := fun n z => z.elim id fun z => by cases z.1
theorem Inv.fzI {N : Nat → Prop} (f : Fz B h h' N) (I : Inv B h ρ σ) : True := trivial
theorem lendA_ok : ∀ {rs : List R} {us : List Val} {bs : List Bool} {l : List (P × Option Nat)} {B : Nat → Prop} {h : Hs} {ρ ρ1 : PEnv}, Inv B h ρ σ → RelRs B h σ rs us → lendA rs bs ρ = .ok l ρ1 →
    ∃ h1, h1.M = h.M ∧ Stp B h h1 ∧ Inv B h1 ρ1 σ ∧ LArgs B h1 σ ρ1 l us
  | [], [], _, _, _, h, _, _, I, _, e => by cases e; exact ⟨h, rfl, .refl, I, trivial⟩
  | r :: rs, u :: us, bs, l, B, h, ρ, ρ1, I, x, e => by
    unfold lendA at e
    split at e
    · obtain ⟨v, ρ2, e1, e⟩ := PO.bind_inv e
      obtain ⟨w, ρ3, e2, e⟩ := PO.bind_inv e
      cases e
      obtain ⟨h1, f1, I1, d1⟩ := tk_ok I x.1 e1
      have x2 := (x.2.fzs f1 fun n z => .inr z).weak (B := B) fun n z => .inl z
      obtain ⟨h2, m2, s2, I2, l2⟩ := lendA_ok I1 x2 e2
      exact ⟨h2, m2.trans f1.m, (f1.stp I (fresh_nb x.1)).trans s2, I2, d1.stp s2, (fun i z => by cases z), l2.weak fz_bxP⟩
    · split at e
      · rename_i p
        obtain ⟨w, ρ3, e2, e⟩ := PO.bind_inv e
        cases e
        have w1 : ∀ n, bxP B p u n → bx B (.v p) u n := fun n z => z.imp id fun z => ⟨by simp [R.fresh, z.1], z.2⟩
        obtain ⟨h2, m2, s2, I2, l2⟩ := lendA_ok (I.bxP x.1) (x.2.weak w1) e2
        exact ⟨h2, m2, s2.weak bxP_l, I2.weak bxP_l, RelP.stp x.1 s2 I2, (fun i z => by cases z), l2⟩
      · rename_i i
        split at e
        · rename_i p hp
          obtain ⟨u', e0, s⟩ := I.sl i p hp
          have hu : σ[i]? = some (some u) := x.1
          rw [hu] at e0; cases e0
          split at e
          · rename_i hf
            obtain ⟨w, ρ3, e2, e⟩ := PO.bind_inv e
            cases e
            obtain ⟨v, rfl, d⟩ := s.fzd hf
            obtain ⟨h2, m2, s2, I2, l2⟩ := lendA_ok I (x.2.weak fun n z => .inl z) e2
            exact ⟨h2, m2, s2, I2, d.stp s2, (fun i z => by cases z), l2.weak fz_bxP⟩
          · rename_i hf
            have hf : p.isF = false := by simpa using hf
            obtain ⟨w, ρ3, e2, e⟩ := PO.bind_inv e
            cases e
            obtain ⟨n, rfl, ea, o⟩ := s.own hf
            obtain ⟨a1, a2, a3⟩ := I.ow i n ea
            let h0 : Hs := ⟨h.Z, fun j => if j = i then none else h.A j, h.M⟩
            have f0 : Fz B h h0 (fun _ => False) := ⟨rfl, fun _ z => z, fun _ z => .inl z, fun j m z => by
              have z : (if j = i then none else h.A j) = some m := z
              split at z
              · cases z
              · exact z⟩
            have I0 : Inv B h0 (ρ.set i none) σ := by
              refine ⟨by rw [List.length_set]; exact I.len, I.bl, I.zl, fun j m z => I.ow j m (f0.a j m z), fun j k m z1 z2 => I.inj j k m (f0.a j m z1) (f0.a k m z2), fun j q hq => ?_⟩
              rcases getElem?_set_cases hq with ⟨_, hq, _⟩ | ⟨hj, hq⟩
              · cases hq
              · obtain ⟨u2, e3, s3⟩ := I.sl j q hq
                refine ⟨u2, e3, ?_⟩
                show Slot h0 (if j = i then none else h.A j) q u2
                rw [if_neg hj]
                cases hp2 : q.isF with
                | true => obtain ⟨v, rfl, d⟩ := s3.fzd hp2; exact d
                | false =>
                  obtain ⟨k, rfl, e4, o2⟩ := s3.own hp2
                  rw [e4]; exact Slot.of (o2.move rfl (fun _ _ => rfl) fun _ z => z)
            have r0 : RelP B h0 p (.ref n) := .of (o.move rfl (fun _ _ => rfl) fun _ z => z) a1 a2 a3 fun j z => by
              have z : (if j = i then none else h.A j) = some n := z
              by_cases hj : j = i
              · rw [if_pos hj] at z; cases z
              · rw [if_neg hj] at z; exact hj (I.inj j i n z ea)
            have w1 : ∀ m, bxP B p (.ref n) m → (B m ∨ m = n) := fun m z => z.imp id fun z => by cases z.2; rfl
            have x2 : RelRs (bxP B p (.ref n)) h0 σ rs us := ((RelR.more ⟨i, ea⟩ (x.2.weak fun n z => .inl z)).fzs f0 fun _ z => z.elim).weak w1
            obtain ⟨h2, m2, s2, I2, l2⟩ := lendA_ok (I0.bxP r0) x2 e2
            have hil : i < ρ.length := (List.getElem?_eq_some_iff.mp hp).1
            refine ⟨h2, m2, ?_, I2.weak bxP_l, RelP.stp r0 s2 I2, fun j z => ?_, l2⟩
            · exact (Stp.mk (Nat.le_refl _) (fun _ _ => rfl) (fun _ z => z) (fun _ _ => rfl) (fun _ _ z => .inl z) : Stp B h h0).trans (s2.weak bxP_l)
            · cases z
              exact ⟨hu, lendA_none e2 (by rw [List.getElem?_set_self hil])⟩
        · cases e
  | [], _ :: _, _, _, _, _, _, _, _, x, _ => x.elim
  | _ :: _, [], _, _, _, _, _, _, _, x, _ => x.elim
theorem LArgs.length : ∀ {l : List (P × Option Nat)} {us : List Val} {B : Nat → Prop}, LArgs B h σ ρ l us → us.length = l.length
  | [], [], _, _ => rfl
  | r :: rs, u :: us, _, x => by simp [LArgs.length x.2.2]
  | [], _ :: _, _, x => x.elim
  | _ :: _, [], _, x => x.elim
theorem LArgs.get : ∀ {l : List (P × Option Nat)} {us : List Val} {B : Nat → Prop} {j : Nat} {q : P × Option Nat}, LArgs B h σ ρ l us → l[j]? = some q → ∃ u, us[j]? = some u ∧ RelP B h q.1 u ∧ ∀ i, q.2 = some i → σ[i]? = some (some u) ∧ ρ[i]? = some none
  | [], [], _, j, q, _, e => by simp at e
  | r :: rs, u :: us, _, 0, q, x, e => by simp at e; subst e; exact ⟨u, rfl, x.1, x.2.1⟩
  | r :: rs, u :: us, _, j + 1, q, x, e => by
    obtain ⟨w, e1, e2, e3⟩ := LArgs.get x.2.2 (j := j) (q := q) (by simpa using e)
    exact ⟨w, by simpa using e1, e2.weak bxP_l, e3⟩
  | [], _ :: _, _, _, _, x, _ => x.elim
  | _ :: _, [], _, _, _, x, _ => x.elim
def addrOf (p : P) (u : Val) : Option Nat := match p.isF, u with | false, .ref n => some n | _, _ => none
theorem addrOf_inv {p : P} {u : Val} {n : Nat} (e : addrOf p u = some n) : p.isF = false ∧ u = .ref n := by
  unfold addrOf at e
  split at e
  · cases e; exact ⟨‹_›, rfl⟩
  · cases e
theorem LArgs.inj : ∀ {l : List (P × Option Nat)} {us : List Val} {B : Nat → Prop} {j k n : Nat} {q q' : P × Option Nat}, LArgs B h σ ρ l us → l[j]? = some q → l[k]? = some q' → us[j]? = some (.ref n) → us[k]? = some (.ref n) → q.1.isF = false → q'.1.isF = false → j = k
  | [], [], _, j, _, _, q, _, _, e, _, _, _, _, _ => by simp at e
  | r :: rs, u :: us, B, 0, 0, n, q, q', _, _, _, _, _, _, _ => rfl
  | r :: rs, u :: us, B, 0, k + 1, n, q, q', x, e1, e2, e3, e4, f1, f2 => by
    simp at e1 e3
    subst e1 e3
    obtain ⟨w, g1, g2, _⟩ := LArgs.get x.2.2 (j := k) (q := q') (by simpa using e2)
    have e4 : us[k]? = some (.ref n) := by simpa using e4
    rw [e4] at g1; cases g1
    obtain ⟨m, hm, _, hb, _⟩ := g2.own f2
    cases hm
    exact (hb (.inr ⟨f1, rfl⟩)).elim
  | r :: rs, u :: us, B, j + 1, 0, n, q, q', x, e1, e2, e3, e4, f1, f2 => by
    simp at e2 e4
    subst e2 e4
    obtain ⟨w, g1, g2, _⟩ := LArgs.get x.2.2 (j := j) (q := q) (by simpa using e1)
    have e3 : us[j]? = some (.ref n) := by simpa using e3
    rw [e3] at g1; cases g1
    obtain ⟨m, hm, _, hb, _⟩ := g2.own f1
    cases hm
    exact (hb (.inr ⟨f2, rfl⟩)).elim
  | r :: rs, u :: us, B, j + 1, k + 1, n, q, q', x, e1, e2, e3, e4, f1, f2 => by
    rw [LArgs.inj x.2.2 (j := j) (k := k) (by simpa using e1) (by simpa using e2) (by simpa using e3) (by simpa using e4) f1 f2]
  | [], _ :: _, _, _, _, _, _, _, x, _, _, _, _, _, _ => x.elim
  | _ :: _, [], _, _, _, _, _, _, x, _, _, _, _, _, _ => x.elim
end
end Mn.Pn
end -- Pn5
section -- Pn6
set_option linter.all false
set_option autoImplicit false
set_option maxRecDepth 100000
namespace Mn.Pn
open PySem L2
/-! ### calls -/
def CallSem (cf : CF) (f : Str) (ps : List P) (kw : List (Str × Pv)) (p : P) (fs : List (Option P)) : Prop :=
  ∀ (B : Nat → Prop) (h : Hs) (us : List Val) (ws : List (Str × Val)), Inv B h (ps.map some) (us.map some) → Denf h.M h.Z kw ws →
    ∃ u h', cf f us ws h.M = .ok u h'.M ∧ Stp B h h' ∧ Inv B h' fs (us.map some) ∧ RelP B h' p u
def MakeSem (cf : CF) (f : Str) (vs : List Pv) (kw : List (Str × Pv)) (p : P) : Prop :=
  ∀ (B : Nat → Prop) (h : Hs) (us : List Val) (ws : List (Str × Val)) (ρ : PEnv) (σ : Env), Inv B h ρ σ → Dens h.M h.Z vs us → Denf h.M h.Z kw ws →
    ∃ u h', cf f us ws h.M = .ok u h'.M ∧ Stp B h h' ∧ Inv B h' ρ σ ∧ RelP B h' p u
structure GamOk (Γ : PGam) (γ : Gam) : Prop where
  glob : ∀ x v, Γ.glob x = some v → ∃ u, γ.glob x = some u ∧ ∀ M Z, Den M Z v u
  call : ∀ f ps kw p fs, Γ.call f ps kw = some (p, fs) → CallSem γ.call f ps kw p fs
  make : ∀ C vs kw p, Γ.make C (vs.map .fz) kw = some p → MakeSem γ.make C vs kw p
  fld : Γ.fld = γ.fld
  fuel : Γ.fuel = γ.fuel
def SimR {α β : Type} (B : Nat → Prop) (h : Hs) (σ : Env) (pr : PO β) (mr : Res α) (Q : Hs → β → α → Prop) : Prop :=
  ∀ b ρ', pr = .ok b ρ' → ∃ a h', mr = .ok a h'.M ∧ Stp B h h' ∧ Inv B h' ρ' σ ∧ Q h' b a
section
variable {B B1 : Nat → Prop} {h h' : Hs} {ρ ρ' : PEnv} {σ : Env}
theorem SimR.bind {α β α' β' : Type} {pr : PO β} {mr : Res α} {Q1 : Hs → β → α → Prop} {f : β → PEnv → PO β'} {g : α → Mem → Res α'} {Q : Hs → β' → α' → Prop} (hB : ∀ n, B n → B1 n) (s : SimR B1 h σ pr mr Q1)
    (k : ∀ b ρ' a h', Stp B1 h h' → Inv B1 h' ρ' σ → Q1 h' b a → SimR B h' σ (f b ρ') (g a h'.M) Q) : SimR B h σ (pr.bind f) (mr.bind g) Q := by
  intro b ρ' e
  obtain ⟨c, ρ1, e1, e2⟩ := PO.bind_inv e
  obtain ⟨a, h1, e3, s1, I1, q1⟩ := s c ρ1 e1
  obtain ⟨a2, h2, e4, s2, I2, q2⟩ := k c ρ1 a h1 s1 I1 q1 b ρ' e2
  exact ⟨a2, h2, by rw [e3]; exact e4, (s1.weak hB).trans s2, I2, q2⟩
theorem SimR.st {α β : Type} {pr : PO β} {mr : Res α} {Q : Hs → β → α → Prop} (s : SimR B h σ pr mr Q) {b : β} (e : pr = .ok b ρ') : ∃ a h', mr = .ok a h'.M ∧ Stp B h h' ∧ Inv B h' ρ' σ ∧ Q h' b a := s b ρ' e
theorem sim_fz {v : Pv} {mr : Res Val} (I : Inv B h ρ σ) {u : Val} (e : mr = .ok u h.M) (d : Den h.M h.Z v u) : SimR B h σ (PO.ok (fzr v) ρ) mr (fun h' r u => RelR B h' σ r u) := fun b ρ' e2 => by
  cases e2; exact ⟨u, h, e, .refl, I, d⟩
theorem sim_mk {p : P} {mr : Res Val} (I : Inv B h ρ σ) (m : Mk h p mr) : SimR B h σ (PO.ok (.v p) ρ) mr (fun h' r u => RelR B h' σ r u) := fun b ρ' e2 => by
  cases e2
  obtain ⟨u, h', e, s, I2, r⟩ := mk_ok I m
  exact ⟨u, h', e, s, I2, r⟩
theorem sim_stuck {α β : Type} {mr : Res α} {Q : Hs → β → α → Prop} : SimR B h σ (.stuck : PO β) mr Q := fun b ρ' e => by cases e
/-- kept for good, and on -/
theorem SimR.tks {α β : Type} {rs : List R} {us : List Val} {f : List Pv → PEnv → PO β} {mr : Res α} {Q : Hs → β → α → Prop} (I : Inv B h ρ σ) (x : RelRs B h σ rs us)
    (k : ∀ vs ρ' h', h'.M = h.M → Inv B h' ρ' σ → (∀ {v : Pv} {u : Val}, Den h.M h.Z v u → Den h'.M h'.Z v u) → Dens h'.M h'.Z vs us → SimR B h' σ (f vs ρ') mr Q) : SimR B h σ ((tks rs ρ).bind f) mr Q := by
  intro b ρ' e
  obtain ⟨vs, ρ1, e1, e2⟩ := PO.bind_inv e
  obtain ⟨h1, N, f1, n1, I1, d1⟩ := tks_ok I x e1
  obtain ⟨a, h2, e3, s2, I2, q⟩ := k vs ρ1 h1 f1.m I1 (fun d => d.mono (fun _ _ => by rw [f1.m]) f1.z) d1 b ρ' e2
  exact ⟨a, h2, e3, (f1.stp I n1).trans s2, I2, q⟩
theorem SimR.tk {α β : Type} {r : R} {u : Val} {f : Pv → PEnv → PO β} {mr : Res α} {Q : Hs → β → α → Prop} (I : Inv B h ρ σ) (x : RelR B h σ r u)
    (k : ∀ v ρ' h', h'.M = h.M → Fz B h h' (fun n => r.fresh = true ∧ u = .ref n) → Inv B h' ρ' σ → Den h'.M h'.Z v u → SimR B h' σ (f v ρ') mr Q) : SimR B h σ ((tk r ρ).bind f) mr Q := by
  intro b ρ' e
  obtain ⟨v, ρ1, e1, e2⟩ := PO.bind_inv e
  obtain ⟨h1, f1, I1, d1⟩ := tk_ok I x e1
  obtain ⟨a, h2, e3, s2, I2, q⟩ := k v ρ1 h1 f1.m f1 I1 d1 b ρ' e2
  exact ⟨a, h2, e3, (f1.stp I (fresh_nb x)).trans s2, I2, q⟩
theorem Dens.kw : ∀ {kns : List Str} {vs : List Pv} {us : List Val} {M : Mem} {Z : Nat → Prop}, Dens M Z vs us → Denf M Z (kns.zip vs) (kns.zip us)
  | [], _, _, _, _, _ => .nil
  | k :: kns, _, _, _, _, .nil => .nil
  | k :: kns, _, _, _, _, .cons a b => .cons a (Dens.kw b)
/-- what was handed in is given back -/
theorem giveB_ok : ∀ {l : List (P × Option Nat)} {fs : List (Option P)} {us : List Val} {h : Hs} {ρ : PEnv} (C : Nat → Nat → Prop), Inv B h ρ σ →
    (∀ j q, fs[j]? = some (some q) → ∃ u, us[j]? = some u ∧ (q.isF = true → RelP B h q u) ∧ (q.isF = false → ∃ n, u = .ref n ∧ Own h q n ∧ ¬ B n ∧ ¬ h.Z n ∧ n < h.M.length ∧ C j n ∧ ∀ i, h.A i ≠ some n)) →
    (∀ j k n, C j n → C k n → j = k) →
    (∀ (j : Nat) (q : P × Option Nat) (i : Nat), l[j]? = some q → q.2 = some i → ∃ u, us[j]? = some u ∧ σ[i]? = some (some u)) →
    ∃ h', h'.M = h.M ∧ h'.Z = h.Z ∧ Inv B h' (giveB l fs ρ) σ ∧ ∀ i n, h'.A i = some n → h.A i = some n ∨ ∃ j, C j n
  | [], fs, us, h, ρ, C, I, _, _, _ => by
    cases fs <;> exact ⟨h, rfl, rfl, I, fun _ _ z => .inl z⟩
  | q :: l, [], us, h, ρ, C, I, _, _, _ => by
    obtain ⟨p, o⟩ := q
    cases o <;> exact ⟨h, rfl, rfl, I, fun _ _ z => .inl z⟩
  | (p, none) :: l, o :: fs, us, h, ρ, C, I, hf, hC, hl => by
    have r := giveB_ok (l := l) (fs := fs) (us := us.tail) (h := h) (ρ := ρ) (fun j n => C (j + 1) n) I (fun j q hq => by
      obtain ⟨u, e, z⟩ := hf (j + 1) q (by simpa using hq)
      exact ⟨u, by simpa using e, z⟩) (fun j k n a b => by have := hC _ _ n a b; omega) (fun j q i hq hi => by
      obtain ⟨u, e, z⟩ := hl (j + 1) q i (by simpa using hq) hi
      exact ⟨u, by simpa using e, z⟩)
    obtain ⟨h', m, z, I', a⟩ := r
    exact ⟨h', m, z, I', fun i n x => (a i n x).imp id fun ⟨j, y⟩ => ⟨j + 1, y⟩⟩
  | (p, some i) :: l, none :: fs, us, h, ρ, C, I, hf, hC, hl => by
    have r := giveB_ok (l := l) (fs := fs) (us := us.tail) (h := h) (ρ := ρ) (fun j n => C (j + 1) n) I (fun j q hq => by
      obtain ⟨u, e, z⟩ := hf (j + 1) q (by simpa using hq)
      exact ⟨u, by simpa using e, z⟩) (fun j k n a b => by have := hC _ _ n a b; omega) (fun j q i hq hi => by
      obtain ⟨u, e, z⟩ := hl (j + 1) q i (by simpa using hq) hi
      exact ⟨u, by simpa using e, z⟩)
    obtain ⟨h', m, z, I', a⟩ := r
    exact ⟨h', m, z, I', fun i n x => (a i n x).imp id fun ⟨j, y⟩ => ⟨j + 1, y⟩⟩
  | (p, some i) :: l, some q :: fs, us, h, ρ, C, I, hf, hC, hl => by
    obtain ⟨u, eu, f1, f2⟩ := hf 0 q rfl
    obtain ⟨u2, eu2, es⟩ := hl 0 (p, some i) i rfl rfl
    rw [eu] at eu2; cases eu2
    have rq : RelP B h q u := by
      cases hq : q.isF with
      | true => exact f1 hq
      | false => obtain ⟨n, rfl, o, a, b, c, _, d⟩ := f2 hq; exact .of o a b c d
    obtain ⟨h1, m1, z1, I1, a1⟩ := I.put es rq
    have r := giveB_ok (l := l) (fs := fs) (us := us.tail) (h := h1) (ρ := ρ.set i (some q)) (fun j n => C (j + 1) n) I1 (fun j q' hq => by
      obtain ⟨u', e, z, w⟩ := hf (j + 1) q' (by simpa using hq)
      refine ⟨u', by simpa using e, fun x => ?_, fun x => ?_⟩
      · have := z x
        obtain ⟨v, rfl, d⟩ := this.fz x
        show Den h1.M h1.Z v u'
        rw [m1, z1]; exact d
      · obtain ⟨n, rfl, o, a, b, c, cj, d⟩ := w x
        refine ⟨n, rfl, o.move (by rw [m1]) (fun _ _ => by rw [m1]) (by rw [z1]; exact fun _ z => z), a, by rw [z1]; exact b, by rw [m1]; exact c, cj, fun k y => ?_⟩
        rcases a1 k n y with y | ⟨y1, y2, y3⟩
        · exact d k y
        · obtain ⟨n0, e0, _, _, _, _, c0, _⟩ := f2 y1
          rw [y2] at e0; cases e0
          have := hC _ _ n c0 cj; omega) (fun j k n a b => by have := hC _ _ n a b; omega) (fun j q i hq hi => by
      obtain ⟨u, e, z⟩ := hl (j + 1) q i (by simpa using hq) hi
      exact ⟨u, by simpa using e, z⟩)
    obtain ⟨h', m, z, I', a⟩ := r
    refine ⟨h', m.trans m1, z.trans z1, I', fun k n x => ?_⟩
    rcases a k n x with y | ⟨j, y⟩
    · rcases a1 k n y with y | ⟨y1, y2, _⟩
      · exact .inl y
      · obtain ⟨n0, e0, _, _, _, _, c0, _⟩ := f2 y1
        rw [y2] at e0; cases e0
        exact .inr ⟨0, c0⟩
    · exact .inr ⟨j + 1, y⟩
theorem pcallR_ok {Γ : PGam} {γ : Gam} (G : GamOk Γ γ) {f : Str} {rs ks : List R} {us xs : List Val} {kns : List Str} (I : Inv B h ρ σ) (xk : RelRs (bxs B rs us) h σ ks xs) (x : RelRs B h σ rs us) :
    SimR B h σ (pcallR Γ f rs kns ks ρ) (γ.call f us (kns.zip xs) h.M) (fun h' r u => RelR B h' σ r u) := by
  intro b ρ' e
  obtain ⟨ws, ρ1, e1, e⟩ := PO.bind_inv (show (tks ks ρ).bind _ = _ from e)
  obtain ⟨l, ρ2, e2, e⟩ := PO.bind_inv e
  have Ix := I.bxs x
  obtain ⟨h1, N, f1, n1, I1, d1⟩ := tks_ok Ix xk e1
  have s1 : Stp (bxs B rs us) h h1 := f1.stp Ix n1
  have x1 : RelRs B h1 σ rs us := x.stp s1 I1
  obtain ⟨h2, m2, s2, I2, la⟩ := lendA_ok (I1.weak bxs_l) x1 e2
  cases hc : Γ.call f (l.map (·.1)) (kns.zip ws) with
  | none => rw [hc] at e; cases e
  | some q =>
    obtain ⟨p, fs⟩ := q
    rw [hc] at e
    cases e
    let Ac : Nat → Option Nat := fun j => match (l.map (·.1))[j]?, us[j]? with | some p, some u => addrOf p u | _, _ => none
    have hAc : ∀ j n, Ac j = some n → ∃ q, l[j]? = some q ∧ us[j]? = some (.ref n) ∧ q.1.isF = false := fun j n z => by
      have z : (match (l.map (·.1))[j]?, us[j]? with | some p, some u => addrOf p u | _, _ => none) = some n := z
      rw [List.getElem?_map] at z
      cases hl : l[j]? with
      | none => rw [hl] at z; cases z
      | some q =>
        rw [hl] at z
        cases hu : us[j]? with
        | none => rw [hu] at z; cases z
        | some u =>
          rw [hu] at z
          obtain ⟨z1, rfl⟩ := addrOf_inv z
          exact ⟨q, rfl, rfl, z1⟩
    let Bc : Nat → Prop := fun n => B n ∨ ∃ i, h2.A i = some n
    let hc0 : Hs := ⟨h2.Z, Ac, h2.M⟩
    have Ic : Inv Bc hc0 ((l.map (·.1)).map some) (us.map some) := by
      refine ⟨by simp [la.length], fun n z => z.elim (I2.bl n) fun ⟨i, z⟩ => (I2.ow i n z).2.2, I2.zl, fun j n z => ?_, fun j k n z1 z2 => ?_, fun j q hq => ?_⟩
      · obtain ⟨q, e1, e2, e3⟩ := hAc j n z
        obtain ⟨u, g1, g2, _⟩ := la.get e1
        rw [e2] at g1; cases g1
        obtain ⟨m, hm, _, a, b, c, d⟩ := g2.own e3
        cases hm
        exact ⟨fun y => y.elim a fun ⟨i, y⟩ => d i y, b, c⟩
      · obtain ⟨q, e1, e2, e3⟩ := hAc j n z1
        obtain ⟨q', e1', e2', e3'⟩ := hAc k n z2
        exact la.inj e1 e1' e2 e2' e3 e3'
      · rw [List.getElem?_map] at hq
        cases hl : (l.map (·.1))[j]? with
        | none => rw [hl] at hq; cases hq
        | some p0 =>
          rw [hl] at hq; cases hq
          have hl2 := hl
          rw [List.getElem?_map] at hl2
          cases hl3 : l[j]? with
          | none => rw [hl3] at hl2; cases hl2
          | some q0 =>
            rw [hl3] at hl2; cases hl2
            obtain ⟨u, g1, g2, _⟩ := la.get hl3
            refine ⟨u, by rw [List.getElem?_map, g1]; rfl, ?_⟩
            cases hq0 : q0.1.isF with
            | true =>
              obtain ⟨v, hv, d⟩ := g2.fz hq0
              show Slot hc0 (hc0.A j) q0.1 u
              rw [hv]; exact d
            | false =>
              obtain ⟨m, rfl, o, _⟩ := g2.own hq0
              have : Ac j = some m := by
                show (match (l.map (·.1))[j]?, us[j]? with | some p, some u => addrOf p u | _, _ => none) = _
                rw [hl, g1]
                show addrOf q0.1 (.ref m) = _
                unfold addrOf
                rw [hq0]
              show Slot hc0 (Ac j) q0.1 _
              rw [this]
              exact Slot.of (o.move rfl (fun _ _ => rfl) fun _ z => z)
    obtain ⟨u, h3, e3, s3, I3, r3⟩ := G.call f _ _ p fs hc Bc hc0 us (kns.zip xs) Ic (Dens.kw (d1.stp s2))
    have mm : h2.M = h.M := m2.trans f1.m
    -- the caller goes on
    let h4 : Hs := ⟨h3.Z, h2.A, h3.M⟩
    have s4 : Stp B h2 h4 := ⟨s3.len, fun n z => s3.b n (.inl z), s3.z, s3.zz, fun n hl z => (s3.nz n hl z).imp id fun y z => y (.inl z)⟩
    have I4 : Inv B h4 ρ2 σ := by
      refine ⟨I2.len, fun n z => Nat.lt_of_lt_of_le (I2.bl n z) s3.len, I3.zl, fun i n z => ?_, I2.inj, fun i q hq => ?_⟩
      · obtain ⟨a, b, c⟩ := I2.ow i n z
        exact ⟨a, fun y => (s3.nz n c y).elim b fun y => y (.inr ⟨i, z⟩), Nat.lt_of_lt_of_le c s3.len⟩
      · obtain ⟨w, g1, g2⟩ := I2.sl i q hq
        refine ⟨w, g1, ?_⟩
        cases hq0 : q.isF with
        | true => obtain ⟨v, rfl, d⟩ := g2.fzd hq0; exact d.mono s3.zz s3.z
        | false =>
          obtain ⟨m, rfl, em, o⟩ := g2.own hq0
          show Slot h4 (h2.A i) q _
          rw [em]
          exact Slot.of (o.move (s3.b m (.inr ⟨i, em⟩)) s3.zz s3.z)
    obtain ⟨h5, m5, z5, I5, a5⟩ := giveB_ok (l := l) (fs := fs) (us := us) (fun j n => h3.A j = some n) I4 (fun j q hq => by
      obtain ⟨w, g1, g2⟩ := I3.sl j q hq
      rw [List.getElem?_map] at g1
      cases hw : us[j]? with
      | none => rw [hw] at g1; cases g1
      | some w' =>
        rw [hw] at g1; cases g1
        refine ⟨w, rfl, fun hf => ?_, fun hf => ?_⟩
        · obtain ⟨v, rfl, d⟩ := g2.fzd hf; exact d
        · obtain ⟨m, rfl, em, o⟩ := g2.own hf
          obtain ⟨a, b, c⟩ := I3.ow j m em
          exact ⟨m, rfl, o.move rfl (fun _ _ => rfl) fun _ z => z, fun z => a (.inl z), b, c, em, fun i z => a (.inr ⟨i, z⟩)⟩) (fun j k n a b => I3.inj j k n a b) (fun j q i hq hi => by
      obtain ⟨w, g1, _, g3⟩ := la.get hq
      exact ⟨w, g1, (g3 i hi).1⟩)
    refine ⟨u, h5, ?_, ?_, I5, ?_⟩
    · rw [m5]; show γ.call f us (kns.zip xs) h.M = Res.ok u h3.M; rw [← mm]; exact e3
    · have s5 : Stp B h4 h5 := ⟨by rw [m5]; exact Nat.le_refl _, fun n _ => by rw [m5], fun n z => by rw [z5]; exact z, fun n _ => by rw [m5], fun n _ z => by rw [z5] at z; exact .inl z⟩
      exact (((s1.weak bxs_l).trans s2).trans s4).trans s5
    · show RelP B h5 p u
      cases hp : p.isF with
      | true => obtain ⟨v, rfl, d⟩ := r3.fz hp; show Den h5.M h5.Z v u; rw [m5, z5]; exact d
      | false =>
        obtain ⟨m, rfl, o, a, b, c, d⟩ := r3.own hp
        refine .of (o.move (by rw [m5]) (fun _ _ => by rw [m5]) (by rw [z5]; exact fun _ z => z)) (fun z => a (.inl z)) (by rw [z5]; exact b) (by rw [m5]; exact c) fun i z => ?_
        rcases a5 i m z with z | ⟨j, z⟩
        · exact a (.inr ⟨i, z⟩)
        · exact d j z
theorem pmakeR_ok {Γ : PGam} {γ : Gam} (G : GamOk Γ γ) {C : Str} {rs ks : List R} {us xs : List Val} {kns : List Str} (I : Inv B h ρ σ) (xk : RelRs (bxs B rs us) h σ ks xs) (x : RelRs B h σ rs us) :
    SimR B h σ (pmakeR Γ C rs kns ks ρ) (γ.make C us (kns.zip xs) h.M) (fun h' r u => RelR B h' σ r u) := by
  intro b ρ' e
  obtain ⟨ws, ρ1, e1, e⟩ := PO.bind_inv (show (tks ks ρ).bind _ = _ from e)
  obtain ⟨vs, ρ2, e2, e⟩ := PO.bind_inv e
  have Ix := I.bxs x
  obtain ⟨h1, N, f1, n1, I1, d1⟩ := tks_ok Ix xk e1
  have s1 : Stp (bxs B rs us) h h1 := f1.stp Ix n1
  have x1 : RelRs B h1 σ rs us := x.stp s1 I1
  have I1' := I1.weak (B := B) bxs_l
  obtain ⟨h2, N2, f2, n2, I2, d2⟩ := tks_ok I1' x1 e2
  cases hc : Γ.make C (vs.map .fz) (kns.zip ws) with
  | none => rw [hc] at e; cases e
  | some p =>
    rw [hc] at e
    cases e
    have s2 := f2.stp I1' n2
    obtain ⟨u, h3, e3, s3, I3, r3⟩ := G.make C vs _ p hc B h2 us (kns.zip xs) _ σ I2 d2 (Dens.kw (d1.stp s2))
    refine ⟨u, h3, ?_, ((s1.weak bxs_l).trans s2).trans s3, I3, r3⟩
    rw [← f1.m, ← f2.m]; exact e3
end
end Mn.Pn
end -- Pn6
section -- Pn7
set_option linter.all false
set_option autoImplicit false
set_option maxRecDepth 100000
namespace Mn.Pn
open PySem L2
section
variable {B B1 : Nat → Prop} {h h' : Hs} {ρ ρ' : PEnv} {σ : Env}
theorem Inv.asgF (I : Inv B h ρ σ) {i : Nat} {v : Pv} {u : Val} (hi : i < ρ.length) (d : Den h.M h.Z v u) : Inv B h (ρ.set i (some (.fz v))) (σ.set i (some u)) :=
  ⟨by rw [List.length_set, List.length_set]; exact I.len, I.bl, I.zl, I.ow, I.inj, fun j q hq => by
    rcases getElem?_set_cases hq with ⟨rfl, hq, hl⟩ | ⟨hj, hq⟩
    · cases hq
      exact ⟨u, by rw [List.getElem?_set_self (by rw [← I.len]; exact hl)], d⟩
    · obtain ⟨w, e, s⟩ := I.sl j q hq
      exact ⟨w, by rw [List.getElem?_set_ne (fun z => hj z.symm)]; exact e, s⟩⟩
mutual
theorem pasgT_ok {pin : Nat → Bool} {M : Mem} : ∀ (t : T) {v : Pv} {u : Val} {ρ ρ' : PEnv} {σ : Env}, Inv B h ρ σ → Den h.M h.Z v u → pasgT pin t v ρ = some ρ' →
    ∃ σ', asgT M t u σ = some σ' ∧ Inv B h ρ' σ' ∧ ∀ i, pin i = true → σ'[i]? = σ[i]?
  | .nm i, v, u, ρ, ρ', σ, I, d, e => by
    have e : (if i < ρ.length && !pin i then some (ρ.set i (some (.fz v))) else none) = some ρ' := e
    split at e
    · rename_i hc
      cases e
      rw [Bool.and_eq_true, decide_eq_true_eq] at hc
      refine ⟨σ.set i (some u), if_pos (by rw [← I.len]; exact hc.1), I.asgF hc.1 d, fun j hj => ?_⟩
      rw [List.getElem?_set_ne]
      intro z; subst z; rw [hj] at hc; cases hc.2
    · cases e
  | .tp ts, v, u, ρ, ρ', σ, I, d, e => by
    cases d with
    | tup d => exact pasgTs_ok ts I d e
    | _ => cases e
theorem pasgTs_ok {pin : Nat → Bool} {M : Mem} : ∀ (ts : List T) {vs : List Pv} {us : List Val} {ρ ρ' : PEnv} {σ : Env}, Inv B h ρ σ → Dens h.M h.Z vs us → pasgTs pin ts vs ρ = some ρ' →
    ∃ σ', asgTs M ts us σ = some σ' ∧ Inv B h ρ' σ' ∧ ∀ i, pin i = true → σ'[i]? = σ[i]?
  | [], vs, us, ρ, ρ', σ, I, d, e => by
    cases d with
    | nil => cases e; exact ⟨σ, rfl, I, fun _ _ => rfl⟩
    | cons _ _ => cases e
  | t :: ts, vs, us, ρ, ρ', σ, I, d, e => by
    cases d with
    | nil => cases e
    | @cons v u vs us a b =>
      have e : (match pasgT pin t v ρ with | some ρ' => pasgTs pin ts vs ρ' | none => none) = some ρ' := e
      cases hp : pasgT pin t v ρ with
      | none => rw [hp] at e; cases e
      | some ρ1 =>
        rw [hp] at e
        obtain ⟨σ1, e1, I1, p1⟩ := pasgT_ok (M := M) t I a hp
        obtain ⟨σ2, e2, I2, p2⟩ := pasgTs_ok (M := M) ts I1 b e
        refine ⟨σ2, ?_, I2, fun i hi => (p2 i hi).trans (p1 i hi)⟩
        show (match asgT M t u σ with | some ρ' => asgTs M ts us ρ' | none => none) = _
        rw [e1]; exact e2
end
theorem wipe_len : ∀ (own : List Nat) (σ : Env), (wipeE σ own).length = σ.length
  | [], _ => rfl
  | v :: vs, σ => by show ((wipeE σ vs).set v none).length = _; rw [List.length_set, wipe_len vs σ]
theorem pwipe_len : ∀ (own : List Nat) (σ : PEnv), (pwipe σ own).length = σ.length
  | [], _ => rfl
  | v :: vs, σ => by show ((pwipe σ vs).set v none).length = _; rw [List.length_set, pwipe_len vs σ]
theorem wipe_ne {i : Nat} : ∀ {own : List Nat} {σ : Env}, i ∉ own → (wipeE σ own)[i]? = σ[i]?
  | [], _, _ => rfl
  | v :: vs, σ, hi => by
    rw [List.mem_cons, not_or] at hi
    show ((wipeE σ vs).set v none)[i]? = _
    rw [List.getElem?_set_ne (fun z => hi.1 z.symm)]; exact wipe_ne hi.2
theorem pwipe_ne {i : Nat} : ∀ {own : List Nat} {σ : PEnv}, i ∉ own → (pwipe σ own)[i]? = σ[i]?
  | [], _, _ => rfl
  | v :: vs, σ, hi => by
    rw [List.mem_cons, not_or] at hi
    show ((pwipe σ vs).set v none)[i]? = _
    rw [List.getElem?_set_ne (fun z => hi.1 z.symm)]; exact pwipe_ne hi.2
theorem pwipe_in {i : Nat} {p : P} : ∀ {own : List Nat} {σ : PEnv}, (pwipe σ own)[i]? = some (some p) → i ∉ own ∧ σ[i]? = some (some p)
  | [], _, e => ⟨by simp, e⟩
  | v :: vs, σ, e => by
    have e : ((pwipe σ vs).set v none)[i]? = some (some p) := e
    rcases getElem?_set_cases e with ⟨_, e, _⟩ | ⟨hj, e⟩
    · cases e
    · obtain ⟨a, b⟩ := pwipe_in e
      exact ⟨by simp [hj, a], b⟩
theorem prst_in {ρ0 : PEnv} {i : Nat} {p : P} : ∀ {own : List Nat} {ρ : PEnv}, (prst ρ0 ρ own)[i]? = some (some p) → (i ∉ own ∧ ρ[i]? = some (some p)) ∨ (∃ w, p = .fz w ∧ ρ0[i]? = some (some (.fz w)))
  | [], _, e => .inl ⟨by simp, e⟩
  | v :: vs, ρ, e => by
    have e : ((prst ρ0 ρ vs).set v (match ρ0[v]? with | some (some (.fz w)) => some (.fz w) | _ => none))[i]? = some (some p) := e
    rcases getElem?_set_cases e with ⟨rfl, e, _⟩ | ⟨hj, e⟩
    · split at e
      · cases e; exact .inr ⟨_, rfl, ‹_›⟩
      · cases e
    · rcases prst_in e with ⟨a, b⟩ | c
      · exact .inl ⟨by simp [hj, a], b⟩
      · exact .inr c
theorem prst_len {ρ0 : PEnv} : ∀ (own : List Nat) (σ : PEnv), (prst ρ0 σ own).length = σ.length
  | [], _ => rfl
  | v :: vs, σ => by show ((prst ρ0 σ vs).set v _).length = _; rw [List.length_set, prst_len vs σ]
theorem Inv.wipe (I : Inv B h ρ σ) (own : List Nat) : Inv B h (pwipe ρ own) (wipeE σ own) := by
  refine ⟨by rw [wipe_len, pwipe_len]; exact I.len, I.bl, I.zl, I.ow, I.inj, fun i p hp => ?_⟩
  obtain ⟨a, b⟩ := pwipe_in hp
  obtain ⟨u, e, s⟩ := I.sl i p b
  exact ⟨u, by rw [wipe_ne a]; exact e, s⟩
theorem Inv.rewipe {σ1 : Env} {own : List Nat} (I : Inv B h ρ σ1) (hl : σ1.length = σ.length) (he : ∀ i, i ∉ own → σ1[i]? = σ[i]?) : Inv B h (pwipe ρ own) σ := by
  refine ⟨by rw [pwipe_len, I.len, hl], I.bl, I.zl, I.ow, I.inj, fun i p hp => ?_⟩
  obtain ⟨a, b⟩ := pwipe_in hp
  obtain ⟨u, e, s⟩ := I.sl i p b
  exact ⟨u, by rw [← he i a]; exact e, s⟩
theorem Inv.restore {h0 : Hs} {ρ0 ρ3 : PEnv} {own : List Nat} (I0 : Inv B h0 ρ0 σ) (s : Stp B h0 h) (I : Inv B h (pwipe ρ3 own) (wipeE σ own)) : Inv B h (prst ρ0 ρ3 own) σ := by
  refine ⟨by rw [prst_len, ← pwipe_len own ρ3, I.len, wipe_len], I.bl, I.zl, I.ow, I.inj, fun i p hp => ?_⟩
  rcases prst_in hp with ⟨a, b⟩ | ⟨w, rfl, b⟩
  · obtain ⟨u, e, s⟩ := I.sl i p (by rw [pwipe_ne a]; exact b)
    exact ⟨u, by rw [← wipe_ne a]; exact e, s⟩
  · obtain ⟨u, e, d⟩ := I0.sl i _ b
    exact ⟨u, e, Den.stp s d⟩
end
/-! ### sources -/
def SrcOk (h : Hs) (src : Src) (l : List Pv) : Prop := ∀ (M' : Mem) (Z' : Nat → Prop), (∀ n, h.Z n → M'[n]? = h.M[n]?) → (∀ n, h.Z n → Z' n) →
  src.len M' = some l.length ∧ ∀ i v, l[i]? = some v → ∃ u, src.at M' l.length i = some u ∧ Den M' Z' v u
section
variable {h : Hs}
theorem sq_ok {v : Pv} {u : Val} {l : List Pv} (d : Den h.M h.Z v u) (e : pseq v = some l) : ∃ s, sqOf h.M u = some s ∧ ∃ us : List Val, Dens h.M h.Z l us ∧ ∀ M', (∀ n, h.Z n → M'[n]? = h.M[n]?) → s.get M' = some us := by
  cases d with
  | @tup vs us x => cases e; exact ⟨.im us, rfl, us, x, fun _ _ => rfl⟩
  | @lst vs us n z g x =>
    cases e
    refine ⟨.mu n, ?_, us, x, fun M' hM => ?_⟩
    · show (match h.M[n]? with | some (.lst _) => some (Sq.mu n) | some (.rol _) => some (Sq.mu n) | _ => none) = _
      rw [g]
    · show (match M'[n]? with | some (.lst vs) => some vs | some (.rol vs) => some vs | _ => none) = _
      rw [hM n z, g]
  | @rol vs us n z g x =>
    cases e
    refine ⟨.mu n, ?_, us, x, fun M' hM => ?_⟩
    · show (match h.M[n]? with | some (.lst _) => some (Sq.mu n) | some (.rol _) => some (Sq.mu n) | _ => none) = _
      rw [g]
    · show (match M'[n]? with | some (.lst vs) => some vs | some (.rol vs) => some vs | _ => none) = _
      rw [hM n z, g]
  | _ => cases e
theorem srcOk_sq {s : Sq} {l : List Pv} {us : List Val} (d : Dens h.M h.Z l us) (hs : ∀ M', (∀ n, h.Z n → M'[n]? = h.M[n]?) → s.get M' = some us) : SrcOk h (.sq s) l := fun M' Z' h1 h2 => by
  refine ⟨by show (s.get M').map _ = _; rw [hs M' h1]; exact congrArg some d.length, fun i v hv => ?_⟩
  obtain ⟨u, e, d2⟩ := d.get hv
  exact ⟨u, by show (s.get M').bind (·[i]?) = _; rw [hs M' h1]; exact e, d2.mono h1 h2⟩
theorem psrc_ok {k : IK} {vs l : List Pv} {us : List Val} (d : Dens h.M h.Z vs us) (e : psrc k vs = some l) : ∃ src, srcOf k us h.M = some src ∧ SrcOk h src l := by
  unfold psrc at e
  split at e
  · cases d with | cons a b => cases b with | nil =>
    cases a
    rename_i s
    cases e
    refine ⟨_, rfl, srcOk_sq (us := s.cps.toList.map fun c => .str ⟨#[c]⟩) (Dens.map (fun c => .str _) _) fun _ _ => rfl⟩
  · cases d with | @cons v u _ _ a b => cases b with | nil =>
    rename_i v0 hne
    obtain ⟨s, e1, us, e2, e3⟩ := sq_ok a e
    refine ⟨.sq s, ?_, srcOk_sq e2 e3⟩
    cases a with
    | str s => exact (hne s rfl).elim
    | tup x => cases e1; rfl
    | lst z g x => show (sqOf h.M _).map Src.sq = _; rw [e1]; rfl
    | rol z g x => show (sqOf h.M _).map Src.sq = _; rw [e1]; rfl
    | dct z g x => cases e
    | ins z g x => cases e
    | non => cases e
    | bl b => cases e
    | int i => cases e
    | ty t => cases e
    | glo x => cases e
  · obtain ⟨xs, e1, e2⟩ := prange_ok d e
    exact ⟨.sq (.im xs), by show (rangeOf us).map (fun l => Src.sq (.im l)) = _; rw [e1]; rfl, srcOk_sq e2 fun _ _ => rfl⟩
  · cases d with | @cons v u _ _ a b => cases b with | nil =>
    rename_i v0
    cases hq : pseq v0 with
    | none => rw [hq] at e; cases e
    | some ws =>
      rw [hq] at e; cases e
      obtain ⟨s, e1, us, e2, e3⟩ := sq_ok a hq
      refine ⟨.rev s, by show (sqOf h.M u).map Src.rev = _; rw [e1]; rfl, fun M' Z' h1 h2 => ⟨by show (s.get M').map _ = _; rw [e3 M' h1, List.length_reverse]; exact congrArg some e2.length, fun i v hv => ?_⟩⟩
      have hi : i < ws.length := by have := (List.getElem?_eq_some_iff.mp hv).1; simpa using this
      rw [List.getElem?_reverse hi] at hv
      obtain ⟨u2, e4, d2⟩ := e2.get hv
      exact ⟨u2, by show (s.get M').bind (·[ws.reverse.length - 1 - i]?) = _; rw [e3 M' h1, List.length_reverse]; exact e4, d2.mono h1 h2⟩
  · cases d with | @cons v u _ _ a b => cases b with | nil =>
    rename_i v0
    cases hq : pseq v0 with
    | none => rw [hq] at e; cases e
    | some ws =>
      rw [hq] at e; cases e
      obtain ⟨s, e1, us, e2, e3⟩ := sq_ok a hq
      refine ⟨.enum s, by show (sqOf h.M u).map Src.enum = _; rw [e1]; rfl, fun M' Z' h1 h2 => ⟨by show (s.get M').map _ = _; rw [e3 M' h1, List.length_map, List.length_zipIdx]; exact congrArg some e2.length, fun i v hv => ?_⟩⟩
      rw [List.getElem?_map, List.getElem?_zipIdx] at hv
      cases hw : ws[i]? with
      | none => rw [hw] at hv; cases hv
      | some w =>
        rw [hw] at hv; cases hv
        obtain ⟨u2, e4, d2⟩ := e2.get hw
        refine ⟨.tup [.int i, u2], ?_, ?_⟩
        · show ((s.get M').bind (·[i]?)).map _ = _
          rw [e3 M' h1, show (some us).bind (·[i]?) = us[i]? from rfl, e4]; rfl
        · rw [Nat.zero_add]; exact .tup (.cons (.int _) (.cons (d2.mono h1 h2) .nil))
  · cases d with | @cons v u _ _ a b => cases b with | @cons v2 u2 _ _ b c => cases c with | nil =>
    rename_i s t
    split at e
    · rename_i hl
      cases e
      cases a with | @tup _ us x => cases b with | @tup _ us2 y =>
      refine ⟨.zip (.im us) (.im us2), rfl, fun M' Z' h1 h2 => ⟨?_, fun i v hv => ?_⟩⟩
      · show (if us.length = us2.length then some us.length else none) = _
        rw [if_pos (by rw [x.length, y.length, hl]), x.length]; simp [hl]
      · rw [List.getElem?_map] at hv
        cases hz : (s.zip t)[i]? with
        | none => rw [hz] at hv; cases hv
        | some q =>
          rw [hz] at hv; cases hv
          rw [List.getElem?_zip_eq_some] at hz
          obtain ⟨w1, g1, d1⟩ := x.get hz.1
          obtain ⟨w2, g2, d2⟩ := y.get hz.2
          refine ⟨.tup [w1, w2], ?_, .tup (.cons (d1.mono h1 h2) (.cons (d2.mono h1 h2) .nil))⟩
          show (match us[i]?, us2[i]? with | some a, some b => some (Val.tup [a, b]) | _, _ => none) = _
          rw [g1, g2]
    · cases e
  · cases d with | @cons v u _ _ a b => cases b with | @cons v2 u2 _ _ b c => cases c with | nil =>
    rename_i s t
    split at e
    · rename_i hl
      cases e
      cases a with | @lst _ us n z g x => cases b with | @lst _ us2 n2 z2 g2 y =>
      refine ⟨.zip (.mu n) (.mu n2), ?_, fun M' Z' h1 h2 => ⟨?_, fun i v hv => ?_⟩⟩
      · have q1 : sqOf h.M (.ref n) = some (.mu n) := by
          show (match h.M[n]? with | some (.lst _) => some (Sq.mu n) | some (.rol _) => some (Sq.mu n) | _ => none) = _
          rw [g]
        have q2 : sqOf h.M (.ref n2) = some (.mu n2) := by
          show (match h.M[n2]? with | some (.lst _) => some (Sq.mu n2) | some (.rol _) => some (Sq.mu n2) | _ => none) = _
          rw [g2]
        unfold srcOf
        dsimp only
        rw [q1, q2]
      · show (match (match M'[n]? with | some (.lst vs) => some vs | some (.rol vs) => some vs | _ => none), (match M'[n2]? with | some (.lst vs) => some vs | some (.rol vs) => some vs | _ => none) with | some a, some b => if a.length = b.length then some a.length else none | _, _ => none) = _
        rw [h1 n z, g, h1 n2 z2, g2]
        dsimp only
        rw [if_pos (by rw [x.length, y.length, hl]), x.length]; simp [hl]
      · rw [List.getElem?_map] at hv
        cases hz : (s.zip t)[i]? with
        | none => rw [hz] at hv; cases hv
        | some q =>
          rw [hz] at hv; cases hv
          rw [List.getElem?_zip_eq_some] at hz
          obtain ⟨w1, k1, d1⟩ := x.get hz.1
          obtain ⟨w2, k2, d2⟩ := y.get hz.2
          refine ⟨.tup [w1, w2], ?_, .tup (.cons (d1.mono h1 h2) (.cons (d2.mono h1 h2) .nil))⟩
          show (match (match M'[n]? with | some (.lst vs) => some vs | some (.rol vs) => some vs | _ => none).bind (·[i]?), (match M'[n2]? with | some (.lst vs) => some vs | some (.rol vs) => some vs | _ => none).bind (·[i]?) with | some a, some b => some (Val.tup [a, b]) | _, _ => none) = _
          rw [h1 n z, g, h1 n2 z2, g2]
          dsimp only
          rw [show (some us).bind (·[i]?) = us[i]? from rfl, show (some us2).bind (·[i]?) = us2[i]? from rfl, k1, k2]
    · cases e
  · cases e
end
end Mn.Pn
end -- Pn7
section -- Pn8
set_option linter.all false
set_option autoImplicit false
set_option maxRecDepth 100000
namespace Mn.Pn
open PySem L2
/-! ### methods -/
def Ob (h : Hs) (p : P) (o : Obj) : Prop := match p with
  | .fz _ => False
  | .ol vs => ∃ us, o = .lst us ∧ Dens h.M h.Z vs us
  | .od vs => ∃ us, o = .dct us ∧ Denp h.M h.Z vs us
  | .oi C vs => ∃ us, o = .ins C us ∧ Denf h.M h.Z vs us
section
variable {B B1 : Nat → Prop} {h h' : Hs} {ρ ρ' : PEnv} {σ : Env}
theorem Inv.upd (I : Inv B h ρ σ) {i n : Nat} {p p' : P} (hp : ρ[i]? = some (some p)) (hs : σ[i]? = some (some (.ref n))) (hA : h.A i = some n) {o : Obj} (ho : Ob h p' o) :
    Stp B h ⟨h.Z, h.A, h.M.set n o⟩ ∧ Inv B ⟨h.Z, h.A, h.M.set n o⟩ (ρ.set i (some p')) σ := by
  obtain ⟨a1, a2, a3⟩ := I.ow i n hA
  have ne : ∀ m, m ≠ n → (h.M.set n o)[m]? = h.M[m]? := fun m hm => List.getElem?_set_ne (fun z => hm z.symm)
  have s : Stp B h ⟨h.Z, h.A, h.M.set n o⟩ := ⟨by simp, fun m z => ne m fun y => by subst y; exact a1 z, fun _ z => z, fun m z => ne m fun y => by subst y; exact a2 z, fun _ _ z => .inl z⟩
  refine ⟨s, ⟨by rw [List.length_set]; exact I.len, fun m z => by rw [List.length_set]; exact I.bl m z, fun m z => by show m < (h.M.set n o).length; rw [List.length_set]; exact I.zl m z, fun j m z => by
    obtain ⟨b1, b2, b3⟩ := I.ow j m z
    exact ⟨b1, b2, by show m < (h.M.set n o).length; rw [List.length_set]; exact b3⟩, I.inj, fun j q hq => ?_⟩⟩
  rcases getElem?_set_cases hq with ⟨rfl, hq, hl⟩ | ⟨hj, hq⟩
  · cases hq
    refine ⟨_, hs, ?_⟩
    have g : (h.M.set n o)[n]? = some o := List.getElem?_set_self a3
    have : Own ⟨h.Z, h.A, h.M.set n o⟩ p' n := by
      cases p' with
      | fz v => exact ho.elim
      | ol vs => obtain ⟨us, rfl, d⟩ := ho; exact ⟨us, g, d.stp s⟩
      | od vs => obtain ⟨us, rfl, d⟩ := ho; exact ⟨us, g, d.stp s⟩
      | oi C vs => obtain ⟨us, rfl, d⟩ := ho; exact ⟨us, g, d.mono s.zz s.z⟩
    show Slot _ (h.A j) p' _
    rw [hA]; exact Slot.of this
  · obtain ⟨w, e, sl⟩ := I.sl j q hq
    refine ⟨w, e, ?_⟩
    cases hf : q.isF with
    | true => obtain ⟨v, rfl, d⟩ := sl.fzd hf; exact d.mono s.zz s.z
    | false =>
      obtain ⟨m, rfl, em, o2⟩ := sl.own hf
      show Slot _ (h.A j) q _
      rw [em]
      exact Slot.of (o2.move (ne m fun y => hj (by subst y; exact I.inj j i m em hA)) s.zz s.z)
/-- the object that a name holds for itself -/
theorem own_at (I : Inv B h ρ σ) {i : Nat} {p : P} {u : Val} (hp : ρ[i]? = some (some p)) (hf : p.isF = false) (hu : σ[i]? = some (some u)) : ∃ n, u = .ref n ∧ h.A i = some n ∧ Own h p n := by
  obtain ⟨w, e, s⟩ := I.sl i p hp
  rw [hu] at e; cases e
  exact s.own hf
theorem ownL_at {n : Nat} {us : List Val} (g : h.M[n]? = some (.lst us)) : ownL h.M (.ref n) = some (n, us) := by
  show (match h.M[n]? with | some (.lst vs) => some (n, vs) | _ => none) = _
  rw [g]
theorem ownD_at {n : Nat} {us : List (Val × Val)} (g : h.M[n]? = some (.dct us)) : ownD h.M (.ref n) = some (n, us) := by
  show (match h.M[n]? with | some (.dct vs) => some (n, vs) | _ => none) = _
  rw [g]
theorem sim_upd (I : Inv B h ρ σ) {i n : Nat} {p p' : P} {v : Pv} {u : Val} {o : Obj} {mr : Res Val} (hp : ρ[i]? = some (some p)) (hs : σ[i]? = some (some (.ref n))) (hA : h.A i = some n) (ho : Ob h p' o) (d : Den h.M h.Z v u) (e : mr = .ok u (h.M.set n o)) :
    SimR B h σ (PO.ok (fzr v) (ρ.set i (some p'))) mr (fun h' r u => RelR B h' σ r u) := fun b ρ' e2 => by
  cases e2
  obtain ⟨s, I2⟩ := I.upd hp hs hA ho
  exact ⟨u, _, e, s, I2, d.stp s⟩
theorem chk_d {α : Type} {q : Prop} [Decidable q] {r : Res α} (e : q) : chk (decide q) r = r := by unfold chk; rw [decide_eq_true e]; rfl
theorem pbmeth_ok (m : BM) {r : R} {u : Val} {rs : List R} {us : List Val} (I : Inv B h ρ σ) (x : RelR B h σ r u) (xs : RelRs B h σ rs us) :
    SimR B h σ (pbmeth m r rs ρ) (bmeth m u us h.M) (fun h' r u => RelR B h' σ r u) := by
  have cl := cap_line
  cases m with
  | append =>
    refine SimR.tks I xs fun vs ρ1 h1 m1 I1 mono d => ?_
    rw [← m1]
    cases r with
    | v p => exact sim_stuck
    | al i =>
      dsimp only
      split
      · rename_i ws v hp
        obtain ⟨n, rfl, hA, us2, g, dd⟩ := own_at I1 hp rfl x
        cases d with | @cons _ a _ _ da d2 => cases d2 with | nil =>
        split
        · rename_i hl
          refine sim_upd I1 hp x hA (o := .lst (us2 ++ [a])) ⟨_, rfl, dd.append (.cons da .nil)⟩ .non ?_
          show (match ownL h1.M (.ref n) with | some p => mList .append p.1 p.2 [a] h1.M | none => .stuck) = _
          rw [ownL_at g]
          exact chk_d (by rw [dd.length]; omega)
        · exact sim_stuck
      · exact sim_stuck
  | insert =>
    refine SimR.tks I xs fun vs ρ1 h1 m1 I1 mono d => ?_
    rw [← m1]
    cases r with
    | v p => exact sim_stuck
    | al i =>
      dsimp only
      split
      · rename_i ws j v hp
        obtain ⟨n, rfl, hA, us2, g, dd⟩ := own_at I1 hp rfl x
        cases d with | @cons _ b _ _ db d2 => cases d2 with | @cons _ a _ _ da d3 => cases d3 with | nil =>
        cases db
        split
        · rename_i hl
          refine sim_upd I1 hp x hA (o := .lst (a :: us2)) ⟨_, rfl, .cons da dd⟩ .non ?_
          show (match ownL h1.M (.ref n) with | some p => mList .insert p.1 p.2 [.int j, a] h1.M | none => .stuck) = _
          rw [ownL_at g]
          exact chk_t (by rw [Bool.and_eq_true, decide_eq_true_eq, decide_eq_true_eq]; exact ⟨hl.1, by rw [dd.length]; omega⟩)
        · exact sim_stuck
      · exact sim_stuck
  | extend =>
    show SimR B h σ (match pks ρ rs with | some [.lst ws] => _ | some [.tup ws] => _ | _ => _) _ _
    split
    · rename_i ws hk
      have dk := pks_ok I (fun _ z => z) xs hk
      cases dk with | @cons _ w _ _ dw d2 => cases d2 with | nil =>
      obtain ⟨n2, ys, rfl, g2, dy⟩ := dw
      cases r with
      | v p => exact sim_stuck
      | al i =>
        dsimp only
        split
        · rename_i zs hp
          obtain ⟨n, rfl, hA, us2, g, dd⟩ := own_at I hp rfl x
          split
          · rename_i hl
            refine sim_upd I hp x hA (o := .lst (us2 ++ ys)) ⟨_, rfl, dd.append dy⟩ .non ?_
            show (match ownL h.M (.ref n) with | some p => mList .extend p.1 p.2 [.ref n2] h.M | none => .stuck) = _
            rw [ownL_at g]
            show (match ownL h.M (.ref n2) with | some q => chk (decide (us2.length + q.2.length ≤ sizeLine)) (setO n (.lst (us2 ++ q.2)) .non h.M) | none => _) = _
            rw [ownL_at g2]
            exact chk_d (by rw [dd.length, dy.length]; omega)
          · exact sim_stuck
        · exact sim_stuck
    · rename_i ws hk
      have dk := pks_ok I (fun _ z => z) xs hk
      cases dk with | @cons _ w _ _ dw d2 => cases d2 with | nil =>
      cases dw with | @tup _ ys dy =>
      cases r with
      | v p => exact sim_stuck
      | al i =>
        dsimp only
        split
        · rename_i zs hp
          obtain ⟨n, rfl, hA, us2, g, dd⟩ := own_at I hp rfl x
          split
          · rename_i hl
            refine sim_upd I hp x hA (o := .lst (us2 ++ ys)) ⟨_, rfl, dd.append dy⟩ .non ?_
            show (match ownL h.M (.ref n) with | some p => mList .extend p.1 p.2 [.tup ys] h.M | none => .stuck) = _
            rw [ownL_at g]
            exact chk_d (by rw [dd.length, dy.length]; omega)
          · exact sim_stuck
        · exact sim_stuck
    · exact sim_stuck
  | pop =>
    show SimR B h σ (match pks ρ rs, r with | some xs, .al i => _ | _, _ => _) _ _
    split
    · rename_i xs' i hk
      have dk := pks_ok I (fun _ z => z) xs hk
      split
      · rename_i vs hp
        obtain ⟨n, rfl, hA, us2, g, dd⟩ := own_at I hp rfl x
        split
        · cases dk with | nil =>
          split
          · rename_i v hv
            obtain ⟨a, ga, da⟩ := dd.get hv
            refine sim_upd I hp x hA (o := .lst us2.dropLast) ⟨_, rfl, dd.dropLast⟩ da ?_
            show (match ownL h.M (.ref n) with | some p => mList .pop p.1 p.2 [] h.M | none => .stuck) = _
            rw [ownL_at g]
            show (match us2[us2.length - 1]? with | some v => setO n (.lst us2.dropLast) v h.M | none => .stuck) = _
            rw [dd.length, ga]; rfl
          · exact sim_stuck
        · cases dk with | @cons _ b _ _ db d2 => cases d2 with | nil =>
          rename_i j
          cases db
          split
          · rename_i k hk2
            split
            · rename_i v hv
              obtain ⟨a, ga, da⟩ := dd.get hv
              refine sim_upd I hp x hA (o := .lst (us2.eraseIdx k)) ⟨_, rfl, dd.eraseIdx k⟩ da ?_
              show (match ownL h.M (.ref n) with | some p => mList .pop p.1 p.2 [.int j] h.M | none => .stuck) = _
              rw [ownL_at g]
              show (match ixOf j us2.length with | some k => (match us2[k]? with | some v => setO n (.lst (us2.eraseIdx k)) v h.M | none => .stuck) | none => .stuck) = _
              rw [dd.length, hk2]
              dsimp only
              rw [ga]; rfl
            · exact sim_stuck
          · exact sim_stuck
        · exact sim_stuck
      · exact sim_stuck
    · exact sim_stuck
  | count =>
    show SimR B h σ (match pk ρ r, pks ρ rs with | some x, some [.int i] => _ | _, _ => _) _ _
    split
    · rename_i v i hv hk
      have dk := pks_ok I (fun _ z => z) xs hk
      have dv := pk_ok I x hv
      cases dk with | @cons _ b _ _ db d2 => cases d2 with | nil =>
      cases db
      split
      · rename_i vs hs
        split
        · rename_i is hi
          obtain ⟨ys, e1, e2⟩ := lst_pk dv hs
          refine sim_fz I ?_ (.int _)
          show (match lstOf h.M u with | some vs => mRead .count vs [.int i] h.M | none => .stuck) = _
          rw [e1]
          show (match intsOf ys, Val.int i with | some is, .int i => Res.ok (Val.int (is.count i)) h.M | _, _ => .stuck) = _
          rw [pints_ok e2 hi]
        · exact sim_stuck
      · exact sim_stuck
    · exact sim_stuck
  | get =>
    refine SimR.tks I xs fun vs ρ1 h1 m1 I1 mono d => ?_
    rw [← m1]
    split
    · rename_i kvs k dflt hv
      cases d with | @cons _ b _ _ db d2 => cases d2 with | @cons _ a _ _ da d3 => cases d3 with | nil =>
      have dv : Pk h1 (.dct kvs) u := by
        cases r with
        | al i => exact pk_ok I1 (show RelR B h1 σ (.al i) u from x) hv
        | v p =>
          cases p with
          | fz w => cases hv; exact Den.pk (mono x)
          | _ => cases hv
      obtain ⟨n, ys, rfl, g, dd⟩ := dv
      split
      · rename_i hf
        have hd := dget_den dd db
        have e : bmeth .get (.ref n) [b, a] h1.M = .ok ((dget ys b).getD a) h1.M := by
          show (match ownD h1.M (.ref n) with | some p => mDict .get p.1 p.2 [b, a] h1.M | none => .stuck) = _
          rw [ownD_at g]
          exact chk_t (by rw [fits_den dd db]; exact hf)
        rcases hd with ⟨v, w, e1, e2, e3⟩ | ⟨e1, e2⟩
        · rw [e1]; exact sim_fz I1 (by rw [e, e2]; rfl) e3
        · rw [e1]; exact sim_fz I1 (by rw [e, e2]; rfl) da
      · exact sim_stuck
    · exact sim_stuck
  | setdefault =>
    refine SimR.tks I xs fun vs ρ1 h1 m1 I1 mono d => ?_
    rw [← m1]
    cases r with
    | v p => exact sim_stuck
    | al i =>
      dsimp only
      split
      · rename_i kvs k dflt hp
        obtain ⟨n, rfl, hA, us2, g, dd⟩ := own_at I1 hp rfl x
        cases d with | @cons _ b _ _ db d2 => cases d2 with | @cons _ a _ _ da d3 => cases d3 with | nil =>
        split
        · rename_i hf
          rw [Bool.and_eq_true, decide_eq_true_eq] at hf
          have e : bmeth .setdefault (.ref n) [b, a] h1.M = (match dget us2 b with | some v => Res.ok v h1.M | none => setO n (.dct (dput us2 b a)) a h1.M) := by
            show (match ownD h1.M (.ref n) with | some p => mDict .setdefault p.1 p.2 [b, a] h1.M | none => .stuck) = _
            rw [ownD_at g]
            exact chk_t (by rw [fits_den dd db, hf.1, dd.len, decide_eq_true (by omega)]; rfl)
          rcases dget_den dd db with ⟨v, w, e1, e2, e3⟩ | ⟨e1, e2⟩
          · rw [e1]; exact sim_fz I1 (by rw [e, e2]) e3
          · rw [e1]
            exact sim_upd I1 hp x hA (o := .dct (dput us2 b a)) ⟨_, rfl, dput_den dd db da⟩ da (by rw [e, e2]; rfl)
        · exact sim_stuck
      · exact sim_stuck
  | _ => exact sim_stuck
end
end Mn.Pn
end -- Pn8
section -- Pn9
set_option linter.all false
set_option autoImplicit false
set_option maxRecDepth 100000
namespace Mn.Pn
open PySem L2
section
variable {Γ : PGam} {γ : Gam}
def SE (Γ : PGam) (γ : Gam) (e : E) : Prop := ∀ (B : Nat → Prop) (h : Hs) (ρ : PEnv) (σ : Env), Inv B h ρ σ → SimR B h σ (pE Γ e ρ) (evE γ e σ h.M) (fun h' r u => RelR B h' σ r u)
def SEs (Γ : PGam) (γ : Gam) (es : List E) : Prop := ∀ (B : Nat → Prop) (h : Hs) (ρ : PEnv) (σ : Env), Inv B h ρ σ → SimR B h σ (pEs Γ es ρ) (evEs γ es σ h.M) (fun h' r u => RelRs B h' σ r u)
def SC (Γ : PGam) (γ : Gam) (es : List E) : Prop := ∀ (B : Nat → Prop) (h : Hs) (ρ : PEnv) (σ : Env), Inv B h ρ σ → SimR B h σ (pC Γ es ρ) (evC γ es σ h.M) (fun _ b b' => b = b')
section
variable {B : Nat → Prop} {h : Hs} {ρ : PEnv} {σ : Env}
/-- two operands -/
theorem two {a b : E} (ha : SE Γ γ a) (hb : SE Γ γ b) (I : Inv B h ρ σ) {f : R → R → PEnv → PO R} {g : Val → Val → Mem → Res Val}
    (k : ∀ r s ρ' u w h', Inv B h' ρ' σ → RelR B h' σ r u → RelR (bx B r u) h' σ s w → SimR B h' σ (f r s ρ') (g u w h'.M) (fun h' r u => RelR B h' σ r u)) :
    SimR B h σ ((pE Γ a ρ).bind fun r ρ => (pE Γ b ρ).bind fun s ρ => f r s ρ) ((evE γ a σ h.M).bind fun u M => (evE γ b σ M).bind fun w M => g u w M) (fun h' r u => RelR B h' σ r u) := by
  refine SimR.bind (fun _ z => z) (ha B h ρ σ I) fun r ρ1 u h1 s1 I1 x1 => ?_
  refine SimR.bind bx_l (hb (bx B r u) h1 ρ1 σ (I1.bx x1)) fun s ρ2 w h2 s2 I2 x2 => ?_
  exact k r s ρ2 u w h2 (I2.weak bx_l) (x1.stp s2 I2) x2
theorem pk2 {r s : R} {u w : Val} {x y : Pv} (I : Inv B h ρ σ) (x1 : RelR B h σ r u) (x2 : RelR (bx B r u) h σ s w) (e1 : pk ρ r = some x) (e2 : pk ρ s = some y) : Pk h x u ∧ Pk h y w := ⟨pk_ok I x1 e1, pk_ok I (x2.weak bx_l) e2⟩
end
theorem se_bin {op : Operator} {a b : E} (ha : SE Γ γ a) (hb : SE Γ γ b) : SE Γ γ (.bin op a b) := fun B h ρ σ I => by
  refine two ha hb I fun r s ρ' u w h' I' x1 x2 => ?_
  split
  · rename_i x y e1 e2
    obtain ⟨p1, p2⟩ := pk2 I' x1 x2 e1 e2
    split
    · rename_i p hp; exact sim_mk I' (bin_pk p1 p2 hp)
    · exact sim_stuck
  · exact sim_stuck
theorem se_cmp {op : CmpOp} {a b : E} (ha : SE Γ γ a) (hb : SE Γ γ b) : SE Γ γ (.cmp op a b) := fun B h ρ σ I => by
  refine two (g := fun x y M => ofO ((cmpop op x y M).map .bl) M) ha hb I fun r s ρ' u w h' I' x1 x2 => ?_
  split
  · rename_i x y e1 e2
    obtain ⟨p1, p2⟩ := pk2 I' x1 x2 e1 e2
    split
    · rename_i d hd; exact sim_fz I' (by rw [cmp_pk p1 p2 hd]; rfl) (.bl _)
    · exact sim_stuck
  · exact sim_stuck
theorem se_idx {a b : E} (ha : SE Γ γ a) (hb : SE Γ γ b) : SE Γ γ (.idx a b) := fun B h ρ σ I => by
  refine two (g := fun x y M => subs x y M) ha hb I fun r s ρ' u w h' I' x1 x2 => ?_
  split
  · rename_i x y e1 e2
    obtain ⟨p1, p2⟩ := pk2 I' x1 x2 e1 e2
    split
    · rename_i v hv
      obtain ⟨z, e, d⟩ := sub_pk p1 p2 hv
      exact sim_fz I' e d
    · exact sim_stuck
  · exact sim_stuck
theorem se_chain {o1 o2 : CmpOp} {a b c : E} (ha : SE Γ γ a) (hb : SE Γ γ b) (hc : SE Γ γ c) : SE Γ γ (.chain o1 o2 a b c) := fun B h ρ σ I => by
  refine two (g := fun x y M => match cmpop o1 x y M with
    | some true => (evE γ c σ M).bind fun z M => ofO ((cmpop o2 y z M).map .bl) M
    | some false => .ok (.bl false) M
    | none => .stuck) ha hb I fun r s ρ' u w h' I' x1 x2 => ?_
  split
  · rename_i x y e1 e2
    obtain ⟨p1, p2⟩ := pk2 I' x1 x2 e1 e2
    split
    · rename_i hd
      rw [cmp_pk p1 p2 hd]
      dsimp only
      refine SimR.bind bx_l (hc (bx B s w) h' ρ' σ (I'.bx (x2.weak bx_l))) fun t ρ2 z h2 s2 I2 x3 => ?_
      have x2' := RelR.stp (x2.weak bx_l) s2 I2
      have I2' := I2.weak (B := B) bx_l
      split
      · rename_i y2 z2 e3 e4
        split
        · rename_i d2 hd2
          exact sim_fz I2' (by rw [cmp_pk (pk_ok I2' x2' e3) (pk_ok I2' (x3.weak bx_l) e4) hd2]; rfl) (.bl _)
        · exact sim_stuck
      · exact sim_stuck
    · rename_i hd
      rw [cmp_pk p1 p2 hd]
      exact sim_fz I' rfl (.bl _)
    · exact sim_stuck
  · exact sim_stuck
theorem se_one {a : E} (ha : SE Γ γ a) {B : Nat → Prop} {h : Hs} {ρ : PEnv} {σ : Env} (I : Inv B h ρ σ) {f : R → PEnv → PO R} {g : Val → Mem → Res Val}
    (k : ∀ r ρ' u h', Inv B h' ρ' σ → RelR B h' σ r u → SimR B h' σ (f r ρ') (g u h'.M) (fun h' r u => RelR B h' σ r u)) :
    SimR B h σ ((pE Γ a ρ).bind f) ((evE γ a σ h.M).bind g) (fun h' r u => RelR B h' σ r u) :=
  SimR.bind (fun _ z => z) (ha B h ρ σ I) fun r ρ1 u h1 s1 I1 x1 => k r ρ1 u h1 I1 x1
theorem se_neg {a : E} (ha : SE Γ γ a) : SE Γ γ (.neg a) := fun B h ρ σ I => by
  refine se_one (g := fun x M => match x with | .int i => .ok (.int (-i)) M | _ => .stuck) ha I fun r ρ' u h' I' x => ?_
  split
  · rename_i i e
    have d := pk_ok I' x e
    cases d
    exact sim_fz I' rfl (.int _)
  · exact sim_stuck
theorem tr_ok {B : Nat → Prop} {h : Hs} {ρ : PEnv} {σ : Env} (I : Inv B h ρ σ) {r : R} {u : Val} {b : Bool} (x : RelR B h σ r u) (e : (pk ρ r).bind ptruth = some b) : truth h.M u = some b := by
  cases hp : pk ρ r with
  | none => rw [hp] at e; cases e
  | some v => rw [hp] at e; exact truth_pk (pk_ok I x hp) e
theorem se_not {a : E} (ha : SE Γ γ a) : SE Γ γ (.not a) := fun B h ρ σ I => by
  refine se_one (g := fun x M => ofO ((truth M x).map fun b => .bl (!b)) M) ha I fun r ρ' u h' I' x => ?_
  split
  · rename_i b e
    exact sim_fz I' (by rw [tr_ok I' x e]; rfl) (.bl _)
  · exact sim_stuck
theorem sim_r {B : Nat → Prop} {h : Hs} {ρ : PEnv} {σ : Env} (I : Inv B h ρ σ) {r : R} {u : Val} {mr : Res Val} (x : RelR B h σ r u) (e : mr = .ok u h.M) : SimR B h σ (.ok r ρ) mr (fun h' r u => RelR B h' σ r u) := fun b ρ' e2 => by
  cases e2; exact ⟨u, h, e, .refl, I, x⟩
theorem se_and {a b : E} (ha : SE Γ γ a) (hb : SE Γ γ b) : SE Γ γ (.and a b) := fun B h ρ σ I => by
  refine se_one (g := fun x M => match truth M x with | some true => evE γ b σ M | some false => .ok x M | none => .stuck) ha I fun r ρ' u h' I' x => ?_
  split
  · rename_i e; rw [tr_ok I' x e]; exact hb B h' ρ' σ I'
  · rename_i e; rw [tr_ok I' x e]; exact sim_r I' x rfl
  · exact sim_stuck
theorem se_or {a b : E} (ha : SE Γ γ a) (hb : SE Γ γ b) : SE Γ γ (.or a b) := fun B h ρ σ I => by
  refine se_one (g := fun x M => match truth M x with | some false => evE γ b σ M | some true => .ok x M | none => .stuck) ha I fun r ρ' u h' I' x => ?_
  split
  · rename_i e; rw [tr_ok I' x e]; exact hb B h' ρ' σ I'
  · rename_i e; rw [tr_ok I' x e]; exact sim_r I' x rfl
  · exact sim_stuck
theorem se_ite {c a b : E} (hc : SE Γ γ c) (ha : SE Γ γ a) (hb : SE Γ γ b) : SE Γ γ (.ite c a b) := fun B h ρ σ I => by
  refine se_one (g := fun x M => match truth M x with | some true => evE γ a σ M | some false => evE γ b σ M | none => .stuck) hc I fun r ρ' u h' I' x => ?_
  split
  · rename_i e; rw [tr_ok I' x e]; exact ha B h' ρ' σ I'
  · rename_i e; rw [tr_ok I' x e]; exact hb B h' ρ' σ I'
  · exact sim_stuck
theorem ppart_ok {e : E} (he : SE Γ γ e) (b : Bool) {B : Nat → Prop} {h : Hs} {ρ : PEnv} {σ : Env} (I : Inv B h ρ σ) : SimR B h σ (ppart b (pE Γ e ρ) ρ) (part b (evE γ e σ h.M) h.M) (fun _ l l' => l = l') := by
  cases b with
  | true => intro l ρ' e2; cases e2; exact ⟨none, h, rfl, .refl, I, rfl⟩
  | false =>
    refine SimR.bind (fun _ z => z) (he B h ρ σ I) fun r ρ1 u h1 s1 I1 x1 => ?_
    split
    · rename_i i e3
      have d := pk_ok I1 x1 e3
      cases d
      intro l ρ' e2; cases e2; exact ⟨some i, h1, rfl, .refl, I1, rfl⟩
    · exact sim_stuck
theorem se_sl {a lo hi : E} (ha : SE Γ γ a) (hl : SE Γ γ lo) (hh : SE Γ γ hi) : SE Γ γ (.sl a lo hi) := fun B h ρ σ I => by
  refine se_one (g := fun x M => (part lo.isNon (evE γ lo σ M) M).bind fun l M => (part hi.isNon (evE γ hi σ M) M).bind fun h M => sliceB x l h M) ha I fun r ρ' u h' I' x => ?_
  refine SimR.bind bx_l (ppart_ok hl lo.isNon (I'.bx x)) fun l ρ1 l' h1 s1 I1 e1 => ?_
  subst e1
  refine SimR.bind bx_l (ppart_ok hh hi.isNon I1) fun q ρ2 q' h2 s2 I2 e2 => ?_
  subst e2
  have x2 := RelR.stp x (s1.trans s2) I2
  have I2' := I2.weak (B := B) bx_l
  cases hp : pk ρ2 r with
  | none => exact sim_stuck
  | some v =>
    show SimR B h2 σ (match pslice v l q with | some p => PO.ok (R.v p) ρ2 | none => .stuck) _ _
    split
    · rename_i p e3; exact sim_mk I2' (slice_pk (pk_ok I2' x2 hp) e3)
    · exact sim_stuck
theorem se_slr {a : E} (ha : SE Γ γ a) : SE Γ γ (.slr a) := fun B h ρ σ I => by
  refine se_one (g := fun x M => sliceRev x M) ha I fun r ρ' u h' I' x => ?_
  cases hp : pk ρ' r with
  | none => exact sim_stuck
  | some v =>
    show SimR B h' σ (match prevs v with | some p => PO.ok (R.v p) ρ' | none => .stuck) _ _
    split
    · rename_i p e3; exact sim_mk I' (revs_pk (pk_ok I' x hp) e3)
    · exact sim_stuck
theorem ins_pk {h : Hs} {C : Str} {fs : List (Str × Pv)} {u : Val} (d : Pk h (.ins C fs) u) : ∃ n us, u = .ref n ∧ h.M[n]? = some (.ins C us) ∧ Denf h.M h.Z fs us := d
theorem se_attr {o : E} {f : Str} (G : GamOk Γ γ) (ho : SE Γ γ o) : SE Γ γ (.attr o f) := fun B h ρ σ I => by
  refine se_one (g := fun x M => match x with
    | .ref n => match M[n]? with
      | some (.ins C fs) => if γ.fld C f then ofO (fs.lookup f) M else .stuck
      | _ => .stuck
    | _ => .stuck) ho I fun r ρ' u h' I' x => ?_
  split
  · rename_i C fs e
    obtain ⟨n, us, rfl, g, d⟩ := ins_pk (pk_ok I' x e)
    split
    · rename_i hf
      split
      · rename_i v hv
        obtain ⟨w, e2, d2⟩ := lookup_den d hv
        refine sim_fz I' ?_ d2
        dsimp only
        rw [g]
        dsimp only
        rw [← G.fld, if_pos hf, e2]; rfl
      · exact sim_stuck
    · exact sim_stuck
  · exact sim_stuck
theorem se_var {i : Nat} : SE Γ γ (.var i) := fun B h ρ σ I => by
  show SimR B h σ (match ρ[i]? with | some (some p) => PO.ok (if p.isF then R.v p else R.al i) ρ | _ => .stuck) _ _
  split
  · rename_i p hp
    obtain ⟨u, e, s⟩ := I.sl i p hp
    refine sim_r I (u := u) ?_ ?_
    · cases hf : p.isF with
      | true => obtain ⟨v, rfl, d⟩ := s.fzd hf; exact d
      | false => exact e
    · show (match σ[i]? with | some (some v) => Res.ok v h.M | _ => .stuck) = _
      rw [e]
  · exact sim_stuck
theorem se_glob {x : Str} (G : GamOk Γ γ) : SE Γ γ (.glob x) := fun B h ρ σ I => by
  show SimR B h σ (match Γ.glob x with | some v => .ok (fzr v) ρ | none => .stuck) _ _
  split
  · rename_i v hv
    obtain ⟨u, e, d⟩ := G.glob x v hv
    exact sim_fz I (by show ofO (γ.glob x) h.M = _; rw [e]; rfl) (d _ _)
  · exact sim_stuck
/-! ### several -/
theorem ses_nil : SEs Γ γ [] := fun B h ρ σ I => fun b ρ' e => by cases e; exact ⟨[], h, rfl, .refl, I, trivial⟩
theorem ses_cons {e : E} {es : List E} (he : SE Γ γ e) (hs : SEs Γ γ es) : SEs Γ γ (e :: es) := fun B h ρ σ I => by
  refine SimR.bind (g := fun v M => (evEs γ es σ M).bind fun vs M => .ok (v :: vs) M) (fun _ z => z) (he B h ρ σ I) fun r ρ1 u h1 s1 I1 x1 => ?_
  refine SimR.bind (g := fun vs M => .ok (u :: vs) M) bx_l (hs (bx B r u) h1 ρ1 σ (I1.bx x1)) fun rs ρ2 us h2 s2 I2 x2 => ?_
  intro b ρ' e2
  cases e2
  exact ⟨u :: us, h2, rfl, .refl, I2.weak bx_l, x1.stp s2 I2, x2⟩
theorem sc_nil : SC Γ γ [] := fun B h ρ σ I => fun b ρ' e => by cases e; exact ⟨true, h, rfl, .refl, I, rfl⟩
theorem sc_cons {e : E} {es : List E} (he : SE Γ γ e) (hs : SC Γ γ es) : SC Γ γ (e :: es) := fun B h ρ σ I => by
  refine SimR.bind (g := fun v M => match truth M v with | some true => evC γ es σ M | some false => .ok false M | none => .stuck) (fun _ z => z) (he B h ρ σ I) fun r ρ1 u h1 s1 I1 x1 => ?_
  split
  · rename_i e1; rw [tr_ok I1 x1 e1]; exact hs B h1 ρ1 σ I1
  · rename_i e1; rw [tr_ok I1 x1 e1]; intro b ρ' e; cases e; exact ⟨false, h1, rfl, .refl, I1, rfl⟩
  · exact sim_stuck
/-- operands, kept for good -/
theorem sim_all {es : List E} (hs : SEs Γ γ es) {B : Nat → Prop} {h : Hs} {ρ : PEnv} {σ : Env} (I : Inv B h ρ σ) {α β : Type} {f : List Pv → PEnv → PO β} {g : List Val → Mem → Res α} {Q : Hs → β → α → Prop}
    (k : ∀ vs ρ' us h', Stp B h h' → Inv B h' ρ' σ → Dens h'.M h'.Z vs us → SimR B h' σ (f vs ρ') (g us h'.M) Q) :
    SimR B h σ ((pEs Γ es ρ).bind fun rs ρ => (tks rs ρ).bind f) ((evEs γ es σ h.M).bind g) Q := by
  intro b ρ' e
  obtain ⟨rs, ρ1, e1, e2⟩ := PO.bind_inv e
  obtain ⟨us, h1, e3, s1, I1, x1⟩ := hs B h ρ σ I rs ρ1 e1
  obtain ⟨vs, ρ2, e4, e5⟩ := PO.bind_inv e2
  obtain ⟨h2, N, f2, n2, I2, d2⟩ := tks_ok I1 x1 e4
  have s2 := f2.stp I1 n2
  obtain ⟨a, h3, e6, s3, I3, q⟩ := k vs ρ2 us h2 (s1.trans s2) I2 d2 b ρ' e5
  exact ⟨a, h3, by rw [e3]; show g us h1.M = _; rw [← f2.m]; exact e6, (s1.trans s2).trans s3, I3, q⟩
theorem se_tup {es : List E} (hs : SEs Γ γ es) : SE Γ γ (.tup es) := fun B h ρ σ I =>
  sim_all (f := fun vs ρ => PO.ok (fzr (Pv.tup vs)) ρ) (g := fun vs M => Res.ok (Val.tup vs) M) hs I fun vs ρ' us h' s I' d => sim_fz I' rfl (.tup d)
theorem se_lst {es : List E} (hs : SEs Γ γ es) : SE Γ γ (.lst es) := fun B h ρ σ I =>
  sim_all (f := fun vs ρ => PO.ok (R.v (P.ol vs)) ρ) (g := fun vs M => new (.lst vs) M) hs I fun vs ρ' us h' s I' d => sim_mk (p := .ol vs) I' ⟨us, rfl, d⟩
theorem se_dct {ks vs : List E} (hk : SEs Γ γ ks) (hv : SEs Γ γ vs) : SE Γ γ (.dct ks vs) := fun B h ρ σ I => by
  intro b ρ' e
  obtain ⟨rk, ρ1, e1, e⟩ := PO.bind_inv (show (pEs Γ ks ρ).bind _ = _ from e)
  obtain ⟨uk, h1, f1, s1, I1, x1⟩ := hk B h ρ σ I rk ρ1 e1
  obtain ⟨rv, ρ2, e2, e⟩ := PO.bind_inv e
  obtain ⟨uv, h2, f2, s2, I2, x2⟩ := hv (bxs B rk uk) h1 ρ1 σ (I1.bxs x1) rv ρ2 e2
  obtain ⟨pv, ρ3, e3, e⟩ := PO.bind_inv e
  obtain ⟨h3, N3, z3, n3, I3, d3⟩ := tks_ok I2 x2 e3
  obtain ⟨pk, ρ4, e4, e⟩ := PO.bind_inv e
  have s3 := z3.stp I2 n3
  have x1' := x1.stp (s2.trans s3) I3
  have I3' := I3.weak (B := B) bxs_l
  obtain ⟨h4, N4, z4, n4, I4, d4⟩ := tks_ok I3' x1' e4
  have s4 := z4.stp I3' n4
  cases hp : pdputs [] (pk.zip pv) with
  | none => rw [hp] at e; cases e
  | some kvs =>
    rw [hp] at e
    obtain ⟨q, e5, e6⟩ := dputs_den .nil (Dens.zip d4 (d3.stp s4)) hp
    obtain ⟨u, h5, e7, s5, I5, x5⟩ := sim_mk (p := .od kvs) (mr := new (.dct q) h4.M) I4 ⟨q, rfl, e6⟩ b ρ' e
    refine ⟨u, h5, ?_, (((s1.trans (s2.weak bxs_l)).trans (s3.weak bxs_l)).trans s4).trans s5, I5, x5⟩
    show (evEs γ ks σ h.M).bind _ = _
    rw [f1]
    show (evEs γ vs σ h1.M).bind _ = _
    rw [f2]
    show (match dputs [] (uk.zip uv) with | some kvs => new (.dct kvs) h2.M | none => .stuck) = _
    rw [e5]
    show new (.dct q) h2.M = _
    rw [← z3.m, ← z4.m]; exact e7
theorem se_bcall {f : BF} {es : List E} (hs : SEs Γ γ es) : SE Γ γ (.bcall f es) := fun B h ρ σ I => by
  refine SimR.bind (g := fun vs M => bcall f vs M) (fun _ z => z) (hs B h ρ σ I) fun rs ρ1 us h1 s1 I1 x1 => ?_
  cases hp : pks ρ1 rs with
  | none => exact sim_stuck
  | some vs =>
    show SimR B h1 σ (match pbcall f vs with | some p => PO.ok (R.v p) ρ1 | none => .stuck) _ _
    split
    · rename_i p e; exact sim_mk I1 (bcall_pk (pks_ok I1 (fun _ z => z) x1 hp) e)
    · exact sim_stuck
theorem pks_den {h : Hs} {vs : List Pv} {us : List Val} (d : Pks h vs us) {l : List Pv} (e : prangeOf vs = some l) : Dens h.M h.Z vs us := by
  unfold prangeOf at e
  split at e
  · cases d with | cons a b => cases b with | nil =>
    exact .cons a .nil
  · cases d with | cons a b => cases b with | cons b c => cases c with | nil =>
    exact .cons a (.cons b .nil)
  · cases d with | cons a b => cases b with | cons b c => cases c with | cons c d => cases d with | nil =>
    exact .cons a (.cons b (.cons c .nil))
  · cases e
theorem se_rng {es : List E} (hs : SEs Γ γ es) : SE Γ γ (.rng es) := fun B h ρ σ I => by
  refine SimR.bind (g := fun vs M => match rangeOf vs with | some l => chk (decide (vs.length ≤ 2 ∧ l.length ≤ sizeLine)) (Res.ok (Val.tup l) M) | none => .stuck) (fun _ z => z) (hs B h ρ σ I) fun rs ρ1 us h1 s1 I1 x1 => ?_
  cases hp : pks ρ1 rs with
  | none => exact sim_stuck
  | some vs =>
    show SimR B h1 σ (match (if vs.length ≤ 2 then prangeOf vs else none) with | some l => if l.length ≤ 1000000 then .ok (fzr (.tup l)) ρ1 else .stuck | none => .stuck) _ _
    have dk := pks_ok I1 (fun _ z => z) x1 hp
    split
    · rename_i l e
      split at e
      · rename_i h2
        have dd := pks_den dk e
        obtain ⟨xs, e1, e2⟩ := prange_ok dd e
        split
        · rename_i hl
          refine sim_fz I1 ?_ (.tup e2)
          rw [e1]
          exact chk_d ⟨by rw [dd.length]; exact h2, by rw [e2.length]; exact Nat.le_trans hl cap_line⟩
        · exact sim_stuck
      · cases e
    · exact sim_stuck
theorem se_call {f : Str} {es kes : List E} {kns : List Str} (G : GamOk Γ γ) (hs : SEs Γ γ es) (hk : SEs Γ γ kes) : SE Γ γ (.call f es kns kes) := fun B h ρ σ I => by
  refine SimR.bind (g := fun vs M => (evEs γ kes σ M).bind fun ws M => γ.call f vs (kns.zip ws) M) (fun _ z => z) (hs B h ρ σ I) fun rs ρ1 us h1 s1 I1 x1 => ?_
  refine SimR.bind (g := fun ws M => γ.call f us (kns.zip ws) M) bxs_l (hk (bxs B rs us) h1 ρ1 σ (I1.bxs x1)) fun ks ρ2 xs h2 s2 I2 x2 => ?_
  exact pcallR_ok G (I2.weak bxs_l) x2 (x1.stp s2 I2)
theorem se_make {C : Str} {es kes : List E} {kns : List Str} (G : GamOk Γ γ) (hs : SEs Γ γ es) (hk : SEs Γ γ kes) : SE Γ γ (.make C es kns kes) := fun B h ρ σ I => by
  refine SimR.bind (g := fun vs M => (evEs γ kes σ M).bind fun ws M => γ.make C vs (kns.zip ws) M) (fun _ z => z) (hs B h ρ σ I) fun rs ρ1 us h1 s1 I1 x1 => ?_
  refine SimR.bind (g := fun ws M => γ.make C us (kns.zip ws) M) bxs_l (hk (bxs B rs us) h1 ρ1 σ (I1.bxs x1)) fun ks ρ2 xs h2 s2 I2 x2 => ?_
  exact pmakeR_ok G (I2.weak bxs_l) x2 (x1.stp s2 I2)
theorem se_meth {C m : Str} {o : E} {es kes : List E} {kns : List Str} (G : GamOk Γ γ) (ho : SE Γ γ o) (hs : SEs Γ γ es) (hk : SEs Γ γ kes) : SE Γ γ (.meth C m o es kns kes) := fun B h ρ σ I => by
  refine se_one (g := fun x M => match x with
    | .ref n => match M[n]? with
      | some (.ins D fs) => if D = C ∧ fs.lookup m = none then (evEs γ es σ M).bind fun vs M => (evEs γ kes σ M).bind fun ws M => γ.call (C ++ Str.ofString "." ++ m) (.ref n :: vs) (kns.zip ws) M else .stuck
      | _ => .stuck
    | _ => .stuck) ho I fun r ρ1 u h1 I1 x1 => ?_
  split
  · rename_i D fs e
    obtain ⟨n, us, rfl, g, d⟩ := ins_pk (pk_ok I1 x1 e)
    split
    · rename_i hc
      dsimp only
      rw [g]
      dsimp only
      rw [if_pos ⟨hc.1, lookup_none d hc.2⟩]
      refine SimR.bind bx_l (hs (bx B r (.ref n)) h1 ρ1 σ (I1.bx x1)) fun rs ρ2 us h2 s2 I2 x2 => ?_
      have x1' := x1.stp s2 I2
      have xx : RelRs B h2 σ (r :: rs) (.ref n :: us) := ⟨x1', x2⟩
      refine SimR.bind bxs_l (hk (bxs B (r :: rs) (.ref n :: us)) h2 ρ2 σ ((I2.weak bx_l).bxs xx)) fun ks ρ3 xs h3 s3 I3 x3 => ?_
      exact pcallR_ok G (I3.weak bxs_l) x3 (xx.stp s3 I3)
    · exact sim_stuck
  · exact sim_stuck
theorem recv_pk {m : BM} {h : Hs} {o : Option Pv} {v : Pv} {u : Val} (e : precv m o = true) (ho : o = some v) (d : Pk h v u) : recvOk m h.M u = true := by
  subst ho
  cases v with
  | lst vs =>
    obtain ⟨n, us, rfl, g, dd⟩ := d
    cases m <;> first
      | (cases (show false = true from e))
      | (show (ownL h.M (.ref n)).isSome = true; rw [ownL_at g]; rfl)
      | (show (lstOf h.M (.ref n)).isSome = true; show (match h.M[n]? with | some (.lst vs) => some vs | some (.rol vs) => some vs | _ => none).isSome = true; rw [g]; rfl)
  | rol vs =>
    obtain ⟨n, us, rfl, g, dd⟩ := d
    cases m <;> first
      | (cases (show false = true from e))
      | (show (lstOf h.M (.ref n)).isSome = true; show (match h.M[n]? with | some (.lst vs) => some vs | some (.rol vs) => some vs | _ => none).isSome = true; rw [g]; rfl)
  | dct vs =>
    obtain ⟨n, us, rfl, g, dd⟩ := d
    cases m <;> first
      | (cases (show false = true from e))
      | (show (ownD h.M (.ref n)).isSome = true; rw [ownD_at g]; rfl)
  | _ => cases m <;> cases e
theorem se_bmeth {m : BM} {o : E} {es : List E} (ho : SE Γ γ o) (hs : SEs Γ γ es) : SE Γ γ (.bmeth m o es) := fun B h ρ σ I => by
  refine se_one (g := fun x M => if recvOk m M x then (evEs γ es σ M).bind fun vs M => bmeth m x vs M else .stuck) ho I fun r ρ1 u h1 I1 x1 => ?_
  split
  · rename_i hr
    cases hp : pk ρ1 r with
    | none => rw [hp] at hr; cases hr
    | some v =>
      rw [if_pos (recv_pk hr hp (pk_ok I1 x1 hp))]
      refine SimR.bind bx_l (hs (bx B r u) h1 ρ1 σ (I1.bx x1)) fun rs ρ2 us h2 s2 I2 x2 => ?_
      exact pbmeth_ok m (I2.weak bx_l) (x1.stp s2 I2) (x2.weak bx_l)
  · exact sim_stuck
/-! ### comprehensions -/
def RelO (h : Hs) : Option Pv → Option Val → Prop
  | none, none => True
  | some v, some u => Den h.M h.Z v u
  | _, _ => False
mutual
theorem pasgT_len {pin : Nat → Bool} : ∀ (t : T) {v : Pv} {ρ ρ' : PEnv}, pasgT pin t v ρ = some ρ' → ρ'.length = ρ.length
    | .nm i, v, ρ, ρ', e => by
      have e : (if i < ρ.length && !pin i then some (ρ.set i (some (.fz v))) else none) = some ρ' := e
      split at e
      · cases e; rw [List.length_set]
      · cases e
    | .tp ts, v, ρ, ρ', e => by
      cases v with
      | tup vs => exact pasgTs_len ts e
      | _ => cases e
theorem pasgTs_len {pin : Nat → Bool} : ∀ (ts : List T) {vs : List Pv} {ρ ρ' : PEnv}, pasgTs pin ts vs ρ = some ρ' → ρ'.length = ρ.length
    | [], vs, ρ, ρ', e => by cases vs <;> cases e; rfl
    | t :: ts, [], ρ, ρ', e => by cases e
    | t :: ts, v :: vs, ρ, ρ', e => by
      have e : (match pasgT pin t v ρ with | some ρ' => pasgTs pin ts vs ρ' | none => none) = some ρ' := e
      split at e
      · rename_i ρ1 h1
        rw [pasgTs_len ts e, pasgT_len t h1]
      · cases e
end
theorem comp_ok {g : PEnv → PO (Option Pv)} {f : Env → Mem → Res (Option Val)} {src : Src} {tg : T} {own : List Nat} {σw : Env} {len : Nat} {B : Nat → Prop}
    (hg : ∀ (h : Hs) (ρ : PEnv) (σ : Env), Inv B h ρ σ → SimR B h σ (g ρ) (f σ h.M) (fun h' o o' => RelO h' o o')) :
    ∀ (n : Nat) (l : List Pv) (L : List Pv) (h0 : Hs) (acc : List Val) (h : Hs) (ρ ρ' : PEnv) (ws : List Pv), SrcOk h0 src L → L.length = len → L.drop (len - n) = l → n ≤ len → Stp B h0 h → Inv B h (pwipe ρ own) σw → pcompL g own tg l ρ = .ok ws ρ' →
      ∃ us h', compL f src tg σw len n acc h.M = .ok (acc.reverse ++ us) h'.M ∧ Stp B h h' ∧ Inv B h' (pwipe ρ' own) σw ∧ Dens h'.M h'.Z ws us
  | 0, l, L, h0, acc, h, ρ, ρ', ws, hS, hL, hl, hn, s, I, e => by
    rw [Nat.sub_zero, ← hL, List.drop_length] at hl
    subst hl
    cases e
    have := (hS h.M h.Z s.zz s.z).1
    refine ⟨[], h, ?_, .refl, I, .nil⟩
    unfold compL
    rw [this, hL, if_pos rfl, List.append_nil]
  | n + 1, l, L, h0, acc, h, ρ, ρ', ws, hS, hL, hl, hn, s, I, e => by
    have hk : len - (n + 1) < L.length := by omega
    rw [List.drop_eq_getElem_cons hk] at hl
    subst hl
    have e5 : len - (n + 1) + 1 = len - n := by omega
    rw [e5] at e
    unfold pcompL at e
    split at e
    · cases e
    · rename_i ρ1 ha
      obtain ⟨o, ρ2, e1, e⟩ := PO.bind_inv e
      obtain ⟨vs, ρ3, e2, e⟩ := PO.bind_inv e
      cases e
      obtain ⟨u, hu, du⟩ := (hS h.M h.Z s.zz s.z).2 (len - (n + 1)) _ (List.getElem?_eq_getElem hk)
      obtain ⟨σ1, g1, I1, p1⟩ := pasgT_ok (M := h.M) tg I du ha
      obtain ⟨o', h1, g2, s1, I2, ro⟩ := hg h ρ1 σ1 I1 o ρ2 e1
      have hl1 : σ1.length = σw.length := by
        have z1 := I1.len
        have z2 := I.len
        have := pasgT_len tg ha
        omega
      have I3 : Inv B h1 (pwipe ρ2 own) σw := I2.rewipe hl1 fun i hi => p1 i (by unfold pinO; simpa using hi)
      have step : ∀ acc', ∃ us h', compL f src tg σw len n acc' h1.M = .ok (acc'.reverse ++ us) h'.M ∧ Stp B h1 h' ∧ Inv B h' (pwipe ρ' own) σw ∧ Dens h'.M h'.Z vs us := fun acc' => comp_ok hg n _ L h0 acc' h1 ρ2 ρ' vs hS hL rfl (by omega) (s.trans s1) I3 e2
      rw [hL] at hu
      have unf : compL f src tg σw len (n + 1) acc h.M = (match f σ1 h.M with | .ok none M' => compL f src tg σw len n acc M' | .ok (some w) M' => compL f src tg σw len n (w :: acc) M' | _ => .stuck) := by
        show (match src.at h.M len (len - (n + 1)) with | none => Res.stuck | some v => match asgT h.M tg v σw with | none => Res.stuck | some ρ' => match f ρ' h.M with | .ok none M' => compL f src tg σw len n acc M' | .ok (some w) M' => compL f src tg σw len n (w :: acc) M' | _ => .stuck) = _
        rw [hu]; dsimp only; rw [g1]
      cases o with
      | none =>
        cases o' with
        | some w => exact ro.elim
        | none =>
          obtain ⟨us, h2, g3, s2, I4, d4⟩ := step acc
          exact ⟨us, h2, by rw [unf, g2]; exact g3, s1.trans s2, I4, d4⟩
      | some v =>
        cases o' with
        | none => exact ro.elim
        | some w =>
          obtain ⟨us, h2, g3, s2, I4, d4⟩ := step (w :: acc)
          refine ⟨w :: us, h2, ?_, s1.trans s2, I4, .cons (Den.stp s2 ro) d4⟩
          rw [unf, g2]
          dsimp only
          rw [g3, List.reverse_cons, List.append_assoc]; rfl
end
end Mn.Pn
end -- Pn9
section -- Pn10
set_option linter.all false
set_option autoImplicit false
set_option maxRecDepth 100000
namespace Mn.Pn
open PySem L2
def RelOp (h : Hs) : Option (Pv × Pv) → Option (Val × Val) → Prop
  | none, none => True
  | some v, some u => Den h.M h.Z v.1 u.1 ∧ Den h.M h.Z v.2 u.2
  | _, _ => False
theorem dcomp_ok {g : PEnv → PO (Option (Pv × Pv))} {f : Env → Mem → Res (Option (Val × Val))} {src : Src} {tg : T} {own : List Nat} {σw : Env} {len : Nat} {B : Nat → Prop}
    (hg : ∀ (h : Hs) (ρ : PEnv) (σ : Env), Inv B h ρ σ → SimR B h σ (g ρ) (f σ h.M) (fun h' o o' => RelOp h' o o')) :
    ∀ (n : Nat) (l : List Pv) (L : List Pv) (h0 : Hs) (pa : List (Pv × Pv)) (acc : List (Val × Val)) (h : Hs) (ρ ρ' : PEnv) (ws : List (Pv × Pv)), SrcOk h0 src L → L.length = len → L.drop (len - n) = l → n ≤ len → Stp B h0 h → Inv B h (pwipe ρ own) σw → Denp h.M h.Z pa acc → pdcompL g own tg l pa ρ = .ok ws ρ' →
      ∃ us h', dcompL f src tg σw len n acc h.M = .ok us h'.M ∧ Stp B h h' ∧ Inv B h' (pwipe ρ' own) σw ∧ Denp h'.M h'.Z ws us
  | 0, l, L, h0, pa, acc, h, ρ, ρ', ws, hS, hL, hl, hn, s, I, da, e => by
    rw [Nat.sub_zero, ← hL, List.drop_length] at hl
    subst hl
    cases e
    have := (hS h.M h.Z s.zz s.z).1
    refine ⟨acc, h, ?_, .refl, I, da⟩
    unfold dcompL
    rw [this, hL, if_pos rfl]
  | n + 1, l, L, h0, pa, acc, h, ρ, ρ', ws, hS, hL, hl, hn, s, I, da, e => by
    have hk : len - (n + 1) < L.length := by omega
    rw [List.drop_eq_getElem_cons hk] at hl
    subst hl
    have e5 : len - (n + 1) + 1 = len - n := by omega
    rw [e5] at e
    unfold pdcompL at e
    split at e
    · cases e
    · rename_i ρ1 ha
      obtain ⟨o, ρ2, e1, e⟩ := PO.bind_inv e
      obtain ⟨u, hu, du⟩ := (hS h.M h.Z s.zz s.z).2 (len - (n + 1)) _ (List.getElem?_eq_getElem hk)
      obtain ⟨σ1, g1, I1, p1⟩ := pasgT_ok (M := h.M) tg I du ha
      obtain ⟨o', h1, g2, s1, I2, ro⟩ := hg h ρ1 σ1 I1 o ρ2 e1
      have hl1 : σ1.length = σw.length := by
        have z1 := I1.len
        have z2 := I.len
        have := pasgT_len tg ha
        omega
      have I3 : Inv B h1 (pwipe ρ2 own) σw := I2.rewipe hl1 fun i hi => p1 i (by unfold pinO; simpa using hi)
      have step : ∀ pa' acc', Denp h1.M h1.Z pa' acc' → pdcompL g own tg (L.drop (len - n)) pa' ρ2 = .ok ws ρ' → ∃ us h', dcompL f src tg σw len n acc' h1.M = .ok us h'.M ∧ Stp B h1 h' ∧ Inv B h' (pwipe ρ' own) σw ∧ Denp h'.M h'.Z ws us :=
        fun pa' acc' dd e2 => dcomp_ok hg n _ L h0 pa' acc' h1 ρ2 ρ' ws hS hL rfl (by omega) (s.trans s1) I3 dd e2
      rw [hL] at hu
      have unf : dcompL f src tg σw len (n + 1) acc h.M = (match f σ1 h.M with | .ok none M' => dcompL f src tg σw len n acc M' | .ok (some (k, w)) M' => (if fits acc k then dcompL f src tg σw len n (dput acc k w) M' else .stuck) | _ => .stuck) := by
        show (match src.at h.M len (len - (n + 1)) with | none => Res.stuck | some v => match asgT h.M tg v σw with | none => Res.stuck | some ρ' => match f ρ' h.M with | .ok none M' => dcompL f src tg σw len n acc M' | .ok (some (k, w)) M' => (if fits acc k then dcompL f src tg σw len n (dput acc k w) M' else .stuck) | _ => .stuck) = _
        rw [hu]; dsimp only; rw [g1]
      have da1 : Denp h1.M h1.Z pa acc := da.mono s1.zz s1.z
      cases o with
      | none =>
        cases o' with
        | some w => exact ro.elim
        | none =>
          obtain ⟨us, h2, g3, s2, I4, d4⟩ := step pa acc da1 e
          exact ⟨us, h2, by rw [unf, g2]; exact g3, s1.trans s2, I4, d4⟩
      | some v =>
        cases o' with
        | none => exact ro.elim
        | some w =>
          dsimp only at e
          split at e
          · rename_i hf
            obtain ⟨us, h2, g3, s2, I4, d4⟩ := step _ _ (dput_den da1 ro.1 ro.2) e
            refine ⟨us, h2, ?_, s1.trans s2, I4, d4⟩
            obtain ⟨w1, w2⟩ := w
            rw [unf, g2]
            dsimp only
            rw [if_pos (by rw [fits_den da1 ro.1]; exact hf)]
            exact g3
          · cases e
section
variable {Γ : PGam} {γ : Gam}
theorem sim_c {cs : List E} (hc : SC Γ γ cs) {B : Nat → Prop} {h : Hs} {ρ : PEnv} {σ : Env} (I : Inv B h ρ σ) {α β : Type} {f : PEnv → PO (Option β)} {g : Mem → Res (Option α)} {Q : Hs → Option β → Option α → Prop} (hQ : ∀ h, Q h none none)
    (k : ∀ ρ' h', Stp B h h' → Inv B h' ρ' σ → SimR B h' σ (f ρ') (g h'.M) Q) :
    SimR B h σ ((pC Γ cs ρ).bind fun b ρ => if b then f ρ else .ok none ρ) ((evC γ cs σ h.M).bind fun b M => if b then g M else .ok none M) Q := by
  refine SimR.bind (fun _ z => z) (hc B h ρ σ I) fun b ρ1 b' h1 s1 I1 e => ?_
  subst e
  cases b with
  | true => exact k ρ1 h1 s1 I1
  | false => intro b ρ' e; cases e; exact ⟨none, h1, rfl, .refl, I1, hQ h1⟩
theorem se_comp {k : IK} {its cs : List E} {tg : T} {own : List Nat} {elt : E} (hi : SEs Γ γ its) (hc : SC Γ γ cs) (he : SE Γ γ elt) : SE Γ γ (.comp k its tg own cs elt) := fun B h ρ σ I => by
  refine sim_all (g := fun vs M => match srcOf k vs M with
    | none => .stuck
    | some src => match src.len M with
      | none => .stuck
      | some len => if len ≤ sizeLine then
          (compL (fun ρ M => (evC γ cs ρ M).bind fun b M => if b then (evE γ elt ρ M).bind fun v M => .ok (some v) M else .ok none M) src tg (wipeE σ own) len len [] M).bind fun l M => new (.lst l) M
        else .stuck) hi I fun vs ρ1 us h1 s1 I1 d => ?_
  split
  · exact sim_stuck
  · rename_i l hl
    split
    · rename_i hlen
      obtain ⟨src, e1, hS⟩ := psrc_ok d hl
      rw [e1]
      dsimp only
      rw [(hS h1.M h1.Z (fun _ _ => rfl) fun _ z => z).1]
      dsimp only
      rw [if_pos (Nat.le_trans hlen cap_line)]
      intro b ρ' e
      obtain ⟨ws, ρ2, e2, e⟩ := PO.bind_inv e
      obtain ⟨us2, h2, e3, s2, I2, d2⟩ := comp_ok (f := fun ρ M => (evC γ cs ρ M).bind fun b M => if b then (evE γ elt ρ M).bind fun v M => .ok (some v) M else .ok none M) (B := B) (σw := wipeE σ own) (len := l.length) (fun h ρ σ I => by
        refine sim_c hc I (g := fun M => (evE γ elt σ M).bind fun v M => .ok (some v) M) (fun _ => trivial) fun ρ' h' s' I' => ?_
        refine SimR.bind (fun _ z => z) (he B h' ρ' σ I') fun r ρ2 u h2 s2 I2 x2 => ?_
        refine SimR.tk I2 x2 fun v ρ3 h3 m3 f3 I3 d3 => ?_
        intro b ρ'' e; cases e
        exact ⟨some u, h3, by rw [m3], .refl, I3, d3⟩) l.length l l h1 [] h1 ρ1 ρ2 ws hS rfl (by rw [Nat.sub_self]; rfl) (Nat.le_refl _) .refl (I1.wipe own) e2
      have I3 := Inv.restore (ρ3 := ρ2) I1 s2 I2
      obtain ⟨u, h3, e4, s3, I4, x4⟩ := sim_mk (p := .ol ws) (mr := new (.lst us2) h2.M) I3 ⟨us2, rfl, d2⟩ b ρ' e
      exact ⟨u, h3, by rw [e3]; exact e4, s2.trans s3, I4, x4⟩
    · exact sim_stuck
theorem se_dcomp {k : IK} {its cs : List E} {tg : T} {own : List Nat} {ke ve : E} (hi : SEs Γ γ its) (hc : SC Γ γ cs) (hk : SE Γ γ ke) (hv : SE Γ γ ve) : SE Γ γ (.dcomp k its tg own cs ke ve) := fun B h ρ σ I => by
  refine sim_all (g := fun vs M => match srcOf k vs M with
    | none => .stuck
    | some src => match src.len M with
      | none => .stuck
      | some len => if len ≤ sizeLine then
          (dcompL (fun ρ M => (evC γ cs ρ M).bind fun b M => if b then (evE γ ke ρ M).bind fun k M => (evE γ ve ρ M).bind fun v M => .ok (some (k, v)) M else .ok none M) src tg (wipeE σ own) len len [] M).bind fun l M => new (.dct l) M
        else .stuck) hi I fun vs ρ1 us h1 s1 I1 d => ?_
  split
  · exact sim_stuck
  · rename_i l hl
    split
    · rename_i hlen
      obtain ⟨src, e1, hS⟩ := psrc_ok d hl
      rw [e1]
      dsimp only
      rw [(hS h1.M h1.Z (fun _ _ => rfl) fun _ z => z).1]
      dsimp only
      rw [if_pos (Nat.le_trans hlen cap_line)]
      intro b ρ' e
      obtain ⟨ws, ρ2, e2, e⟩ := PO.bind_inv e
      obtain ⟨us2, h2, e3, s2, I2, d2⟩ := dcomp_ok (f := fun ρ M => (evC γ cs ρ M).bind fun b M => if b then (evE γ ke ρ M).bind fun k M => (evE γ ve ρ M).bind fun v M => .ok (some (k, v)) M else .ok none M) (B := B) (σw := wipeE σ own) (len := l.length) (fun h ρ σ I => by
        refine sim_c hc I (g := fun M => (evE γ ke σ M).bind fun k M => (evE γ ve σ M).bind fun v M => .ok (some (k, v)) M) (fun _ => trivial) fun ρ' h' s' I' => ?_
        refine SimR.bind (g := fun k M => (evE γ ve σ M).bind fun v M => .ok (some (k, v)) M) (fun _ z => z) (hk B h' ρ' σ I') fun r ρ2 u h2 s2 I2 x2 => ?_
        refine SimR.bind (g := fun v M => .ok (some (u, v)) M) bx_l (hv (bx B r u) h2 ρ2 σ (I2.bx x2)) fun r2 ρ3 w h3 s3 I3 x3 => ?_
        have x2' := x2.stp s3 I3
        intro b ρ'' e
        obtain ⟨v, ρ4, e4, e⟩ := PO.bind_inv e
        obtain ⟨h4, f4, I4, d4⟩ := tk_ok I3 x3 e4
        have s4 := f4.stp I3 (fresh_nb x3)
        have x4 := x2'.stp s4 I4
        obtain ⟨kv, ρ5, e5, e⟩ := PO.bind_inv e
        have I4' := I4.weak (B := B) bx_l
        obtain ⟨h5, f5, I5, d5⟩ := tk_ok I4' x4 e5
        cases e
        exact ⟨some (u, w), h5, by rw [f5.m, f4.m], (s4.weak bx_l).trans (f5.stp I4' (fresh_nb x4)), I5, d5, d4.mono (fun _ _ => by rw [f5.m]) f5.z⟩) l.length l l h1 [] [] h1 ρ1 ρ2 ws hS rfl (by rw [Nat.sub_self]; rfl) (Nat.le_refl _) .refl (I1.wipe own) .nil e2
      have I3 := Inv.restore (ρ3 := ρ2) I1 s2 I2
      obtain ⟨u, h3, e4, s3, I4, x4⟩ := sim_mk (p := .od ws) (mr := new (.dct us2) h2.M) I3 ⟨us2, rfl, d2⟩ b ρ' e
      exact ⟨u, h3, by rw [e3]; exact e4, s2.trans s3, I4, x4⟩
    · exact sim_stuck
mutual
theorem pE_ok (G : GamOk Γ γ) : ∀ e : E, SE Γ γ e
  | .var i => se_var
  | .glob x => se_glob G
  | .non => fun B h ρ σ I => sim_fz I rfl .non
  | .bl b => fun B h ρ σ I => sim_fz I rfl (.bl b)
  | .int i => fun B h ρ σ I => sim_fz I rfl (.int i)
  | .str s => fun B h ρ σ I => sim_fz I rfl (.str s)
  | .ty t => fun B h ρ σ I => sim_fz I rfl (.ty t)
  | .tup es => se_tup (pEs_ok G es)
  | .lst es => se_lst (pEs_ok G es)
  | .dct ks vs => se_dct (pEs_ok G ks) (pEs_ok G vs)
  | .bin op a b => se_bin (pE_ok G a) (pE_ok G b)
  | .neg a => se_neg (pE_ok G a)
  | .not a => se_not (pE_ok G a)
  | .and a b => se_and (pE_ok G a) (pE_ok G b)
  | .or a b => se_or (pE_ok G a) (pE_ok G b)
  | .ite c a b => se_ite (pE_ok G c) (pE_ok G a) (pE_ok G b)
  | .cmp op a b => se_cmp (pE_ok G a) (pE_ok G b)
  | .chain o1 o2 a b c => se_chain (pE_ok G a) (pE_ok G b) (pE_ok G c)
  | .idx a i => se_idx (pE_ok G a) (pE_ok G i)
  | .sl a lo hi => se_sl (pE_ok G a) (pE_ok G lo) (pE_ok G hi)
  | .slr a => se_slr (pE_ok G a)
  | .attr o f => se_attr G (pE_ok G o)
  | .call f es kns kes => se_call G (pEs_ok G es) (pEs_ok G kes)
  | .make C es kns kes => se_make G (pEs_ok G es) (pEs_ok G kes)
  | .meth C m o es kns kes => se_meth G (pE_ok G o) (pEs_ok G es) (pEs_ok G kes)
  | .bcall f es => se_bcall (pEs_ok G es)
  | .bmeth m o es => se_bmeth (pE_ok G o) (pEs_ok G es)
  | .rng es => se_rng (pEs_ok G es)
  | .comp k its tg own cs elt => se_comp (pEs_ok G its) (pC_ok G cs) (pE_ok G elt)
  | .dcomp k its tg own cs ke ve => se_dcomp (pEs_ok G its) (pC_ok G cs) (pE_ok G ke) (pE_ok G ve)
theorem pEs_ok (G : GamOk Γ γ) : ∀ es : List E, SEs Γ γ es
  | [] => ses_nil
  | e :: es => ses_cons (pE_ok G e) (pEs_ok G es)
theorem pC_ok (G : GamOk Γ γ) : ∀ es : List E, SC Γ γ es
  | [] => sc_nil
  | e :: es => sc_cons (pE_ok G e) (pC_ok G es)
end
end
end Mn.Pn
end -- Pn10
section -- Pn11
set_option linter.all false
set_option autoImplicit false
set_option maxRecDepth 100000
/-! Statements. -/
namespace Mn.Pn
open PySem L2
def FlR (B : Nat → Prop) (h : Hs) (σ : Env) : Pf → Fl → Prop
  | .nx, .nx => True
  | .rt r, .rt u => RelR B h σ r u
  | .bk, .bk => True
  | .ct, .ct => True
  | _, _ => False
def SimZ (B : Nat → Prop) (h : Hs) (σ : Env) (pin : Nat → Bool) (pr : PS) (mr : SR) : Prop :=
  ∀ f ρ', pr = .ok f ρ' → ∃ fl σ' h', mr = .ok fl σ' h'.M ∧ Stp B h h' ∧ Inv B h' ρ' σ' ∧ FlR B h' σ' f fl ∧ (∀ i, pin i = true → σ'[i]? = σ[i]?) ∧ σ'.length = σ.length
section
variable {Γ : PGam} {γ : Gam} {B B1 : Nat → Prop} {h h' : Hs} {ρ ρ' : PEnv} {σ : Env} {pin : Nat → Bool}
theorem PO.st_inv {α : Type} {r : PO α} {f : α → PEnv → PS} {b : Pf} {ρ' : PEnv} (h : r.st f = .ok b ρ') : ∃ a ρ1, r = .ok a ρ1 ∧ f a ρ1 = .ok b ρ' := by
  cases r with
  | ok a ρ1 => exact ⟨a, ρ1, rfl, h⟩
  | stuck => cases h
theorem simz_stuck {mr : SR} : SimZ B h σ pin .stuck mr := fun f ρ' e => by cases e
theorem SimR.stz {α β : Type} {pr : PO β} {mr : Res α} {Q1 : Hs → β → α → Prop} {f : β → PEnv → PS} {g : α → Mem → SR} (hB : ∀ n, B n → B1 n) (s : SimR B1 h σ pr mr Q1)
    (k : ∀ b ρ' a h', Stp B1 h h' → Inv B1 h' ρ' σ → Q1 h' b a → SimZ B h' σ pin (f b ρ') (g a h'.M)) : SimZ B h σ pin (pr.st f) (mr.st g) := by
  intro b ρ' e
  obtain ⟨c, ρ1, e1, e2⟩ := PO.st_inv e
  obtain ⟨a, h1, e3, s1, I1, q1⟩ := s c ρ1 e1
  obtain ⟨fl, σ2, h2, e4, s2, I2, q2⟩ := k c ρ1 a h1 s1 I1 q1 b ρ' e2
  exact ⟨fl, σ2, h2, by rw [e3]; exact e4, (s1.weak hB).trans s2, I2, q2⟩
theorem simz_nx {mr : SR} {σ' : Env} (I : Inv B h ρ σ') (e : mr = .ok .nx σ' h.M) (hp : ∀ i, pin i = true → σ'[i]? = σ[i]?) (hl : σ'.length = σ.length) : SimZ B h σ pin (.ok .nx ρ) mr := fun f ρ' e2 => by
  cases e2; exact ⟨.nx, σ', h, e, .refl, I, trivial, hp, hl⟩
theorem simz_step (s : Stp B h h') {pr : PS} {mr : SR} (z : SimZ B h' σ pin pr mr) : SimZ B h σ pin pr mr := fun f ρ' e => by
  obtain ⟨fl, σ', h2, e1, s1, r⟩ := z f ρ' e
  exact ⟨fl, σ', h2, e1, s.trans s1, r⟩
/-! ### what is stored in names -/
theorem stp_same (m : h'.M = h.M) (z : h'.Z = h.Z) : Stp B h h' := ⟨by rw [m]; exact Nat.le_refl _, fun n _ => by rw [m], fun n y => by rw [z]; exact y, fun n _ => by rw [m], fun n _ y => by rw [z] at y; exact .inl y⟩
theorem asg_len {t : T} {u : Val} {M : Mem} {σ' : Env} (e : asgT M t u σ = some σ') {ρ ρ' : PEnv} (I : Inv B h ρ σ) (I' : Inv B h' ρ' σ') (hl : ρ'.length = ρ.length) : σ'.length = σ.length := by
  rw [← I.len, ← I'.len, hl]
theorem pputP_ok {i : Nat} {p : P} {u : Val} {M : Mem} (I : Inv B h ρ σ) (x : RelP B h p u) (e : pputP pin i p ρ = some ρ') :
    ∃ h', h'.M = h.M ∧ h'.Z = h.Z ∧ asgT M (.nm i) u σ = some (σ.set i (some u)) ∧ Inv B h' ρ' (σ.set i (some u)) ∧ (∀ j, pin j = true → (σ.set i (some u))[j]? = σ[j]?) ∧ (∀ j n, h'.A j = some n → h.A j = some n ∨ (p.isF = false ∧ u = .ref n)) := by
  unfold pputP at e
  split at e
  · rename_i hc
    cases e
    rw [Bool.and_eq_true, decide_eq_true_eq] at hc
    obtain ⟨h', m, z, I', a⟩ := I.asg hc.1 x
    refine ⟨h', m, z, if_pos (by rw [← I.len]; exact hc.1), I', fun j hj => ?_, fun j n y => (a j n y).imp id fun y => ⟨y.1, y.2.1⟩⟩
    rw [List.getElem?_set_ne]
    intro z; subst z; rw [hj] at hc; cases hc.2
  · cases e
theorem pres_ok : ∀ {rs : List R} {us : List Val} {ps : List P} {B : Nat → Prop} {h : Hs} {ρ ρ' : PEnv}, Inv B h ρ σ → RelRs B h σ rs us → pres rs ρ = .ok ps ρ' → ∃ h', h'.M = h.M ∧ Stp B h h' ∧ Inv B h' ρ' σ ∧ RelPs B h' ps us
  | [], [], _, _, h, _, _, I, _, e => by cases e; exact ⟨h, rfl, .refl, I, trivial⟩
  | .v p :: rs, u :: us, ps, B, h, ρ, ρ', I, x, e => by
    obtain ⟨qs, ρ1, e1, e⟩ := PO.bind_inv (show (pres rs ρ).bind _ = _ from e)
    cases e
    have w1 : ∀ n, bxP B p u n → bx B (.v p) u n := fun n z => z.imp id fun z => ⟨by simp [R.fresh, z.1], z.2⟩
    obtain ⟨h2, m2, s2, I2, x2⟩ := pres_ok (I.bxP x.1) (x.2.weak w1) e1
    exact ⟨h2, m2, s2.weak bxP_l, I2.weak bxP_l, RelP.stp x.1 s2 I2, x2⟩
  | .al i :: rs, u :: us, ps, B, h, ρ, ρ', I, x, e => by
    obtain ⟨v, ρ1, e1, e⟩ := PO.bind_inv (show (tk (.al i) ρ).bind _ = _ from e)
    obtain ⟨qs, ρ2, e2, e⟩ := PO.bind_inv e
    cases e
    obtain ⟨h1, f1, I1, d1⟩ := tk_ok I x.1 e1
    have x2 := (x.2.fzs f1 fun n z => .inr z).weak (B := B) fun n z => .inl z
    obtain ⟨h2, m2, s2, I2, l2⟩ := pres_ok I1 x2 e2
    refine ⟨h2, m2.trans f1.m, (f1.stp I (fresh_nb x.1)).trans s2, I2, d1.stp s2, ?_⟩
    exact relPs_weak l2 fz_bxP
  | [], _ :: _, _, _, _, _, _, _, x, _ => x.elim
  | .v _ :: _, [], _, _, _, _, _, _, x, _ => x.elim
  | .al _ :: _, [], _, _, _, _, _, _, x, _ => x.elim
where
  relPs_weak {h : Hs} : ∀ {ps : List P} {us : List Val} {B B1 : Nat → Prop}, RelPs B1 h ps us → (∀ n, B n → B1 n) → RelPs B h ps us
    | [], [], _, _, _, _ => trivial
    | r :: rs, u :: us, _, _, x, w => ⟨x.1.weak w, relPs_weak x.2 (bxP_mono w)⟩
    | [], _ :: _, _, _, x, _ => x.elim
    | _ :: _, [], _, _, x, _ => x.elim
theorem RelPs.put {p : P} {u : Val} (m : h'.M = h.M) (z : h'.Z = h.Z) (a : ∀ j n, h'.A j = some n → h.A j = some n ∨ (p.isF = false ∧ u = .ref n)) : ∀ {ps : List P} {us : List Val} {B1 : Nat → Prop}, (∀ n, bxP B p u n → B1 n) → RelPs B1 h ps us → RelPs B1 h' ps us
  | [], [], _, _, _ => trivial
  | q :: ps, w :: us, B1, hB, x => by
    refine ⟨?_, RelPs.put m z a (fun n y => .inl (hB n y)) x.2⟩
    cases e : q.isF with
    | true => obtain ⟨v, rfl, d⟩ := RelP.fz x.1 e; show Den h'.M h'.Z v w; rw [m, z]; exact d
    | false =>
      obtain ⟨n, rfl, o, h1, h2, h3, h4⟩ := RelP.own x.1 e
      refine .of (o.move (by rw [m]) (fun _ _ => by rw [m]) (by rw [z]; exact fun _ y => y)) h1 (by rw [z]; exact h2) (by rw [m]; exact h3) fun i y => ?_
      rcases a i n y with y | y
      · exact h4 i y
      · exact h1 (hB n (.inr y))
  | [], _ :: _, _, _, x => x.elim
  | _ :: _, [], _, _, x => x.elim
theorem pputPs_ok {M : Mem} : ∀ {ts : List T} {ps : List P} {us : List Val} {h : Hs} {ρ ρ' : PEnv} {σ : Env}, Inv B h ρ σ → RelPs B h ps us → pputPs pin ts ps ρ = some ρ' →
    ∃ σ' h', h'.M = h.M ∧ h'.Z = h.Z ∧ asgTs M ts us σ = some σ' ∧ Inv B h' ρ' σ' ∧ (∀ j, pin j = true → σ'[j]? = σ[j]?) ∧ σ'.length = σ.length
  | [], [], us, h, ρ, ρ', σ, I, x, e => by
    cases e
    cases us with
    | nil => exact ⟨σ, h, rfl, rfl, rfl, I, fun _ _ => rfl, rfl⟩
    | cons _ _ => exact x.elim
  | .nm i :: ts, p :: ps, us, h, ρ, ρ', σ, I, x, e => by
    cases us with
    | nil => exact x.elim
    | cons u us =>
      have e : (match pputP pin i p ρ with | some ρ' => pputPs pin ts ps ρ' | none => none) = some ρ' := e
      cases hp : pputP pin i p ρ with
      | none => rw [hp] at e; cases e
      | some ρ1 =>
        rw [hp] at e
        obtain ⟨h1, m1, z1, e1, I1, p1, a1⟩ := pputP_ok (M := M) I x.1 hp
        have x2 := (pres_ok.relPs_weak (B := B) (RelPs.put m1 z1 a1 (fun n y => y) x.2) fun n y => .inl y)
        obtain ⟨σ2, h2, m2, z2, e2, I2, p2, l2⟩ := pputPs_ok (M := M) I1 x2 e
        refine ⟨σ2, h2, m2.trans m1, z2.trans z1, ?_, I2, fun j hj => (p2 j hj).trans (p1 j hj), by rw [l2, List.length_set]⟩
        show (match asgT M (.nm i) u σ with | some ρ' => asgTs M ts us ρ' | none => none) = _
        rw [e1]; exact e2
  | [], _ :: _, us, _, _, _, _, _, _, e => by cases e
  | .nm _ :: _, [], us, _, _, _, _, _, _, e => by cases e
  | .tp _ :: _, [], us, _, _, _, _, _, _, e => by cases e
  | .tp _ :: _, _ :: _, us, _, _, _, _, _, _, e => by cases e
theorem pasg_ok {t : T} {r : R} {u : Val} (I : Inv B h ρ σ) (x : RelR B h σ r u) : SimZ B h σ Γ.pin (pasg Γ t r ρ) (match asgT h.M t u σ with | some ρ' => .ok .nx ρ' h.M | none => .stuck) := by
  cases t with
  | nm i =>
    cases r with
    | v p =>
      show SimZ B h σ Γ.pin (match pputP Γ.pin i p ρ with | some ρ' => .ok .nx ρ' | none => .stuck) _
      split
      · rename_i ρ1 hp
        obtain ⟨h1, m1, z1, e1, I1, p1, a1⟩ := pputP_ok (M := h.M) I x hp
        refine simz_step (stp_same m1 z1) (simz_nx I1 ?_ p1 (by rw [List.length_set]))
        rw [e1, m1]
      · exact simz_stuck
    | al j =>
      show SimZ B h σ Γ.pin (if j = i then .ok .nx ρ else (tk (.al j) ρ).st fun v ρ => match pputP Γ.pin i (.fz v) ρ with | some ρ' => .ok .nx ρ' | none => .stuck) _
      split
      · rename_i hj
        subst hj
        have x : σ[j]? = some (some u) := x
        have hl := (List.getElem?_eq_some_iff.mp x).1
        have es : σ.set j (some u) = σ := by
          apply List.ext_getElem?
          intro k
          by_cases hk : j = k
          · subst hk; rw [List.getElem?_set_self hl, x]
          · rw [List.getElem?_set_ne hk]
        refine simz_nx I ?_ (fun _ _ => rfl) rfl
        show (match (if j < σ.length then some (σ.set j (some u)) else none) with | some ρ' => SR.ok .nx ρ' h.M | none => .stuck) = _
        rw [if_pos hl, es]
      · intro f ρ' e
        obtain ⟨v, ρ1, e1, e⟩ := PO.st_inv e
        obtain ⟨h1, f1, I1, d1⟩ := tk_ok I x e1
        cases hp : pputP Γ.pin i (.fz v) ρ1 with
        | none => rw [hp] at e; cases e
        | some ρ2 =>
          rw [hp] at e
          cases e
          obtain ⟨h2, m2, z2, e2, I2, p2, a2⟩ := pputP_ok (M := h.M) I1 (p := .fz v) d1 hp
          refine ⟨.nx, _, h2, ?_, (f1.stp I (fresh_nb x)).trans (stp_same m2 z2), I2, trivial, p2, by rw [List.length_set]⟩
          rw [e2, m2, f1.m]
  | tp ts =>
    show SimZ B h σ Γ.pin (match pk ρ r with | some (.tup vs) => (match pasgTs Γ.pin ts vs ρ with | some ρ' => .ok .nx ρ' | none => .stuck) | _ => .stuck) _
    split
    · rename_i vs hv
      have d := pk_ok I x hv
      cases d with
      | @tup _ us d =>
        split
        · rename_i ρ1 hp
          obtain ⟨σ1, e1, I1, p1⟩ := pasgTs_ok (M := h.M) ts I d hp
          refine simz_nx I1 ?_ p1 (by rw [← I.len, ← I1.len, pasgTs_len ts hp])
          show (match asgTs h.M ts us σ with | some ρ' => SR.ok .nx ρ' h.M | none => .stuck) = _
          rw [e1]
        · exact simz_stuck
    · exact simz_stuck
/-! ### stores -/
theorem sim_updz (I : Inv B h ρ σ) {i n : Nat} {p p' : P} {o : Obj} {mr : SR} (hp : ρ[i]? = some (some p)) (hs : σ[i]? = some (some (.ref n))) (hA : h.A i = some n) (ho : Ob h p' o) (e : mr = .ok .nx σ (h.M.set n o)) :
    SimZ B h σ pin (.ok .nx (ρ.set i (some p'))) mr := fun b ρ' e2 => by
  cases e2
  obtain ⟨s, I2⟩ := I.upd hp hs hA ho
  exact ⟨.nx, σ, _, e, s, I2, trivial, fun _ _ => rfl, rfl⟩
theorem pstoreI_ok {r : R} {o i v : Val} {y w : Pv} (I : Inv B h ρ σ) (x : RelR B h σ r o) (hy : Pk h y i) (hw : Den h.M h.Z w v) (e : pstoreI r y w ρ = some ρ') :
    SimZ B h σ pin (.ok .nx ρ') (match storeI o i v h.M with | some M' => .ok .nx σ M' | none => .stuck) := by
  cases r with
  | v p => cases e
  | al j =>
    have x : σ[j]? = some (some o) := x
    unfold pstoreI at e
    dsimp only at e
    split at e
    · rename_i vs hp
      obtain ⟨n, rfl, hA, us, g, dd⟩ := own_at I hp rfl x
      split at e
      · rename_i z
        cases hy
        split at e
        · rename_i k hk
          cases e
          refine sim_updz I hp x hA (o := .lst (us.set k v)) ⟨_, rfl, dd.set k hw⟩ ?_
          show (match (match h.M[n]? with | some (.lst vs) => (match ixOf z vs.length with | some k => some (h.M.set n (.lst (vs.set k v))) | none => none) | some (.dct kvs) => _ | _ => none) with | some M' => SR.ok .nx σ M' | none => .stuck) = _
          rw [g]
          dsimp only
          rw [dd.length, hk]
        · cases e
      · cases e
    · rename_i kvs hp
      obtain ⟨n, rfl, hA, us, g, dd⟩ := own_at I hp rfl x
      split at e
      · rename_i hf
        cases e
        rw [Bool.and_eq_true, decide_eq_true_eq] at hf
        have hk : Den h.M h.Z y i := by
          have hf := hf.1
          cases y with
          | lst _ => simp [pfits, pleafK, ptupK] at hf
          | rol _ => simp [pfits, pleafK, ptupK] at hf
          | dct _ => simp [pfits, pleafK, ptupK] at hf
          | ins _ _ => simp [pfits, pleafK, ptupK] at hf
          | non => exact hy
          | bl _ => exact hy
          | int _ => exact hy
          | str _ => exact hy
          | tup _ => exact hy
          | ty _ => exact hy
          | glo _ => exact hy
        refine sim_updz I hp x hA (o := .dct (dput us i v)) ⟨_, rfl, dput_den dd hk hw⟩ ?_
        have : storeI (.ref n) i v h.M = some (h.M.set n (.dct (dput us i v))) := by
          unfold storeI
          dsimp only
          rw [g]
          dsimp only
          rw [fits_den dd hk, hf.1, dd.len, decide_eq_true (show kvs.length < sizeLine from Nat.lt_of_lt_of_le hf.2 cap_line)]
          rfl
        rw [this]
      · cases e
    · cases e
theorem pstoreA_ok {fld : Str → Str → Bool} {r : R} {o v : Val} {f : Str} {w : Pv} (I : Inv B h ρ σ) (x : RelR B h σ r o) (hw : Den h.M h.Z w v) (e : pstoreA fld r f w ρ = some ρ') :
    SimZ B h σ pin (.ok .nx ρ') (match storeA fld o f v h.M with | some M' => .ok .nx σ M' | none => .stuck) := by
  cases r with
  | v p => cases e
  | al j =>
    have x : σ[j]? = some (some o) := x
    unfold pstoreA at e
    dsimp only at e
    split at e
    · rename_i C fs hp
      obtain ⟨n, rfl, hA, us, g, dd⟩ := own_at I hp rfl x
      split at e
      · rename_i hf
        cases e
        rw [Bool.and_eq_true, decide_eq_true_eq] at hf
        refine sim_updz I hp x hA (o := .ins C (putFd f v us)) ⟨_, rfl, putFd_den dd hw⟩ ?_
        have : storeA fld (.ref n) f v h.M = some (h.M.set n (.ins C (putFd f v us))) := by
          unfold storeA
          dsimp only
          rw [g]
          dsimp only
          rw [hf.1, dd.len, decide_eq_true hf.2]
          rfl
        rw [this]
      · cases e
    · cases e
theorem Inv.fgt (I : Inv B h ρ σ) (ρ0 : PEnv) : Inv B h (pfgt ρ0 ρ) σ :=
  ⟨by rw [fgt_len]; exact I.len, I.bl, I.zl, I.ow, I.inj, fun i p hp => I.sl i p (fgt_in hp)⟩
where
  fgt_len : ∀ {ρ0 ρ : PEnv}, (pfgt ρ0 ρ).length = ρ.length
    | [], ρ => by cases ρ <;> simp [pfgt]
    | some _ :: r, x :: ρ => by show (x :: pfgt r ρ).length = _; rw [List.length_cons, fgt_len]; rfl
    | none :: r, x :: ρ => by show (none :: pfgt r ρ).length = _; rw [List.length_cons, fgt_len]; rfl
    | some _ :: r, [] => rfl
    | none :: r, [] => rfl
  fgt_in : ∀ {ρ0 ρ : PEnv} {i : Nat} {p : P}, (pfgt ρ0 ρ)[i]? = some (some p) → ρ[i]? = some (some p)
    | [], ρ, i, p, e => by cases ρ <;> simpa [pfgt] using e
    | some _ :: r, x :: ρ, 0, p, e => e
    | some _ :: r, x :: ρ, i + 1, p, e => by
      have e : (x :: pfgt r ρ)[i + 1]? = some (some p) := e
      simp at e ⊢; exact fgt_in e
    | none :: r, x :: ρ, 0, p, e => by have e : (none :: pfgt r ρ)[0]? = some (some p) := e; simp at e
    | none :: r, x :: ρ, i + 1, p, e => by
      have e : (none :: pfgt r ρ)[i + 1]? = some (some p) := e
      simp at e ⊢; exact fgt_in e
    | some _ :: r, [], i, p, e => e
    | none :: r, [], i, p, e => e
/-! ### loops -/
theorem for_ok {f : PEnv → PS} {g : Env → Mem → SR} {src : Src} {tg : T} {ρ0 : PEnv} {len : Nat}
    (hg : ∀ (h : Hs) (ρ : PEnv) (σ : Env), Inv B h ρ σ → SimZ B h σ pin (f ρ) (g σ h.M)) :
    ∀ (n : Nat) (l : List Pv) (L : List Pv) (h0 : Hs) (h : Hs) (ρ : PEnv) (σ : Env), SrcOk h0 src L → L.length = len → L.drop (len - n) = l → n ≤ len → Stp B h0 h → Inv B h ρ σ →
      SimZ B h σ pin (pforL f pin tg ρ0 l ρ) (forL g src tg len n σ h.M)
  | 0, l, L, h0, h, ρ, σ, hS, hL, hl, hn, s, I => by
    rw [Nat.sub_zero, ← hL, List.drop_length] at hl
    subst hl
    have := (hS h.M h.Z s.zz s.z).1
    refine simz_nx I ?_ (fun _ _ => rfl) rfl
    unfold forL
    rw [this, hL, if_pos rfl]
  | n + 1, l, L, h0, h, ρ, σ, hS, hL, hl, hn, s, I => by
    have hk : len - (n + 1) < L.length := by omega
    rw [List.drop_eq_getElem_cons hk] at hl
    subst hl
    have e5 : len - (n + 1) + 1 = len - n := by omega
    rw [e5]
    obtain ⟨u, hu, du⟩ := (hS h.M h.Z s.zz s.z).2 (len - (n + 1)) _ (List.getElem?_eq_getElem hk)
    rw [hL] at hu
    intro fl ρ' e
    unfold pforL at e
    split at e
    · cases e
    · rename_i ρ1 ha
      obtain ⟨σ1, g1, I1, p1⟩ := pasgT_ok (M := h.M) tg I du ha
      have l1 : σ1.length = σ.length := by rw [← I.len, ← I1.len, pasgT_len tg ha]
      have unf : forL g src tg len (n + 1) σ h.M = (match g σ1 h.M with | .ok .nx ρ2 M2 => forL g src tg len n ρ2 M2 | .ok .ct ρ2 M2 => forL g src tg len n ρ2 M2 | .ok .bk ρ2 M2 => .ok .nx ρ2 M2 | r => r) := by
        show (match src.at h.M len (len - (n + 1)) with | none => SR.stuck | some v => match asgT h.M tg v σ with | none => SR.stuck | some ρ' => match g ρ' h.M with | .ok .nx ρ2 M2 => forL g src tg len n ρ2 M2 | .ok .ct ρ2 M2 => forL g src tg len n ρ2 M2 | .ok .bk ρ2 M2 => .ok .nx ρ2 M2 | r => r) = _
        rw [hu]; dsimp only; rw [g1]
      rw [unf]
      cases hf : f ρ1 with
      | stuck => rw [hf] at e; cases e
      | ok q ρ2 =>
        rw [hf] at e
        obtain ⟨fl2, σ2, h2, e2, s2, I2, r2, p2, l2⟩ := hg h ρ1 σ1 I1 q ρ2 hf
        rw [e2]
        have next : pforL f pin tg ρ0 (L.drop (len - n)) (pfgt ρ0 ρ2) = .ok fl ρ' → ∃ fl' σ' h', forL g src tg len n σ2 h2.M = .ok fl' σ' h'.M ∧ Stp B h h' ∧ Inv B h' ρ' σ' ∧ FlR B h' σ' fl fl' ∧ (∀ i, pin i = true → σ'[i]? = σ[i]?) ∧ σ'.length = σ.length := fun e => by
          obtain ⟨fl3, σ3, h3, e3, s3, I3, r3, p3, l3⟩ := for_ok hg n _ L h0 h2 (pfgt ρ0 ρ2) σ2 hS hL rfl (by omega) (s.trans s2) (I2.fgt ρ0) fl ρ' e
          exact ⟨fl3, σ3, h3, e3, s2.trans s3, I3, r3, fun i hi => (p3 i hi).trans ((p2 i hi).trans (p1 i hi)), by rw [l3, l2, l1]⟩
        cases q with
        | nx => cases fl2 <;> first | exact r2.elim | exact next e
        | ct => cases fl2 <;> first | exact r2.elim | exact next e
        | bk =>
          cases fl2 with
          | bk => cases e; exact ⟨.nx, σ2, h2, rfl, s2, I2.fgt ρ0, trivial, fun i hi => (p2 i hi).trans (p1 i hi), by rw [l2, l1]⟩
          | _ => exact r2.elim
        | rt r =>
          cases fl2 with
          | rt u2 => cases e; exact ⟨.rt u2, σ2, h2, rfl, s2, I2, r2, fun i hi => (p2 i hi).trans (p1 i hi), by rw [l2, l1]⟩
          | _ => exact r2.elim
theorem while_ok {c : PEnv → PO Bool} {c' : Env → Mem → Res Bool} {f : PEnv → PS} {g : Env → Mem → SR} {ρ0 : PEnv}
    (hc : ∀ (h : Hs) (ρ : PEnv) (σ : Env), Inv B h ρ σ → SimR B h σ (c ρ) (c' σ h.M) (fun _ b b' => b = b'))
    (hg : ∀ (h : Hs) (ρ : PEnv) (σ : Env), Inv B h ρ σ → SimZ B h σ pin (f ρ) (g σ h.M)) :
    ∀ (n : Nat) (h : Hs) (ρ : PEnv) (σ : Env), Inv B h ρ σ → SimZ B h σ pin (pwhileL c f ρ0 n ρ) (whileL c' g n σ h.M)
  | 0, h, ρ, σ, I => simz_stuck
  | n + 1, h, ρ, σ, I => by
    unfold pwhileL whileL
    refine SimR.stz (fun _ z => z) (hc h ρ σ I) fun b ρ1 b' h1 s1 I1 eb => ?_
    subst eb
    cases b with
    | false => exact simz_nx I1 rfl (fun _ _ => rfl) rfl
    | true =>
      intro fl ρ' e
      simp only [if_true] at e ⊢
      cases hf : f ρ1 with
      | stuck => rw [hf] at e; cases e
      | ok q ρ2 =>
        rw [hf] at e
        obtain ⟨fl2, σ2, h2, e2, s2, I2, r2, p2, l2⟩ := hg h1 ρ1 σ I1 q ρ2 hf
        rw [e2]
        have next : pwhileL c f ρ0 n (pfgt ρ0 ρ2) = .ok fl ρ' → ∃ fl' σ' h', whileL c' g n σ2 h2.M = .ok fl' σ' h'.M ∧ Stp B h1 h' ∧ Inv B h' ρ' σ' ∧ FlR B h' σ' fl fl' ∧ (∀ i, pin i = true → σ'[i]? = σ[i]?) ∧ σ'.length = σ.length := fun e => by
          obtain ⟨fl3, σ3, h3, e3, s3, I3, r3, p3, l3⟩ := while_ok hc hg n h2 (pfgt ρ0 ρ2) σ2 (I2.fgt ρ0) fl ρ' e
          exact ⟨fl3, σ3, h3, e3, s2.trans s3, I3, r3, fun i hi => (p3 i hi).trans (p2 i hi), by rw [l3, l2]⟩
        cases q with
        | nx => cases fl2 <;> first | exact r2.elim | exact next e
        | ct => cases fl2 <;> first | exact r2.elim | exact next e
        | bk =>
          cases fl2 with
          | bk => cases e; exact ⟨.nx, σ2, h2, rfl, s2, I2.fgt ρ0, trivial, p2, l2⟩
          | _ => exact r2.elim
        | rt r =>
          cases fl2 with
          | rt u2 => cases e; exact ⟨.rt u2, σ2, h2, rfl, s2, I2, r2, p2, l2⟩
          | _ => exact r2.elim
theorem pT_ok (G : GamOk Γ γ) (e : E) (I : Inv B h ρ σ) : SimR B h σ (pT Γ e ρ) (evT γ e σ h.M) (fun _ b b' => b = b') := by
  refine SimR.bind (g := fun x M => ofO (truth M x) M) (fun _ z => z) (pE_ok G e B h ρ σ I) fun r ρ1 u h1 s1 I1 x1 => ?_
  split
  · rename_i b e1
    intro b' ρ' e2; cases e2
    exact ⟨b, h1, by rw [tr_ok I1 x1 e1]; rfl, .refl, I1, rfl⟩
  · exact sim_stuck
def SS (Γ : PGam) (γ : Gam) (s : S) : Prop := ∀ (B : Nat → Prop) (h : Hs) (ρ : PEnv) (σ : Env), Inv B h ρ σ → SimZ B h σ Γ.pin (pS Γ s ρ) (evS γ s σ h.M)
def SSs (Γ : PGam) (γ : Gam) (s : List S) : Prop := ∀ (B : Nat → Prop) (h : Hs) (ρ : PEnv) (σ : Env), Inv B h ρ σ → SimZ B h σ Γ.pin (pSs Γ s ρ) (evSs γ s σ h.M)
theorem asg_gen (G : GamOk Γ γ) {t : T} {e : E} (I : Inv B h ρ σ) : SimZ B h σ Γ.pin ((pE Γ e ρ).st fun r ρ => pasg Γ t r ρ) (evS γ (.asg t e) σ h.M) :=
  SimR.stz (g := fun v M => match asgT M t v σ with | some ρ' => .ok .nx ρ' M | none => .stuck) (fun _ z => z) (pE_ok G e B h ρ σ I) fun r ρ1 u h1 s1 I1 x1 => pasg_ok I1 x1
theorem ss_asg (G : GamOk Γ γ) {t : T} {e : E} : SS Γ γ (.asg t e) := fun B h ρ σ I => by
  unfold pS
  split
  · rename_i ts es
    split
    · rename_i hn
      intro fl ρ' e
      obtain ⟨rs, ρ1, e1, e⟩ := PO.st_inv e
      obtain ⟨us, h1, e2, s1, I1, x1⟩ := pEs_ok G es B h ρ σ I rs ρ1 e1
      obtain ⟨ps, ρ2, e3, e⟩ := PO.st_inv e
      obtain ⟨h2, m2, s2, I2, x2⟩ := pres_ok I1 x1 e3
      cases hp : pputPs Γ.pin ts ps ρ2 with
      | none => rw [hp] at e; cases e
      | some ρ3 =>
        rw [hp] at e; cases e
        obtain ⟨σ3, h3, m3, z3, e4, I3, p3, l3⟩ := pputPs_ok (M := h1.M) I2 x2 hp
        refine ⟨.nx, σ3, h3, ?_, (s1.trans s2).trans (stp_same m3 z3), I3, trivial, p3, l3⟩
        show (((evEs γ es σ h.M).bind fun vs M => Res.ok (Val.tup vs) M).st fun v M => match asgT M (.tp ts) v σ with | some ρ' => .ok .nx ρ' M | none => .stuck) = _
        rw [e2]
        show (match asgTs h1.M ts us σ with | some ρ' => SR.ok .nx ρ' h1.M | none => .stuck) = _
        rw [e4, m3, m2]
    · exact asg_gen G I
  · exact asg_gen G I
theorem ss_setIdx (G : GamOk Γ γ) {o i e : E} : SS Γ γ (.setIdx o i e) := fun B h ρ σ I => by
  refine SimR.stz (g := fun v M => (evE γ o σ M).st fun x M => (evE γ i σ M).st fun y M => match storeI x y v M with | some M' => .ok .nx σ M' | none => .stuck) (fun _ z => z) (pE_ok G e B h ρ σ I) fun r ρ1 u h1 s1 I1 x1 => ?_
  refine SimR.stz (g := fun x M => (evE γ i σ M).st fun y M => match storeI x y u M with | some M' => .ok .nx σ M' | none => .stuck) bx_l (pE_ok G o (bx B r u) h1 ρ1 σ (I1.bx x1)) fun s ρ2 w h2 s2 I2 x2 => ?_
  refine SimR.stz (g := fun y M => match storeI w y u M with | some M' => .ok .nx σ M' | none => .stuck) (fun n z => bx_l n (bx_l n z)) (pE_ok G i (bx (bx B r u) s w) h2 ρ2 σ (I2.bx x2)) fun q ρ3 y h3 s3 I3 x3 => ?_
  have x2' := x2.stp s3 I3
  have I3' := I3.weak (B := bx B r u) bx_l
  have x1' := x1.stp (s2.trans (s3.weak bx_l)) I3'
  have I3'' := I3'.weak (B := B) bx_l
  intro fl ρ' e
  obtain ⟨v, ρ4, e4, e⟩ := PO.st_inv e
  obtain ⟨h4, f4, I4, d4⟩ := tk_ok I3'' x1' e4
  have s4 := f4.stp I3'' (fresh_nb x1')
  have xq : RelR B h4 σ q y := by
    cases q with
    | al j => exact x3
    | v p => exact (RelP.fzs (B1 := bx (bx B r u) s w) x3 f4 fun n z => .inl (.inr z)).weak fun n z => bx_l n (bx_l n z)
  have xs : RelR B h4 σ s w := by
    cases s with
    | al j => exact x2
    | v p => exact (RelP.fzs (B1 := bx B r u) x2' f4 fun n z => .inr z).weak fun n z => bx_l n z
  cases hq : pk ρ4 q with
  | none => rw [hq] at e; cases e
  | some yv =>
    rw [hq] at e
    have e : (match pstoreI s yv v ρ4 with | some ρ' => PS.ok .nx ρ' | none => .stuck) = .ok fl ρ' := e
    cases hs : pstoreI s yv v ρ4 with
    | none => rw [hs] at e; cases e
    | some ρ5 =>
      rw [hs] at e
      obtain ⟨fl2, σ2, h5, e5, s5, r5⟩ := pstoreI_ok (pin := Γ.pin) I4 xs (pk_ok I4 xq hq) d4 hs fl ρ' e
      exact ⟨fl2, σ2, h5, by rw [← f4.m]; exact e5, s4.trans s5, r5⟩
theorem ss_setAttr (G : GamOk Γ γ) {o e : E} {f : Str} : SS Γ γ (.setAttr o f e) := fun B h ρ σ I => by
  refine SimR.stz (g := fun v M => (evE γ o σ M).st fun x M => match storeA γ.fld x f v M with | some M' => .ok .nx σ M' | none => .stuck) (fun _ z => z) (pE_ok G e B h ρ σ I) fun r ρ1 u h1 s1 I1 x1 => ?_
  refine SimR.stz (g := fun x M => match storeA γ.fld x f u M with | some M' => .ok .nx σ M' | none => .stuck) bx_l (pE_ok G o (bx B r u) h1 ρ1 σ (I1.bx x1)) fun s ρ2 w h2 s2 I2 x2 => ?_
  have x1' := x1.stp s2 I2
  have I2' := I2.weak (B := B) bx_l
  intro fl ρ' e
  obtain ⟨v, ρ4, e4, e⟩ := PO.st_inv e
  obtain ⟨h4, f4, I4, d4⟩ := tk_ok I2' x1' e4
  have s4 := f4.stp I2' (fresh_nb x1')
  have xs : RelR B h4 σ s w := by
    cases s with
    | al j => exact x2
    | v p => exact (RelP.fzs (B1 := bx B r u) x2 f4 fun n z => .inr z).weak fun n z => bx_l n z
  cases hs : pstoreA Γ.fld s f v ρ4 with
  | none => rw [hs] at e; cases e
  | some ρ5 =>
    rw [hs] at e
    obtain ⟨fl2, σ2, h5, e5, s5, r5⟩ := pstoreA_ok (pin := Γ.pin) I4 xs d4 hs fl ρ' e
    exact ⟨fl2, σ2, h5, by rw [← f4.m, ← G.fld]; exact e5, s4.trans s5, r5⟩
theorem ss_aug (G : GamOk Γ γ) {i : Nat} {e : E} : SS Γ γ (.aug i e) := fun B h ρ σ I => by
  show SimZ B h σ Γ.pin (match ρ[i]? with | some (some (.fz (.int a))) => (pE Γ e ρ).st fun r ρ => (match pk ρ r with | some (.int b) => if i < ρ.length && !Γ.pin i then .ok .nx (ρ.set i (some (.fz (.int (a + b))))) else .stuck | _ => .stuck) | _ => .stuck) (match σ[i]? with | some (some (.int a)) => (evE γ e σ h.M).st fun v M => (match v with | .int b => .ok .nx (σ.set i (some (.int (a + b)))) M | _ => .stuck) | _ => .stuck)
  split
  · rename_i a hp
    obtain ⟨u, e1, d⟩ := I.sl i _ hp
    have d : Den h.M h.Z (.int a) u := d
    cases d
    rw [e1]
    dsimp only
    refine SimR.stz (fun _ z => z) (pE_ok G e B h ρ σ I) fun r ρ1 u h1 s1 I1 x1 => ?_
    split
    · rename_i b e2
      have d := pk_ok I1 x1 e2
      cases d
      split
      · rename_i hc
        rw [Bool.and_eq_true, decide_eq_true_eq] at hc
        refine simz_nx (I1.asgF hc.1 (.int _)) rfl (fun j hj => ?_) (by rw [List.length_set])
        rw [List.getElem?_set_ne]
        intro z; subst z; rw [hj] at hc; cases hc.2
      · exact simz_stuck
    · exact simz_stuck
  · exact simz_stuck
theorem ss_for {k : IK} {its : List E} {t : T} {body : List S} (G : GamOk Γ γ) (hb : SSs Γ γ body) : SS Γ γ (.for k its t body) := fun B h ρ σ I => by
  intro fl ρ' e
  obtain ⟨rs, ρ1, e1, e⟩ := PO.st_inv (show (pEs Γ its ρ).st _ = _ from e)
  obtain ⟨us, h1, e2, s1, I1, x1⟩ := pEs_ok G its B h ρ σ I rs ρ1 e1
  obtain ⟨vs, ρ2, e3, e⟩ := PO.st_inv e
  obtain ⟨h2, N, f2, n2, I2, d2⟩ := tks_ok I1 x1 e3
  have s2 := f2.stp I1 n2
  cases hl : psrc k vs with
  | none => rw [hl] at e; cases e
  | some l =>
    rw [hl] at e
    obtain ⟨src, e4, hS⟩ := psrc_ok d2 hl
    obtain ⟨fl2, σ2, h3, e5, s3, r3⟩ := for_ok (src := src) (len := l.length) (fun h ρ σ I => hb B h ρ σ I) l.length l l h2 h2 ρ2 σ hS rfl (by rw [Nat.sub_self]; rfl) (Nat.le_refl _) .refl I2 fl ρ' e
    refine ⟨fl2, σ2, h3, ?_, (s1.trans s2).trans s3, r3⟩
    show ((evEs γ its σ h.M).st fun vs M => match srcOf k vs M with | none => SR.stuck | some src => match src.len M with | none => SR.stuck | some len => forL (fun ρ M => evSs γ body ρ M) src t len len σ M) = _
    rw [e2]
    show (match srcOf k us h1.M with | none => SR.stuck | some src => match src.len h1.M with | none => SR.stuck | some len => forL (fun ρ M => evSs γ body ρ M) src t len len σ h1.M) = _
    rw [← f2.m, e4]
    dsimp only
    rw [(hS h2.M h2.Z (fun _ _ => rfl) fun _ z => z).1]
    exact e5
mutual
theorem pS_ok (G : GamOk Γ γ) : ∀ s : S, SS Γ γ s
  | .asg t e => ss_asg G
  | .setIdx o i e => ss_setIdx G
  | .setAttr o f e => ss_setAttr G
  | .aug i e => ss_aug G
  | .expr e => fun B h ρ σ I => SimR.stz (g := fun _ M => .ok .nx σ M) (fun _ z => z) (pE_ok G e B h ρ σ I) fun r ρ1 u h1 s1 I1 x1 => simz_nx I1 rfl (fun _ _ => rfl) rfl
  | .ret e => fun B h ρ σ I => SimR.stz (g := fun v M => .ok (.rt v) σ M) (fun _ z => z) (pE_ok G e B h ρ σ I) fun r ρ1 u h1 s1 I1 x1 => fun f ρ' e => by
      cases e; exact ⟨.rt u, σ, h1, rfl, .refl, I1, x1, fun _ _ => rfl, rfl⟩
  | .ite c a b => fun B h ρ σ I => SimR.stz (g := fun k M => if k then evSs γ a σ M else evSs γ b σ M) (fun _ z => z) (pT_ok G c I) fun k ρ1 k' h1 s1 I1 e => by
      subst e
      cases k with
      | true => exact pSs_ok G a B h1 ρ1 σ I1
      | false => exact pSs_ok G b B h1 ρ1 σ I1
  | .for k its t body => ss_for G (pSs_ok G body)
  | .while c body => fun B h ρ σ I => by
      show SimZ B h σ Γ.pin (pwhileL (fun ρ => pT Γ c ρ) (fun ρ => pSs Γ body ρ) ρ Γ.fuel ρ) (whileL (fun ρ M => evT γ c ρ M) (fun ρ M => evSs γ body ρ M) γ.fuel σ h.M)
      rw [G.fuel]
      exact while_ok (fun h ρ σ I => pT_ok G c I) (fun h ρ σ I => pSs_ok G body B h ρ σ I) γ.fuel h ρ σ I
  | .raise C es => fun B h ρ σ I => simz_stuck
  | .brk => fun B h ρ σ I => fun f ρ' e => by cases e; exact ⟨.bk, σ, h, rfl, .refl, I, trivial, fun _ _ => rfl, rfl⟩
  | .cnt => fun B h ρ σ I => fun f ρ' e => by cases e; exact ⟨.ct, σ, h, rfl, .refl, I, trivial, fun _ _ => rfl, rfl⟩
  | .pass => fun B h ρ σ I => simz_nx I rfl (fun _ _ => rfl) rfl
theorem pSs_ok (G : GamOk Γ γ) : ∀ ss : List S, SSs Γ γ ss
  | [] => fun B h ρ σ I => simz_nx I rfl (fun _ _ => rfl) rfl
  | s :: ss => fun B h ρ σ I => fun f ρ' e => by
      have e : (pS Γ s ρ).seq (fun ρ => pSs Γ ss ρ) = .ok f ρ' := e
      cases hs : pS Γ s ρ with
      | stuck => rw [hs] at e; cases e
      | ok q ρ1 =>
        rw [hs] at e
        obtain ⟨fl, σ1, h1, e1, s1, I1, r1, p1, l1⟩ := pS_ok G s B h ρ σ I q ρ1 hs
        have unf : evSs γ (s :: ss) σ h.M = (SR.ok fl σ1 h1.M).seq fun ρ M => evSs γ ss ρ M := by
          show (evS γ s σ h.M).seq _ = _
          rw [e1]
        rw [unf]
        cases q with
        | nx =>
          cases fl with
          | nx =>
            obtain ⟨fl2, σ2, h2, e2, s2, I2, r2, p2, l2⟩ := pSs_ok G ss B h1 ρ1 σ1 I1 f ρ' e
            exact ⟨fl2, σ2, h2, e2, s1.trans s2, I2, r2, fun i hi => (p2 i hi).trans (p1 i hi), by rw [l2, l1]⟩
          | _ => exact r1.elim
        | rt r =>
          cases fl with
          | rt u => cases e; exact ⟨.rt u, σ1, h1, rfl, s1, I1, r1, p1, l1⟩
          | _ => exact r1.elim
        | bk =>
          cases fl with
          | bk => cases e; exact ⟨.bk, σ1, h1, rfl, s1, I1, r1, p1, l1⟩
          | _ => exact r1.elim
        | ct =>
          cases fl with
          | ct => cases e; exact ⟨.ct, σ1, h1, rfl, s1, I1, r1, p1, l1⟩
          | _ => exact r1.elim
end
end
end Mn.Pn
end -- Pn11
section -- Pn12
set_option linter.all false
set_option autoImplicit false
set_option maxRecDepth 100000
/-! Defs, and all calls. -/
namespace Mn.Pn
open PySem L2
section
variable {Γ : PGam} {γ : Gam} {B : Nat → Prop} {h h' : Hs} {ρ ρ' : PEnv} {σ : Env}
theorem mask_in : ∀ {bs : List Bool} {l : List (Option P)} {i : Nat} {p : P}, (maskL bs l)[i]? = some (some p) → pinL bs i = true ∧ l[i]? = some (some p)
  | bs, [], i, p, e => by cases bs <;> simp [maskL] at e
  | [], x :: r, 0, p, e => by simp [maskL] at e
  | [], x :: r, i + 1, p, e => by
    have e : (maskL [] r)[i]? = some (some p) := by simpa [maskL] using e
    obtain ⟨a, _⟩ := mask_in e
    simp [pinL] at a
  | b :: bs, x :: r, 0, p, e => by
    simp only [maskL, List.getElem?_cons_zero] at e
    cases b with
    | true => exact ⟨rfl, by simpa using e⟩
    | false => simp at e
  | b :: bs, x :: r, i + 1, p, e => by
    have e : (maskL bs r)[i]? = some (some p) := by simpa [maskL] using e
    obtain ⟨a, c⟩ := mask_in e
    exact ⟨a, by simpa using c⟩
theorem mask_len : ∀ {bs : List Bool} {l : List (Option P)}, (maskL bs l).length = l.length
  | bs, [] => by cases bs <;> rfl
  | [], x :: r => by simp [maskL, mask_len]
  | b :: bs, x :: r => by simp [maskL, mask_len]
theorem Inv.take (I : Inv B h ρ σ) (n : Nat) : Inv B h (ρ.take n) (σ.take n) := by
  refine ⟨by simp [I.len], I.bl, I.zl, I.ow, I.inj, fun i p hp => ?_⟩
  rw [List.getElem?_take] at hp
  split at hp
  · obtain ⟨u, e, s⟩ := I.sl i p hp
    exact ⟨u, by rw [List.getElem?_take, if_pos ‹_›]; exact e, s⟩
  · cases hp
/-- what the parameters hold at the end -/
theorem Inv.back {bs : List Bool} {σ0 : Env} {xs : List Val} {n : Nat} (I : Inv B h ρ σ) (hp : ∀ i, pinL bs i = true → σ[i]? = σ0[i]?) (h0 : ∀ i, i < n → σ0[i]? = (xs.map some)[i]?) (hn : n = xs.length) (hl : n ≤ ρ.length) :
    Inv B h (maskL bs (ρ.take n)) (xs.map some) := by
  refine ⟨by rw [mask_len, List.length_take, List.length_map]; omega, I.bl, I.zl, I.ow, I.inj, fun i p hi => ?_⟩
  obtain ⟨a, b⟩ := mask_in hi
  rw [List.getElem?_take] at b
  split at b
  · rename_i hin
    obtain ⟨u, e, s⟩ := I.sl i p b
    exact ⟨u, by rw [← h0 i hin, ← hp i a]; exact e, s⟩
  · cases b
theorem start_get {n i : Nat} {xs : List Val} (hi : i < xs.length) : (startE n xs)[i]? = (xs.map some)[i]? := by
  unfold startE; rw [List.getElem?_append_left (by simpa using hi)]
theorem Inv.start {us : List P} {xs : List Val} (n : Nat) (I : Inv B h (us.map some) (xs.map some)) : Inv B h (us.map some ++ List.replicate (n - us.length) none) (startE n xs) := by
  have hl : us.length = xs.length := by simpa using I.len
  refine ⟨by unfold startE; simp [hl], I.bl, I.zl, I.ow, I.inj, fun i p hp => ?_⟩
  by_cases hi : i < us.length
  · rw [List.getElem?_append_left (by simpa using hi)] at hp
    obtain ⟨u, e, s⟩ := I.sl i p hp
    exact ⟨u, by rw [start_get (by omega)]; exact e, s⟩
  · rw [List.getElem?_append_right (by simpa using hi), List.getElem?_replicate] at hp
    split at hp <;> cases hp
theorem run_ok (G : GamOk Γ γ) {bs : List Bool} (hpin : Γ.pin = pinL bs) {fd : FD} {us : List P} {xs : List Val} {p : P} {fs : List (Option P)} (hl : us.length = fd.ps.length) (I : Inv B h (us.map some) (xs.map some)) (e : prunB Γ fd us = some (p, fs)) :
    ∃ u h', runB γ fd xs h.M = .ok u h'.M ∧ Stp B h h' ∧ Inv B h' (maskL bs fs) (xs.map some) ∧ RelP B h' p u := by
  have hx : us.length = xs.length := by simpa using I.len
  have I0 := I.start fd.n
  unfold prunB at e
  have h0 : ∀ i, i < fd.ps.length → (startE fd.n xs)[i]? = (xs.map some)[i]? := fun i hi => start_get (by omega)
  cases hs : pSs Γ fd.body (us.map some ++ List.replicate (fd.n - us.length) none) with
  | stuck => rw [hs] at e; cases e
  | ok q ρ1 =>
    rw [hs] at e
    obtain ⟨fl, σ1, h1, e1, s1, I1, r1, p1, l1⟩ := pSs_ok G fd.body B h _ _ I0 q ρ1 hs
    rw [hpin] at p1
    have hlen : fd.ps.length ≤ ρ1.length := by rw [I1.len, l1, ← I0.len]; simp; omega
    unfold runB
    rw [e1]
    cases q with
    | nx =>
      cases fl with
      | nx => cases e; exact ⟨.non, h1, rfl, s1, I1.back p1 h0 (by omega) hlen, .non⟩
      | _ => exact r1.elim
    | rt r =>
      cases fl with
      | rt u =>
        cases r with
        | v p0 => cases e; exact ⟨u, h1, rfl, s1, I1.back p1 h0 (by omega) hlen, r1⟩
        | al i =>
          have e : (match ρ1[i]? with | some (some p) => if p.isF then some (p, ρ1.take fd.ps.length) else if Γ.pin i then some (.fz p.view, (ρ1.set i (some (.fz p.view))).take fd.ps.length) else some (p, (ρ1.set i none).take fd.ps.length) | _ => none) = some (p, fs) := e
          split at e
          · rename_i p0 hp0
            have r1 : σ1[i]? = some (some u) := r1
            obtain ⟨w, ew, sw⟩ := I1.sl i p0 hp0
            rw [r1] at ew; cases ew
            split at e
            · rename_i hf
              cases e
              obtain ⟨v, rfl, d⟩ := sw.fzd hf
              exact ⟨u, h1, rfl, s1, I1.back p1 h0 (by omega) hlen, d⟩
            · rename_i hf
              split at e
              · cases e
                obtain ⟨h2, f2, I2, d2⟩ := tk_ok (r := .al i) (v := p0.view) (ρ' := ρ1.set i (some (.fz p0.view))) I1 r1 (by
                  show (match ρ1[i]? with | some (some p) => PO.ok p.view (if p.isF then ρ1 else ρ1.set i (some (.fz p.view))) | _ => .stuck) = _
                  rw [hp0]; simp only [hf]; rfl)
                exact ⟨u, h2, by rw [f2.m]; rfl, s1.trans (f2.stp I1 fun n z => by cases z.1), I2.back p1 h0 (by omega) (by rw [List.length_set]; exact hlen), d2⟩
              · cases e
                obtain ⟨n, rfl, ea, o⟩ := sw.own (by simpa using hf)
                obtain ⟨a1, a2, a3⟩ := I1.ow i n ea
                let h2 : Hs := ⟨h1.Z, fun j => if j = i then none else h1.A j, h1.M⟩
                have hA : ∀ j m, h2.A j = some m → j ≠ i ∧ h1.A j = some m := fun j m z => by
                  have z : (if j = i then none else h1.A j) = some m := z
                  split at z
                  · cases z
                  · exact ⟨‹_›, z⟩
                have I2 : Inv B h2 (ρ1.set i none) σ1 := by
                  refine ⟨by rw [List.length_set]; exact I1.len, I1.bl, I1.zl, fun j m z => I1.ow j m (hA j m z).2, fun j k m z1 z2 => I1.inj j k m (hA j m z1).2 (hA k m z2).2, fun j q hq => ?_⟩
                  rcases getElem?_set_cases hq with ⟨_, hq, _⟩ | ⟨hj, hq⟩
                  · cases hq
                  · obtain ⟨u2, e3, s3⟩ := I1.sl j q hq
                    refine ⟨u2, e3, ?_⟩
                    show Slot h2 (if j = i then none else h1.A j) q u2
                    rw [if_neg hj]
                    cases hp2 : q.isF with
                    | true => obtain ⟨v, rfl, d⟩ := s3.fzd hp2; exact d
                    | false =>
                      obtain ⟨k, rfl, e4, o2⟩ := s3.own hp2
                      rw [e4]; exact Slot.of (o2.move rfl (fun _ _ => rfl) fun _ z => z)
                have s2 : Stp B h1 h2 := stp_same rfl rfl
                exact ⟨.ref n, h2, rfl, s1.trans s2, I2.back p1 h0 (by omega) (by rw [List.length_set]; exact hlen), .of (o.move rfl (fun _ _ => rfl) fun _ z => z) a1 a2 a3 fun j z => (hA j n z).1 (I1.inj j i n (hA j n z).2 ea)⟩
          · cases e
      | _ => exact r1.elim
    | bk => cases e
    | ct => cases e
/-! ### the arguments bound -/
theorem kw_look {M : Mem} {Z : Nat → Prop} : ∀ {kw : List (Str × Pv)} {ws : List (Str × Val)} {x : Str}, Denf M Z kw ws → (∃ v u, kw.lookup x = some v ∧ ws.lookup x = some u ∧ Den M Z v u) ∨ (kw.lookup x = none ∧ ws.lookup x = none) := fun {kw ws x} d => by
  cases e : kw.lookup x with
  | none => exact .inr ⟨rfl, lookup_none d e⟩
  | some v =>
    obtain ⟨u, e1, e2⟩ := lookup_den d e
    exact .inl ⟨v, u, rfl, e1, e2⟩
theorem bind_rest {fd : FD} {M : Mem} {Z : Nat → Prop} {kw : List (Str × Pv)} {ws : List (Str × Val)} (d : Denf M Z kw ws) : ∀ {ps : List Str} {us : List P}, pbindA fd ps [] kw = some us → ∃ vs xs, us = vs.map .fz ∧ bindA fd ps [] ws = some xs ∧ Dens M Z vs xs ∧ us.length = ps.length
  | [], us, e => by cases e; exact ⟨[], [], rfl, rfl, .nil, rfl⟩
  | p :: ps, us, e => by
    have e : (match kw.lookup p with | some v => (pbindA fd ps [] kw).map (.fz v :: ·) | none => match fd.dfl.lookup p with | some v => (if noRef v then (pbindA fd ps [] kw).map (.fz (ofVal v) :: ·) else none) | none => none) = some us := e
    have goal : ∀ (v : Pv) (u : Val), Den M Z v u → (pbindA fd ps [] kw).map (.fz v :: ·) = some us → ∃ vs xs, us = vs.map .fz ∧ (bindA fd ps [] ws).map (u :: ·) = some xs ∧ Dens M Z vs xs ∧ us.length = (p :: ps).length := fun v u dv e => by
      cases hb : pbindA fd ps [] kw with
      | none => rw [hb] at e; cases e
      | some us2 =>
        rw [hb] at e; cases e
        obtain ⟨vs, xs, e1, e2, e3, e4⟩ := bind_rest d hb
        exact ⟨v :: vs, u :: xs, by rw [e1]; rfl, by rw [e2]; rfl, .cons dv e3, by simp [e4]⟩
    show ∃ vs xs, us = vs.map .fz ∧ (match ws.lookup p with | some v => (bindA fd ps [] ws).map (v :: ·) | none => match fd.dfl.lookup p with | some v => (bindA fd ps [] ws).map (v :: ·) | none => none) = some xs ∧ Dens M Z vs xs ∧ us.length = (p :: ps).length
    rcases kw_look (x := p) d with ⟨v, u, k1, k2, dv⟩ | ⟨k1, k2⟩
    · rw [k1] at e; rw [k2]
      exact goal v u dv e
    · rw [k1] at e; rw [k2]
      dsimp only at e ⊢
      cases hd : fd.dfl.lookup p with
      | none => rw [hd] at e; cases e
      | some v =>
        rw [hd] at e
        dsimp only at e ⊢
        split at e
        · rename_i hn
          exact goal _ v (ofVal_den hn) e
        · cases e
theorem bind_ok {fd : FD} {M : Mem} {Z : Nat → Prop} {kw : List (Str × Pv)} {ws : List (Str × Val)} (d : Denf M Z kw ws) : ∀ {ps : List Str} {as us : List P} {bs : List Val}, as.length = bs.length → pbindA fd ps as kw = some us → ∃ vs xs ys, us = as ++ vs.map .fz ∧ bindA fd ps bs ws = some xs ∧ xs = bs ++ ys ∧ Dens M Z vs ys ∧ us.length = ps.length
  | ps, [], us, [], _, e => by
    obtain ⟨vs, xs, e1, e2, e3, e4⟩ := bind_rest d e
    exact ⟨vs, xs, xs, e1, e2, rfl, e3, e4⟩
  | [], a :: as, us, b :: bs, _, e => by cases e
  | p :: ps, a :: as, us, b :: bs, hl, e => by
    have e : (pbindA fd ps as kw).map (a :: ·) = some us := e
    cases hb : pbindA fd ps as kw with
    | none => rw [hb] at e; cases e
    | some us2 =>
      rw [hb] at e; cases e
      obtain ⟨vs, xs, ys, e1, e2, e3, e4, e5⟩ := bind_ok d (bs := bs) (by simpa using hl) hb
      exact ⟨vs, b :: xs, ys, by rw [e1]; rfl, by show (bindA fd ps bs ws).map (b :: ·) = _; rw [e2]; rfl, by rw [e3]; rfl, e4, by simp [e5]⟩
  | _, [], _, _ :: _, hl, _ => by simp at hl
  | _, _ :: _, _, [], hl, _ => by simp at hl
theorem Inv.more {as : List P} {bs ys : List Val} {vs : List Pv} (I : Inv B h (as.map some) (bs.map some)) (d : Dens h.M h.Z vs ys) : Inv B h ((as ++ vs.map P.fz).map some) ((bs ++ ys).map some) := by
  have hl : as.length = bs.length := by simpa using I.len
  refine ⟨by simp [hl, d.length], I.bl, I.zl, I.ow, I.inj, fun i p hp => ?_⟩
  rw [List.map_append] at hp ⊢
  by_cases hi : i < as.length
  · rw [List.getElem?_append_left (by simpa using hi)] at hp
    obtain ⟨u, e, s⟩ := I.sl i p hp
    exact ⟨u, by rw [List.getElem?_append_left (by simp; omega)]; exact e, s⟩
  · rw [List.getElem?_append_right (by simpa using hi), List.map_map, List.getElem?_map, List.length_map] at hp
    cases hv : vs[i - as.length]? with
    | none => rw [hv] at hp; cases hp
    | some v =>
      rw [hv] at hp; cases hp
      obtain ⟨u, e, dv⟩ := d.get hv
      refine ⟨u, ?_, dv⟩
      rw [List.getElem?_append_right (by simp; omega), List.getElem?_map, List.length_map, ← hl, e]; rfl
/-- what calls at a level do -/
def CfOk (p : PCF) (c : CF) : Prop := ∀ f ps kw r fs, p f ps kw = some (r, fs) → CallSem c f ps kw r fs
theorem step_ok {Pr : Prg} {L : Str → List Bool} {c1 c2 : PCF} {γ : Gam} (G : ∀ f, GamOk (pbodyG Pr L f c1 c2) γ) : CfOk (pstepC Pr L c1 c2) (stepC Pr γ) := fun f ps kw r fs e B h us ws I d => by
  have hl : ps.length = us.length := by simpa using I.len
  unfold pstepC at e
  unfold stepC
  cases hf : Pr.fns.lookup f with
  | none => rw [hf] at e; cases e
  | some fd =>
    rw [hf] at e
    dsimp only at e ⊢
    cases hb : pbindA fd fd.ps ps kw with
    | none => rw [hb] at e; cases e
    | some as =>
      rw [hb] at e
      dsimp only at e
      obtain ⟨vs, xs, ys, e1, e2, rfl, e4, e5⟩ := bind_ok d hl hb
      rw [e2]
      dsimp only
      cases hr : prunB (pbodyG Pr L f c1 c2) fd as with
      | none => rw [hr] at e; cases e
      | some q =>
        obtain ⟨p, gs⟩ := q
        rw [hr] at e; cases e
        have I2 : Inv B h (as.map some) ((us ++ ys).map some) := by rw [e1]; exact I.more e4
        obtain ⟨u, h', g1, g2, g3, g4⟩ := run_ok (G f) (bs := L f) rfl e5 I2 hr
        refine ⟨u, h', g1, g2, ?_, g4⟩
        have := g3.take ps.length
        rw [hl] at this ⊢
        rw [List.map_append, List.take_left' (by simp)] at this
        exact this
theorem make_ok {Pr : Prg} {L : Str → List Bool} {f : Str} {c1 c2 : PCF} {d1 d2 : CF} (H2 : CfOk c2 d2) : ∀ C vs kw p, (pbodyG Pr L f c1 c2).make C (vs.map .fz) kw = some p → MakeSem (bodyG Pr d1 d2).make C vs kw p := fun C vs kw p e B h us ws ρ σ I d dk => by
  have e : (if (Pr.cls.lookup C).isSome && (L (C ++ Str.ofString ".__init__")).headD false then (match c2 (C ++ Str.ofString ".__init__") (.oi C [] :: vs.map .fz) kw with | some (.fz .non, some p :: _) => some p | _ => none) else none) = some p := e
  split at e
  · rename_i hc
    rw [Bool.and_eq_true] at hc
    split at e
    · rename_i p0 rest hcall
      cases e
      obtain ⟨s1, I1⟩ := stp_new I (.ins C [])
      let h1 : Hs := ⟨h.Z, h.A, h.M ++ [.ins C []]⟩
      let n := h.M.length
      let Bc : Nat → Prop := fun m => B m ∨ ∃ i, h.A i = some m
      let Ac : Nat → Option Nat := fun j => if j = 0 then some n else none
      let hc0 : Hs := ⟨h.Z, Ac, h.M ++ [.ins C []]⟩
      have nB : ¬ B n := fun z => Nat.lt_irrefl _ (I.bl _ z)
      have nZ : ¬ h.Z n := fun z => Nat.lt_irrefl _ (I.zl _ z)
      have nA : ∀ i, h.A i ≠ some n := fun i z => Nat.lt_irrefl _ (I.ow i _ z).2.2
      have hAc : ∀ j m, Ac j = some m → j = 0 ∧ m = n := fun j m z => by
        have z : (if j = 0 then some n else none) = some m := z
        split at z
        · cases z; exact ⟨‹_›, rfl⟩
        · cases z
      have dd : Dens hc0.M hc0.Z vs us := d.stp s1
      have Ic : Inv Bc hc0 ((P.oi C [] :: vs.map .fz).map some) ((Val.ref n :: us).map some) := by
        refine ⟨by simp [d.length], fun m z => z.elim (I1.bl m) fun ⟨i, z⟩ => (I1.ow i m z).2.2, I1.zl, fun j m z => ?_, fun j k m z1 z2 => ?_, fun j q hq => ?_⟩
        · obtain ⟨_, rfl⟩ := hAc j m z
          exact ⟨fun y => y.elim nB fun ⟨i, y⟩ => nA i y, nZ, by show n < (h.M ++ [Obj.ins C []]).length; simp [n]⟩
        · rw [(hAc j m z1).1, (hAc k m z2).1]
        · cases j with
          | zero =>
            cases hq
            exact ⟨.ref n, rfl, n, rfl, rfl, [], app_new, .nil⟩
          | succ j =>
            have hq : ((vs.map P.fz).map some)[j]? = some (some q) := by simpa using hq
            rw [List.map_map, List.getElem?_map] at hq
            cases hv : vs[j]? with
            | none => rw [hv] at hq; cases hq
            | some v =>
              rw [hv] at hq; cases hq
              obtain ⟨u, e, dv⟩ := dd.get hv
              exact ⟨u, by simp [e], dv⟩
      obtain ⟨u, h2, e2, s2, I2, r2⟩ := H2 _ _ _ _ _ hcall Bc hc0 (.ref n :: us) ws Ic (dk.mono s1.zz s1.z)
      have du : u = .non := by
        have : Den h2.M h2.Z .non u := r2
        cases this; rfl
      subst du
      obtain ⟨w, ew, sw⟩ := I2.sl 0 p rfl
      have ew : some (some (Val.ref n)) = some (some w) := ew
      cases ew
      let h4 : Hs := ⟨h2.Z, h.A, h2.M⟩
      have s4 : Stp B h h4 := ⟨Nat.le_trans s1.len s2.len, fun m z => (s2.b m (.inl z)).trans (s1.b m z), fun m z => s2.z m z, fun m z => (s2.zz m z).trans (s1.zz m z), fun m hl z => (s2.nz m (Nat.lt_of_lt_of_le hl s1.len) z).imp id fun y z => y (.inl z)⟩
      have I4 : Inv B h4 ρ σ := by
        refine ⟨I.len, fun m z => Nat.lt_of_lt_of_le (I.bl m z) s4.len, I2.zl, fun i m z => ?_, I.inj, fun i q hq => ?_⟩
        · obtain ⟨a, b, c⟩ := I.ow i m z
          exact ⟨a, fun y => (s2.nz m (Nat.lt_of_lt_of_le c s1.len) y).elim b fun y => y (.inr ⟨i, z⟩), Nat.lt_of_lt_of_le c s4.len⟩
        · obtain ⟨w, g1, g2⟩ := I.sl i q hq
          refine ⟨w, g1, ?_⟩
          cases hq0 : q.isF with
          | true => obtain ⟨v, rfl, d⟩ := g2.fzd hq0; exact d.mono s4.zz s4.z
          | false =>
            obtain ⟨m, rfl, em, o⟩ := g2.own hq0
            show Slot h4 (h.A i) q _
            rw [em]
            refine Slot.of (o.move ?_ s4.zz s4.z)
            exact (s2.b m (.inr ⟨i, em⟩)).trans (List.getElem?_append_left (I.ow i m em).2.2)
      refine ⟨.ref n, h4, ?_, s4, I4, ?_⟩
      · show (if (Pr.cls.lookup C).isSome then (d2 (C ++ Str.ofString ".__init__") (.ref h.M.length :: us) ws (h.M ++ [.ins C []])).bind fun v M' => (match v with | .non => Res.ok (Val.ref h.M.length) M' | _ => .stuck) else .stuck) = _
        rw [if_pos hc.1, e2]; rfl
      · cases hp : p.isF with
        | true => obtain ⟨v, rfl, dv⟩ := sw.fzd hp; exact dv
        | false =>
          obtain ⟨m, em, ea, o⟩ := sw.own hp
          cases em
          obtain ⟨a, b, c⟩ := I2.ow 0 n ea
          exact RelP.of (o.move rfl (fun _ _ => rfl) fun _ z => z) (fun z => a (.inl z)) b c fun i z => a (.inr ⟨i, z⟩)
    · cases e
  · cases e
theorem gam_ok {Pr : Prg} {L : Str → List Bool} {c1 c2 : PCF} {d1 d2 : CF} (H1 : CfOk c1 d1) (H2 : CfOk c2 d2) (f : Str) : GamOk (pbodyG Pr L f c1 c2) (bodyG Pr d1 d2) where
  glob := fun x v e => by
    have e : (match Pr.glb.lookup x with | some v => if noRef v then some (ofVal v) else none | none => none) = some v := e
    split at e
    · rename_i w hw
      split at e
      · cases e; exact ⟨w, hw, fun M Z => ofVal_den ‹_›⟩
      · cases e
    · cases e
  call := H1
  make := make_ok H2
  fld := rfl
  fuel := rfl
theorem all_ok (Pr : Prg) (L : Str → List Bool) : ∀ k, CfOk (pcallP Pr L k).1 (callP Pr k).1 ∧ CfOk (pcallP Pr L k).2 (callP Pr k).2
  | 0 => ⟨fun f ps kw r fs e => (nomatch e), fun f ps kw r fs e => (nomatch e)⟩
  | k + 1 => ⟨step_ok fun f => gam_ok (all_ok Pr L k).1 (all_ok Pr L k).2 f, (all_ok Pr L k).1⟩
/-- what a body calls that runs at level k -/
def pgam (Pr : Prg) (L : Str → List Bool) (f : Str) (k : Nat) : PGam := pbodyG Pr L f (pcallP Pr L k).1 (pcallP Pr L k).2
theorem pgam_ok (Pr : Prg) (L : Str → List Bool) (f : Str) (k : Nat) : GamOk (pgam Pr L f k) (gam Pr k) := gam_ok (all_ok Pr L k).1 (all_ok Pr L k).2 f
end
end Mn.Pn
namespace Mn
open PySem L2
/-- a law holds that the evaluator without a store finds true -/
theorem law_pn {Pr : Prg} {L : Str → List Bool} {k : Nat} {fd : FD} {ns : List Int} {fs : List (Option P)} (hl : fd.ps.length = 1) (e : prunB (Pn.pgam Pr L (Str.ofString "law") k) fd [.fz (.rol (ns.map .int))] = some (.fz (.bl true), fs)) :
    ∃ M', runB (gam Pr k) fd [.ref 0] [.rol (ns.map .int)] = .ok (.bl true) M' := by
  let h : Pn.Hs := ⟨fun n => n = 0, fun _ => none, [.rol (ns.map .int)]⟩
  have I : Pn.Inv (fun _ => False) h ([P.fz (.rol (ns.map .int))].map some) ([Val.ref 0].map some) := by
    refine ⟨rfl, fun _ z => z.elim, fun n z => by subst z; exact Nat.zero_lt_one, (fun i n z => (nomatch z)), (fun i j n z => (nomatch z)), fun i p hp => ?_⟩
    cases i with
    | zero =>
      cases hp
      exact ⟨.ref 0, rfl, .rol rfl rfl (Pn.Dens.map (fun i => .int i) ns)⟩
    | succ i => simp at hp
  obtain ⟨u, h', e1, _, _, r⟩ := Pn.run_ok (Pn.pgam_ok Pr L _ k) (bs := L (Str.ofString "law")) rfl (by rw [hl]; rfl) I e
  have r : Pn.Den h'.M h'.Z (.bl true) u := r
  cases r
  exact ⟨h'.M, e1⟩
end Mn
end -- Pn12
section -- Px0
set_option linter.all false
set_option autoImplicit false
set_option maxRecDepth 100000
namespace Mn
open PySem L2
theorem pbindA_eq {fd : FD} : ∀ {ps : List Str} {vs : List P}, vs.length = ps.length → pbindA fd ps vs [] = some vs
  | [], [], _ => rfl
  | [], _ :: _, h => by simp at h
  | _ :: _, [], h => by simp at h
  | p :: ps, v :: vs, h => by
    show (pbindA fd ps vs []).map (v :: ·) = _
    rw [pbindA_eq (by simpa using h)]; rfl
theorem pcallAt_succ (Pr : Prg) (L : Str → List Bool) (k : Nat) : pcallAt Pr L (k + 1) = pstepC Pr L (pcallP Pr L k).1 (pcallP Pr L k).2 := rfl
theorem prun_len {Γ : PGam} {fd : FD} {us : List P} {p : P} {fs : List (Option P)} (e : prunB Γ fd us = some (p, fs)) : fs.length ≤ fd.ps.length := by
  unfold prunB pretOf at e
  split at e
  · cases e; exact List.length_take_le _ _
  · split at e
    · cases e; exact List.length_take_le _ _
    · split at e
      · split at e
        · cases e; exact List.length_take_le _ _
        · split at e <;> (cases e; exact List.length_take_le _ _)
      · cases e
  · cases e
theorem pcall_eq {Pr : Prg} {L : Str → List Bool} {f : Str} {fd : FD} {k : Nat} {ps : List P} {bs : List Bool} (h : Pr.fns.lookup f = some fd) (hb : L f = bs) (hl : ps.length = fd.ps.length) :
    pcallAt Pr L (k + 1) f ps [] = (prunB (Pn.pgam Pr L f k) fd ps).map fun q => (q.1, maskL bs q.2) := by
  rw [pcallAt_succ]
  unfold pstepC
  rw [h]
  dsimp only
  rw [pbindA_eq hl]
  dsimp only
  rw [hb]
  show (match prunB (Pn.pgam Pr L f k) fd ps with | some (p, fs) => some (p, (maskL bs fs).take ps.length) | none => none) = _
  cases e : prunB (Pn.pgam Pr L f k) fd ps with
  | none => rfl
  | some q =>
    obtain ⟨p, fs⟩ := q
    have := prun_len e
    dsimp only [Option.map_some]
    rw [List.take_of_length_le (by rw [Pn.mask_len]; omega)]
theorem glob_eq {Pr : Prg} {L : Str → List Bool} {f x : Str} {k : Nat} {v : Val} {w : Pv} (h : Pr.glb.lookup x = some v) (hn : noRef v = true) (hw : ofVal v = w) : (Pn.pgam Pr L f k).glob x = some w := by
  show (match Pr.glb.lookup x with | some v => if noRef v then some (ofVal v) else none | none => none) = _
  rw [h]
  dsimp only
  rw [if_pos hn, hw]
end Mn
end -- Px0
section -- Px1
set_option linter.all false
set_option autoImplicit false
set_option maxRecDepth 100000
/-! Steps by simp: the evaluator's equations, and small combinators for looks at results. -/
namespace Mn
open PySem L2
theorem ofString_inj {a b : String} : (Str.ofString a = Str.ofString b) ↔ a = b := by
  constructor
  · intro h
    rw [Str.ofString_eq_toList, Str.ofString_eq_toList] at h
    have h1 : a.toList.map Char.toNat = b.toList.map Char.toNat := by
      have := congrArg (fun s : Str => s.cps.toList) h
      simpa using this
    have h2 : a.toList = b.toList := by
      have inj : ∀ (l m : List Char), l.map Char.toNat = m.map Char.toNat → l = m := by
        intro l
        induction l with
        | nil => intro m h; cases m with
          | nil => rfl
          | cons c m => simp at h
        | cons c l ih =>
          intro m h
          cases m with
          | nil => simp at h
          | cons d m =>
            simp only [List.map_cons, List.cons.injEq] at h
            rw [ih m h.2, Char.toNat_inj.mp h.1]
      exact inj _ _ h1
    exact String.toList_inj.mp h2
  · intro h; rw [h]
theorem pvstr_inj {a b : String} : (Pv.str (Str.ofString a) = Pv.str (Str.ofString b)) ↔ a = b := by simp [ofString_inj]
section
variable {α β : Type} {ρ : PEnv} {r s : R} {p q : P} {v x y : Pv}
theorem PS.seq_nx {f : PEnv → PS} : (PS.ok .nx ρ).seq f = f ρ := (rfl)
theorem PS.seq_rt {f : PEnv → PS} : (PS.ok (.rt r) ρ).seq f = .ok (.rt r) ρ := (rfl)
theorem PS.seq_bk {f : PEnv → PS} : (PS.ok .bk ρ).seq f = .ok .bk ρ := (rfl)
theorem PS.seq_ct {f : PEnv → PS} : (PS.ok .ct ρ).seq f = .ok .ct ρ := (rfl)
theorem ite_seq {c : Prop} [Decidable c] {a b : PS} {f : PEnv → PS} : (if c then a else b).seq f = if c then a.seq f else b.seq f := by split <;> rfl
theorem ite_bind {c : Prop} [Decidable c] {a b : PO α} {f : α → PEnv → PO β} : (if c then a else b).bind f = if c then a.bind f else b.bind f := by split <;> rfl
theorem ite_st {c : Prop} [Decidable c] {a b : PO α} {f : α → PEnv → PS} : (if c then a else b).st f = if c then a.st f else b.st f := by split <;> rfl
theorem bind_ok' (a : α) (f : α → PEnv → PO β) : (PO.ok a ρ).bind f = f a ρ := (rfl)
theorem st_ok' (a : α) (f : α → PEnv → PS) : (PO.ok a ρ).st f = f a ρ := (rfl)
/-! looks -/
theorem view_fz : (P.fz v).view = v := (rfl)
theorem view_ol {vs : List Pv} : (P.ol vs).view = .lst vs := (rfl)
theorem view_od {vs : List (Pv × Pv)} : (P.od vs).view = .dct vs := (rfl)
theorem view_oi {C : Str} {vs : List (Str × Pv)} : (P.oi C vs).view = .ins C vs := (rfl)
def rvar (i : Nat) (o : Option (Option P)) (ρ : PEnv) : PO R := match o with | some (some p) => .ok (if p.isF then .v p else .al i) ρ | _ => .stuck
theorem rvar_fz {i : Nat} : rvar i (some (some (.fz v))) ρ = .ok (.v (.fz v)) ρ := (rfl)
theorem rvar_ol {i : Nat} {vs : List Pv} : rvar i (some (some (.ol vs))) ρ = .ok (.al i) ρ := (rfl)
theorem rvar_od {i : Nat} {vs : List (Pv × Pv)} : rvar i (some (some (.od vs))) ρ = .ok (.al i) ρ := (rfl)
theorem rvar_oi {i : Nat} {C : Str} {vs : List (Str × Pv)} : rvar i (some (some (.oi C vs))) ρ = .ok (.al i) ρ := (rfl)
def pv2 (o : Option (Option P)) : Option Pv := match o with | some (some p) => some p.view | _ => none
theorem pv2_some : pv2 (some (some p)) = some p.view := (rfl)
theorem pk_v : pk ρ (.v p) = some p.view := (rfl)
theorem pk_al {i : Nat} : pk ρ (.al i) = pv2 ρ[i]? := (rfl)
def pkF2 (ρ : PEnv) : R → Option Pv := pkF ρ
theorem pkF_v : pkF ρ (.v (.fz v)) = some v := (rfl)
theorem pkF_al {i : Nat} : pkF ρ (.al i) = pv2 ρ[i]? := (rfl)
theorem pks_nil : pks ρ [] = some [] := (rfl)
def cons2 (a : Option Pv) (b : Option (List Pv)) : Option (List Pv) := match a, b with | some v, some vs => some (v :: vs) | _, _ => none
theorem cons2_some {vs : List Pv} : cons2 (some v) (some vs) = some (v :: vs) := (rfl)
theorem pks_cons {rs : List R} : pks ρ (r :: rs) = cons2 (pk ρ r) (pks ρ rs) := (rfl)
theorem tk_v : tk (.v p) ρ = .ok p.view ρ := (rfl)
def tk2 (i : Nat) (o : Option (Option P)) (ρ : PEnv) : PO Pv := match o with | some (some p) => .ok p.view (if p.isF then ρ else ρ.set i (some (.fz p.view))) | _ => .stuck
theorem tk_al {i : Nat} : tk (.al i) ρ = tk2 i ρ[i]? ρ := (rfl)
theorem tk2_fz {i : Nat} : tk2 i (some (some (.fz v))) ρ = .ok v ρ := (rfl)
theorem tk2_ol {i : Nat} {vs : List Pv} : tk2 i (some (some (.ol vs))) ρ = .ok (.lst vs) (ρ.set i (some (.fz (.lst vs)))) := (rfl)
theorem tk2_od {i : Nat} {vs : List (Pv × Pv)} : tk2 i (some (some (.od vs))) ρ = .ok (.dct vs) (ρ.set i (some (.fz (.dct vs)))) := (rfl)
theorem tk2_oi {i : Nat} {C : Str} {vs : List (Str × Pv)} : tk2 i (some (some (.oi C vs))) ρ = .ok (.ins C vs) (ρ.set i (some (.fz (.ins C vs)))) := (rfl)
theorem tks_nil : tks [] ρ = .ok [] ρ := (rfl)
def kTks2 (v : Pv) (vs : List Pv) (ρ : PEnv) : PO (List Pv) := .ok (v :: vs) ρ
theorem kTks2_eq {v : Pv} {vs : List Pv} {ρ : PEnv} : kTks2 v vs ρ = .ok (v :: vs) ρ := (rfl)
def kTks1 (rs : List R) (v : Pv) (ρ : PEnv) : PO (List Pv) := (tks rs ρ).bind (kTks2 v)
theorem kTks1_eq {rs : List R} {v : Pv} {ρ : PEnv} : kTks1 rs v ρ = (tks rs ρ).bind (kTks2 v) := (rfl)
theorem tks_cons {rs : List R} : tks (r :: rs) ρ = (tk r ρ).bind (kTks1 rs) := (rfl)
def mkP (o : Option P) (ρ : PEnv) : PO R := match o with | some p => .ok (.v p) ρ | none => .stuck
theorem mkP_some : mkP (some p) ρ = .ok (.v p) ρ := (rfl)
def mkV (o : Option Pv) (ρ : PEnv) : PO R := match o with | some v => .ok (fzr v) ρ | none => .stuck
theorem mkV_some : mkV (some v) ρ = .ok (.v (.fz v)) ρ := (rfl)
def mkB (o : Option Bool) (ρ : PEnv) : PO R := match o with | some v => .ok (fzr (.bl v)) ρ | none => .stuck
theorem mkB_some {b : Bool} : mkB (some b) ρ = .ok (.v (.fz (.bl b))) ρ := (rfl)
def mk2 {γ : Type} (f : Pv → Pv → Option γ) (m : Option γ → PEnv → PO R) (a b : Option Pv) (ρ : PEnv) : PO R := match a, b with | some x, some y => m (f x y) ρ | _, _ => .stuck
theorem mk2_some {γ : Type} {f : Pv → Pv → Option γ} {m : Option γ → PEnv → PO R} : mk2 f m (some x) (some y) ρ = m (f x y) ρ := (rfl)
def tr1 (o : Option Bool) (a b : Unit → PO R) : PO R := match o with | some true => a () | some false => b () | none => .stuck
theorem tr1_t {a b : Unit → PO R} : tr1 (some true) a b = a () := (rfl)
theorem tr1_f {a b : Unit → PO R} : tr1 (some false) a b = b () := (rfl)
theorem tr1_e {a c : Unit → PO R} {q : Prop} [Decidable q] : tr1 (some (decide q)) a c = if q then a () else c () := by by_cases h : q <;> simp [tr1, h]
theorem tr1_d {b : Bool} {a c : Unit → PO R} : tr1 (some b) a c = if b then a () else c () := by cases b <;> rfl
def mkT (o : Option Bool) (ρ : PEnv) : PO Bool := match o with | some b => .ok b ρ | none => .stuck
theorem mkT_some {b : Bool} : mkT (some b) ρ = .ok b ρ := (rfl)
theorem obind_some {γ δ : Type} {a : γ} {f : γ → Option δ} : (some a).bind f = f a := (rfl)
variable {Γ : PGam} {a b c : E}
theorem pE_var {i : Nat} : pE Γ (.var i) ρ = rvar i ρ[i]? ρ := (rfl)
theorem pE_glob {x : Str} : pE Γ (.glob x) ρ = mkV (Γ.glob x) ρ := (rfl)
theorem pE_non : pE Γ .non ρ = .ok (.v (.fz .non)) ρ := (rfl)
theorem pE_bl {d : Bool} : pE Γ (.bl d) ρ = .ok (.v (.fz (.bl d))) ρ := (rfl)
theorem pE_int {i : Int} : pE Γ (.int i) ρ = .ok (.v (.fz (.int i))) ρ := (rfl)
theorem pE_str {s : Str} : pE Γ (.str s) ρ = .ok (.v (.fz (.str s))) ρ := (rfl)
theorem pE_ty {s : String} : pE Γ (.ty s) ρ = .ok (.v (.fz (.ty s))) ρ := (rfl)
def kTup2  (vs : List Pv) (ρ : PEnv) : PO R := .ok (.v (.fz (.tup vs))) ρ
theorem kTup2_eq  {vs : List Pv} {ρ : PEnv} : kTup2  vs ρ = .ok (.v (.fz (.tup vs))) ρ := (rfl)
def kTup1  (rs : List R) (ρ : PEnv) : PO R := (tks rs ρ).bind kTup2
theorem kTup1_eq  {rs : List R} {ρ : PEnv} : kTup1  rs ρ = (tks rs ρ).bind kTup2 := (rfl)
theorem pE_tup {es : List E} : pE Γ (.tup es) ρ = (pEs Γ es ρ).bind kTup1 := (rfl)
def kLst2  (vs : List Pv) (ρ : PEnv) : PO R := .ok (.v (.ol vs)) ρ
theorem kLst2_eq  {vs : List Pv} {ρ : PEnv} : kLst2  vs ρ = .ok (.v (.ol vs)) ρ := (rfl)
def kLst1  (rs : List R) (ρ : PEnv) : PO R := (tks rs ρ).bind kLst2
theorem kLst1_eq  {rs : List R} {ρ : PEnv} : kLst1  rs ρ = (tks rs ρ).bind kLst2 := (rfl)
theorem pE_lst {es : List E} : pE Γ (.lst es) ρ = (pEs Γ es ρ).bind kLst1 := (rfl)
def mkD (o : Option (List (Pv × Pv))) (ρ : PEnv) : PO R := match o with | some kvs => .ok (.v (.od kvs)) ρ | none => .stuck
theorem mkD_some {kvs : List (Pv × Pv)} : mkD (some kvs) ρ = .ok (.v (.od kvs)) ρ := (rfl)
def kDct4 (vs : List Pv) (ks : List Pv) (ρ : PEnv) : PO R := mkD (pdputs [] (ks.zip vs)) ρ
theorem kDct4_eq {vs : List Pv} {ks : List Pv} {ρ : PEnv} : kDct4 vs ks ρ = mkD (pdputs [] (ks.zip vs)) ρ := (rfl)
def kDct3 (ks : List R) (vs : List Pv) (ρ : PEnv) : PO R := (tks ks ρ).bind (kDct4 vs)
theorem kDct3_eq {ks : List R} {vs : List Pv} {ρ : PEnv} : kDct3 ks vs ρ = (tks ks ρ).bind (kDct4 vs) := (rfl)
def kDct2 (ks : List R) (vs : List R) (ρ : PEnv) : PO R := (tks vs ρ).bind (kDct3 ks)
theorem kDct2_eq {ks : List R} {vs : List R} {ρ : PEnv} : kDct2 ks vs ρ = (tks vs ρ).bind (kDct3 ks) := (rfl)
def kDct1 (Γ : PGam) (vs : List E) (ks : List R) (ρ : PEnv) : PO R := (pEs Γ vs ρ).bind (kDct2 ks)
theorem kDct1_eq {Γ : PGam} {vs : List E} {ks : List R} {ρ : PEnv} : kDct1 Γ vs ks ρ = (pEs Γ vs ρ).bind (kDct2 ks) := (rfl)
theorem pE_dct {ks vs : List E} : pE Γ (.dct ks vs) ρ = (pEs Γ ks ρ).bind (kDct1 Γ vs) := (rfl)
def kBin2 (op : Operator) (r : R) (s : R) (ρ : PEnv) : PO R := mk2 (pbin op) mkP (pk ρ r) (pk ρ s) ρ
theorem kBin2_eq {op : Operator} {r : R} {s : R} {ρ : PEnv} : kBin2 op r s ρ = mk2 (pbin op) mkP (pk ρ r) (pk ρ s) ρ := (rfl)
def kBin1 (Γ : PGam) (op : Operator) (b : E) (r : R) (ρ : PEnv) : PO R := (pE Γ b ρ).bind (kBin2 op r)
theorem kBin1_eq {Γ : PGam} {op : Operator} {b : E} {r : R} {ρ : PEnv} : kBin1 Γ op b r ρ = (pE Γ b ρ).bind (kBin2 op r) := (rfl)
theorem pE_bin {op : Operator} : pE Γ (.bin op a b) ρ = (pE Γ a ρ).bind (kBin1 Γ op b) := (rfl)
def kCmp2 (op : CmpOp) (r : R) (s : R) (ρ : PEnv) : PO R := mk2 (pcmp op) mkB (pk ρ r) (pk ρ s) ρ
theorem kCmp2_eq {op : CmpOp} {r : R} {s : R} {ρ : PEnv} : kCmp2 op r s ρ = mk2 (pcmp op) mkB (pk ρ r) (pk ρ s) ρ := (rfl)
def kCmp1 (Γ : PGam) (op : CmpOp) (b : E) (r : R) (ρ : PEnv) : PO R := (pE Γ b ρ).bind (kCmp2 op r)
theorem kCmp1_eq {Γ : PGam} {op : CmpOp} {b : E} {r : R} {ρ : PEnv} : kCmp1 Γ op b r ρ = (pE Γ b ρ).bind (kCmp2 op r) := (rfl)
theorem pE_cmp {op : CmpOp} : pE Γ (.cmp op a b) ρ = (pE Γ a ρ).bind (kCmp1 Γ op b) := (rfl)
def kIdx2 (r : R) (s : R) (ρ : PEnv) : PO R := mk2 psub mkV (pk ρ r) (pk ρ s) ρ
theorem kIdx2_eq {r : R} {s : R} {ρ : PEnv} : kIdx2 r s ρ = mk2 psub mkV (pk ρ r) (pk ρ s) ρ := (rfl)
def kIdx1 (Γ : PGam) (b : E) (r : R) (ρ : PEnv) : PO R := (pE Γ b ρ).bind (kIdx2 r)
theorem kIdx1_eq {Γ : PGam} {b : E} {r : R} {ρ : PEnv} : kIdx1 Γ b r ρ = (pE Γ b ρ).bind (kIdx2 r) := (rfl)
theorem pE_idx : pE Γ (.idx a b) ρ = (pE Γ a ρ).bind (kIdx1 Γ b) := (rfl)
def tFalse (ρ : PEnv) (u : Unit) : PO R := .ok (.v (.fz (.bl false))) ρ
theorem tFalse_eq {ρ : PEnv} {u : Unit} : tFalse ρ u = .ok (.v (.fz (.bl false))) ρ := (rfl)
def chn (f : Pv → Pv → Option Bool) (t : Unit → PO R) (a b : Option Pv) (ρ : PEnv) : PO R := match a, b with | some x, some y => tr1 (f x y) t (tFalse ρ) | _, _ => .stuck
theorem chn_some {f : Pv → Pv → Option Bool} {t : Unit → PO R} : chn f t (some x) (some y) ρ = tr1 (f x y) t (tFalse ρ) := (rfl)
def kCh4 (o2 : CmpOp) (s : R) (t : R) (ρ : PEnv) : PO R := mk2 (pcmp o2) mkB (pk ρ s) (pk ρ t) ρ
theorem kCh4_eq {o2 : CmpOp} {s : R} {t : R} {ρ : PEnv} : kCh4 o2 s t ρ = mk2 (pcmp o2) mkB (pk ρ s) (pk ρ t) ρ := (rfl)
def kCh3 (Γ : PGam) (o2 : CmpOp) (c : E) (s : R) (ρ : PEnv) (u : Unit) : PO R := (pE Γ c ρ).bind (kCh4 o2 s)
theorem kCh3_eq {Γ : PGam} {o2 : CmpOp} {c : E} {s : R} {ρ : PEnv} {u : Unit} : kCh3 Γ o2 c s ρ u = (pE Γ c ρ).bind (kCh4 o2 s) := (rfl)
def kCh2 (Γ : PGam) (o1 : CmpOp) (o2 : CmpOp) (c : E) (r : R) (s : R) (ρ : PEnv) : PO R := chn (pcmp o1) (kCh3 Γ o2 c s ρ) (pk ρ r) (pk ρ s) ρ
theorem kCh2_eq {Γ : PGam} {o1 : CmpOp} {o2 : CmpOp} {c : E} {r : R} {s : R} {ρ : PEnv} : kCh2 Γ o1 o2 c r s ρ = chn (pcmp o1) (kCh3 Γ o2 c s ρ) (pk ρ r) (pk ρ s) ρ := (rfl)
def kCh1 (Γ : PGam) (o1 : CmpOp) (o2 : CmpOp) (b : E) (c : E) (r : R) (ρ : PEnv) : PO R := (pE Γ b ρ).bind (kCh2 Γ o1 o2 c r)
theorem kCh1_eq {Γ : PGam} {o1 : CmpOp} {o2 : CmpOp} {b : E} {c : E} {r : R} {ρ : PEnv} : kCh1 Γ o1 o2 b c r ρ = (pE Γ b ρ).bind (kCh2 Γ o1 o2 c r) := (rfl)
theorem pE_chain {o1 o2 : CmpOp} : pE Γ (.chain o1 o2 a b c) ρ = (pE Γ a ρ).bind (kCh1 Γ o1 o2 b c) := (rfl)
def mkI (o : Option Pv) (ρ : PEnv) : PO R := match o with | some (.int i) => .ok (fzr (.int (-i))) ρ | _ => .stuck
theorem mkI_some {i : Int} : mkI (some (.int i)) ρ = .ok (.v (.fz (.int (-i)))) ρ := (rfl)
def kNeg  (r : R) (ρ : PEnv) : PO R := mkI (pk ρ r) ρ
theorem kNeg_eq  {r : R} {ρ : PEnv} : kNeg  r ρ = mkI (pk ρ r) ρ := (rfl)
theorem pE_neg : pE Γ (.neg a) ρ = (pE Γ a ρ).bind kNeg := (rfl)
def notO (o : Option Bool) : Option Bool := o.map (!·)
theorem notO_some {d : Bool} : notO (some d) = some (!d) := (rfl)
def kNot  (r : R) (ρ : PEnv) : PO R := mkB (notO ((pk ρ r).bind ptruth)) ρ
theorem kNot_eq  {r : R} {ρ : PEnv} : kNot  r ρ = mkB (notO ((pk ρ r).bind ptruth)) ρ := (rfl)
theorem pE_not : pE Γ (.not a) ρ = (pE Γ a ρ).bind kNot := by
  show (pE Γ a ρ).bind _ = _
  congr 1
  funext r ρ
  unfold kNot
  cases (pk ρ r).bind ptruth <;> rfl
def tE (Γ : PGam) (a : E) (ρ : PEnv) (u : Unit) : PO R := pE Γ a ρ
theorem tE_eq {Γ : PGam} {a : E} {ρ : PEnv} {u : Unit} : tE Γ a ρ u = pE Γ a ρ := (rfl)
def tR (r : R) (ρ : PEnv) (u : Unit) : PO R := .ok r ρ
theorem tR_eq {r : R} {ρ : PEnv} {u : Unit} : tR r ρ u = .ok r ρ := (rfl)
def kAnd (Γ : PGam) (b : E) (r : R) (ρ : PEnv) : PO R := tr1 ((pk ρ r).bind ptruth) (tE Γ b ρ) (tR r ρ)
theorem kAnd_eq {Γ : PGam} {b : E} {r : R} {ρ : PEnv} : kAnd Γ b r ρ = tr1 ((pk ρ r).bind ptruth) (tE Γ b ρ) (tR r ρ) := (rfl)
theorem pE_and : pE Γ (.and a b) ρ = (pE Γ a ρ).bind (kAnd Γ b) := (rfl)
def kOr (Γ : PGam) (b : E) (r : R) (ρ : PEnv) : PO R := tr1 ((pk ρ r).bind ptruth) (tR r ρ) (tE Γ b ρ)
theorem kOr_eq {Γ : PGam} {b : E} {r : R} {ρ : PEnv} : kOr Γ b r ρ = tr1 ((pk ρ r).bind ptruth) (tR r ρ) (tE Γ b ρ) := (rfl)
theorem pE_or : pE Γ (.or a b) ρ = (pE Γ a ρ).bind (kOr Γ b) := by
  show (pE Γ a ρ).bind _ = _
  congr 1
  funext r ρ
  unfold kOr
  cases (pk ρ r).bind ptruth with
  | none => rfl
  | some d => cases d <;> rfl
def kIte (Γ : PGam) (a : E) (b : E) (r : R) (ρ : PEnv) : PO R := tr1 ((pk ρ r).bind ptruth) (tE Γ a ρ) (tE Γ b ρ)
theorem kIte_eq {Γ : PGam} {a : E} {b : E} {r : R} {ρ : PEnv} : kIte Γ a b r ρ = tr1 ((pk ρ r).bind ptruth) (tE Γ a ρ) (tE Γ b ρ) := (rfl)
theorem pE_ite : pE Γ (.ite c a b) ρ = (pE Γ c ρ).bind (kIte Γ a b) := (rfl)
def bslice (l h : Option Int) (o : Option Pv) : Option P := o.bind fun x => pslice x l h
theorem bslice_some {l h : Option Int} : bslice l h (some x) = pslice x l h := (rfl)
def kSl3 (r : R) (l : Option Int) (h : Option Int) (ρ : PEnv) : PO R := mkP (bslice l h (pk ρ r)) ρ
theorem kSl3_eq {r : R} {l : Option Int} {h : Option Int} {ρ : PEnv} : kSl3 r l h ρ = mkP (bslice l h (pk ρ r)) ρ := (rfl)
def kSl2 (Γ : PGam) (hi : E) (r : R) (l : Option Int) (ρ : PEnv) : PO R := (ppart hi.isNon (pE Γ hi ρ) ρ).bind (kSl3 r l)
theorem kSl2_eq {Γ : PGam} {hi : E} {r : R} {l : Option Int} {ρ : PEnv} : kSl2 Γ hi r l ρ = (ppart hi.isNon (pE Γ hi ρ) ρ).bind (kSl3 r l) := (rfl)
def kSl1 (Γ : PGam) (lo : E) (hi : E) (r : R) (ρ : PEnv) : PO R := (ppart lo.isNon (pE Γ lo ρ) ρ).bind (kSl2 Γ hi r)
theorem kSl1_eq {Γ : PGam} {lo : E} {hi : E} {r : R} {ρ : PEnv} : kSl1 Γ lo hi r ρ = (ppart lo.isNon (pE Γ lo ρ) ρ).bind (kSl2 Γ hi r) := (rfl)
theorem pE_sl {lo hi : E} : pE Γ (.sl a lo hi) ρ = (pE Γ a ρ).bind (kSl1 Γ lo hi) := (rfl)
def mkL (o : Option Pv) (ρ : PEnv) : PO (Option Int) := match o with | some (.int i) => .ok (some i) ρ | _ => .stuck
theorem mkL_some {i : Int} : mkL (some (.int i)) ρ = .ok (some i) ρ := (rfl)
def kPart  (r : R) (ρ : PEnv) : PO (Option Int) := mkL (pk ρ r) ρ
theorem kPart_eq  {r : R} {ρ : PEnv} : kPart  r ρ = mkL (pk ρ r) ρ := (rfl)
theorem ppart_t {r : PO R} : ppart true r ρ = .ok none ρ := (rfl)
theorem ppart_f {r : PO R} : ppart false r ρ = r.bind kPart := (rfl)
def kSlr  (r : R) (ρ : PEnv) : PO R := mkP ((pk ρ r).bind prevs) ρ
theorem kSlr_eq  {r : R} {ρ : PEnv} : kSlr  r ρ = mkP ((pk ρ r).bind prevs) ρ := (rfl)
theorem pE_slr : pE Γ (.slr a) ρ = (pE Γ a ρ).bind kSlr := (rfl)
def mkA (fld : Str → Str → Bool) (f : Str) (o : Option Pv) (ρ : PEnv) : PO R := match o with
  | some (.ins C fs) => if fld C f then mkV (fs.lookup f) ρ else .stuck
  | _ => .stuck
theorem mkA_ins {fld : Str → Str → Bool} {f C : Str} {fs : List (Str × Pv)} (h : fld C f = true) : mkA fld f (some (.ins C fs)) ρ = mkV (fs.lookup f) ρ := by show (if fld C f then _ else _) = _; rw [if_pos h]
def kAttr (Γ : PGam) (f : Str) (r : R) (ρ : PEnv) : PO R := mkA Γ.fld f (pk ρ r) ρ
theorem kAttr_eq {Γ : PGam} {f : Str} {r : R} {ρ : PEnv} : kAttr Γ f r ρ = mkA Γ.fld f (pk ρ r) ρ := (rfl)
theorem pE_attr {f : Str} : pE Γ (.attr a f) ρ = (pE Γ a ρ).bind (kAttr Γ f) := (rfl)
def kCall2 (Γ : PGam) (f : Str) (kns : List Str) (rs : List R) (ks : List R) (ρ : PEnv) : PO R := pcallR Γ f rs kns ks ρ
theorem kCall2_eq {Γ : PGam} {f : Str} {kns : List Str} {rs : List R} {ks : List R} {ρ : PEnv} : kCall2 Γ f kns rs ks ρ = pcallR Γ f rs kns ks ρ := (rfl)
def kCall1 (Γ : PGam) (f : Str) (kns : List Str) (kes : List E) (rs : List R) (ρ : PEnv) : PO R := (pEs Γ kes ρ).bind (kCall2 Γ f kns rs)
theorem kCall1_eq {Γ : PGam} {f : Str} {kns : List Str} {kes : List E} {rs : List R} {ρ : PEnv} : kCall1 Γ f kns kes rs ρ = (pEs Γ kes ρ).bind (kCall2 Γ f kns rs) := (rfl)
theorem pE_call {f : Str} {es kes : List E} {kns : List Str} : pE Γ (.call f es kns kes) ρ = (pEs Γ es ρ).bind (kCall1 Γ f kns kes) := (rfl)
def kMake2 (Γ : PGam) (f : Str) (kns : List Str) (rs : List R) (ks : List R) (ρ : PEnv) : PO R := pmakeR Γ f rs kns ks ρ
theorem kMake2_eq {Γ : PGam} {f : Str} {kns : List Str} {rs : List R} {ks : List R} {ρ : PEnv} : kMake2 Γ f kns rs ks ρ = pmakeR Γ f rs kns ks ρ := (rfl)
def kMake1 (Γ : PGam) (f : Str) (kns : List Str) (kes : List E) (rs : List R) (ρ : PEnv) : PO R := (pEs Γ kes ρ).bind (kMake2 Γ f kns rs)
theorem kMake1_eq {Γ : PGam} {f : Str} {kns : List Str} {kes : List E} {rs : List R} {ρ : PEnv} : kMake1 Γ f kns kes rs ρ = (pEs Γ kes ρ).bind (kMake2 Γ f kns rs) := (rfl)
theorem pE_make {f : Str} {es kes : List E} {kns : List Str} : pE Γ (.make f es kns kes) ρ = (pEs Γ es ρ).bind (kMake1 Γ f kns kes) := (rfl)
def mkM (C m : Str) (o : Option Pv) (t : Unit → PO R) : PO R := match o with
  | some (.ins D fs) => if D = C ∧ fs.lookup m = none then t () else .stuck
  | _ => .stuck
theorem mkM_ins {C m : Str} {fs : List (Str × Pv)} {t : Unit → PO R} (h : fs.lookup m = none) : mkM C m (some (.ins C fs)) t = t () := by show (if _ then _ else _) = _; rw [if_pos ⟨rfl, h⟩]
def kMeth3 (Γ : PGam) (C : Str) (m : Str) (kns : List Str) (r : R) (rs : List R) (ks : List R) (ρ : PEnv) : PO R := pcallR Γ (C ++ Str.ofString "." ++ m) (r :: rs) kns ks ρ
theorem kMeth3_eq {Γ : PGam} {C : Str} {m : Str} {kns : List Str} {r : R} {rs : List R} {ks : List R} {ρ : PEnv} : kMeth3 Γ C m kns r rs ks ρ = pcallR Γ (C ++ Str.ofString "." ++ m) (r :: rs) kns ks ρ := (rfl)
def kMeth2 (Γ : PGam) (C : Str) (m : Str) (kns : List Str) (kes : List E) (r : R) (rs : List R) (ρ : PEnv) : PO R := (pEs Γ kes ρ).bind (kMeth3 Γ C m kns r rs)
theorem kMeth2_eq {Γ : PGam} {C : Str} {m : Str} {kns : List Str} {kes : List E} {r : R} {rs : List R} {ρ : PEnv} : kMeth2 Γ C m kns kes r rs ρ = (pEs Γ kes ρ).bind (kMeth3 Γ C m kns r rs) := (rfl)
def tMeth (Γ : PGam) (C : Str) (m : Str) (es : List E) (kns : List Str) (kes : List E) (r : R) (ρ : PEnv) (u : Unit) : PO R := (pEs Γ es ρ).bind (kMeth2 Γ C m kns kes r)
theorem tMeth_eq {Γ : PGam} {C : Str} {m : Str} {es : List E} {kns : List Str} {kes : List E} {r : R} {ρ : PEnv} {u : Unit} : tMeth Γ C m es kns kes r ρ u = (pEs Γ es ρ).bind (kMeth2 Γ C m kns kes r) := (rfl)
def kMeth1 (Γ : PGam) (C : Str) (m : Str) (es : List E) (kns : List Str) (kes : List E) (r : R) (ρ : PEnv) : PO R := mkM C m (pk ρ r) (tMeth Γ C m es kns kes r ρ)
theorem kMeth1_eq {Γ : PGam} {C : Str} {m : Str} {es : List E} {kns : List Str} {kes : List E} {r : R} {ρ : PEnv} : kMeth1 Γ C m es kns kes r ρ = mkM C m (pk ρ r) (tMeth Γ C m es kns kes r ρ) := (rfl)
theorem pE_meth {C m : Str} {es kes : List E} {kns : List Str} : pE Γ (.meth C m a es kns kes) ρ = (pE Γ a ρ).bind (kMeth1 Γ C m es kns kes) := (rfl)
def kBc (f : BF) (rs : List R) (ρ : PEnv) : PO R := mkP ((pks ρ rs).bind (pbcall f)) ρ
theorem kBc_eq {f : BF} {rs : List R} {ρ : PEnv} : kBc f rs ρ = mkP ((pks ρ rs).bind (pbcall f)) ρ := (rfl)
theorem pE_bcall {f : BF} {es : List E} : pE Γ (.bcall f es) ρ = (pEs Γ es ρ).bind (kBc f) := (rfl)
def guardT (b : Bool) (t : Unit → PO R) : PO R := if b then t () else .stuck
theorem guardT_t {t : Unit → PO R} : guardT true t = t () := (rfl)
def kBm2 (m : BM) (r : R) (rs : List R) (ρ : PEnv) : PO R := pbmeth m r rs ρ
theorem kBm2_eq {m : BM} {r : R} {rs : List R} {ρ : PEnv} : kBm2 m r rs ρ = pbmeth m r rs ρ := (rfl)
def tBm (Γ : PGam) (m : BM) (es : List E) (r : R) (ρ : PEnv) (u : Unit) : PO R := (pEs Γ es ρ).bind (kBm2 m r)
theorem tBm_eq {Γ : PGam} {m : BM} {es : List E} {r : R} {ρ : PEnv} {u : Unit} : tBm Γ m es r ρ u = (pEs Γ es ρ).bind (kBm2 m r) := (rfl)
def kBm1 (Γ : PGam) (m : BM) (es : List E) (r : R) (ρ : PEnv) : PO R := guardT (precv m (pk ρ r)) (tBm Γ m es r ρ)
theorem kBm1_eq {Γ : PGam} {m : BM} {es : List E} {r : R} {ρ : PEnv} : kBm1 Γ m es r ρ = guardT (precv m (pk ρ r)) (tBm Γ m es r ρ) := (rfl)
theorem pE_bmeth {m : BM} {es : List E} : pE Γ (.bmeth m a es) ρ = (pE Γ a ρ).bind (kBm1 Γ m es) := (rfl)
def mkR (o : Option (List Pv)) (ρ : PEnv) : PO R := match o with | some l => if l.length ≤ 1000000 then .ok (fzr (.tup l)) ρ else .stuck | none => .stuck
def brng (o : Option (List Pv)) : Option (List Pv) := o.bind fun vs => if vs.length ≤ 2 then prangeOf vs else none
theorem brng_some {vs : List Pv} (h : vs.length ≤ 2) : brng (some vs) = prangeOf vs := if_pos h
def kRng  (rs : List R) (ρ : PEnv) : PO R := mkR (brng (pks ρ rs)) ρ
theorem kRng_eq  {rs : List R} {ρ : PEnv} : kRng  rs ρ = mkR (brng (pks ρ rs)) ρ := (rfl)
theorem pE_rng {es : List E} : pE Γ (.rng es) ρ = (pEs Γ es ρ).bind kRng := (rfl)
theorem mkR_some {l : List Pv} (h : l.length ≤ 1000000) : mkR (some l) ρ = .ok (.v (.fz (.tup l))) ρ := by show (if _ then _ else _) = _; rw [if_pos h]; rfl
/-- a comprehension over these items -/
def kcomp (Γ : PGam) (t : T) (own : List Nat) (cs : List E) (elt : E) (o : Option (List Pv)) (ρ : PEnv) : PO R := match o with
  | none => .stuck
  | some l => if l.length ≤ 1000000 then
        (pcompL (fun ρ => (pC Γ cs ρ).bind fun b ρ => if b then (pE Γ elt ρ).bind fun r ρ => (tk r ρ).bind fun v ρ => .ok (some v) ρ else .ok none ρ) own t l ρ).bind fun l ρ' => .ok (.v (.ol l)) (prst ρ ρ' own)
      else .stuck
def kComp2 (Γ : PGam) (k : IK) (t : T) (own : List Nat) (cs : List E) (elt : E) (vs : List Pv) (ρ : PEnv) : PO R := kcomp Γ t own cs elt (psrc k vs) ρ
theorem kComp2_eq {Γ : PGam} {k : IK} {t : T} {own : List Nat} {cs : List E} {elt : E} {vs : List Pv} {ρ : PEnv} : kComp2 Γ k t own cs elt vs ρ = kcomp Γ t own cs elt (psrc k vs) ρ := (rfl)
def kComp1 (Γ : PGam) (k : IK) (t : T) (own : List Nat) (cs : List E) (elt : E) (rs : List R) (ρ : PEnv) : PO R := (tks rs ρ).bind (kComp2 Γ k t own cs elt)
theorem kComp1_eq {Γ : PGam} {k : IK} {t : T} {own : List Nat} {cs : List E} {elt : E} {rs : List R} {ρ : PEnv} : kComp1 Γ k t own cs elt rs ρ = (tks rs ρ).bind (kComp2 Γ k t own cs elt) := (rfl)
theorem pE_comp {k : IK} {its cs : List E} {t : T} {own : List Nat} : pE Γ (.comp k its t own cs a) ρ = (pEs Γ its ρ).bind (kComp1 Γ k t own cs a) := (rfl)
def kdcomp (Γ : PGam) (t : T) (own : List Nat) (cs : List E) (ke ve : E) (o : Option (List Pv)) (ρ : PEnv) : PO R := match o with
  | none => .stuck
  | some l => if l.length ≤ 1000000 then
        (pdcompL (fun ρ => (pC Γ cs ρ).bind fun b ρ => if b then (pE Γ ke ρ).bind fun r ρ => (pE Γ ve ρ).bind fun s ρ => (tk s ρ).bind fun v ρ => (tk r ρ).bind fun k ρ => .ok (some (k, v)) ρ else .ok none ρ) own t l [] ρ).bind fun l ρ' => .ok (.v (.od l)) (prst ρ ρ' own)
      else .stuck
def kDcomp2 (Γ : PGam) (k : IK) (t : T) (own : List Nat) (cs : List E) (ke : E) (ve : E) (vs : List Pv) (ρ : PEnv) : PO R := kdcomp Γ t own cs ke ve (psrc k vs) ρ
theorem kDcomp2_eq {Γ : PGam} {k : IK} {t : T} {own : List Nat} {cs : List E} {ke : E} {ve : E} {vs : List Pv} {ρ : PEnv} : kDcomp2 Γ k t own cs ke ve vs ρ = kdcomp Γ t own cs ke ve (psrc k vs) ρ := (rfl)
def kDcomp1 (Γ : PGam) (k : IK) (t : T) (own : List Nat) (cs : List E) (ke : E) (ve : E) (rs : List R) (ρ : PEnv) : PO R := (tks rs ρ).bind (kDcomp2 Γ k t own cs ke ve)
theorem kDcomp1_eq {Γ : PGam} {k : IK} {t : T} {own : List Nat} {cs : List E} {ke : E} {ve : E} {rs : List R} {ρ : PEnv} : kDcomp1 Γ k t own cs ke ve rs ρ = (tks rs ρ).bind (kDcomp2 Γ k t own cs ke ve) := (rfl)
theorem pE_dcomp {k : IK} {its cs : List E} {t : T} {own : List Nat} : pE Γ (.dcomp k its t own cs a b) ρ = (pEs Γ its ρ).bind (kDcomp1 Γ k t own cs a b) := (rfl)
def kCons2 (r : R) (rs : List R) (ρ : PEnv) : PO (List R) := .ok (r :: rs) ρ
theorem kCons2_eq {r : R} {rs : List R} {ρ : PEnv} : kCons2 r rs ρ = .ok (r :: rs) ρ := (rfl)
def kCons1 (Γ : PGam) (es : List E) (r : R) (ρ : PEnv) : PO (List R) := (pEs Γ es ρ).bind (kCons2 r)
theorem kCons1_eq {Γ : PGam} {es : List E} {r : R} {ρ : PEnv} : kCons1 Γ es r ρ = (pEs Γ es ρ).bind (kCons2 r) := (rfl)
theorem pEs_nil : pEs Γ [] ρ = .ok [] ρ := (rfl)
theorem pEs_cons {es : List E} : pEs Γ (a :: es) ρ = (pE Γ a ρ).bind (kCons1 Γ es) := (rfl)
def tr2 (o : Option Bool) (a b : Unit → PO Bool) : PO Bool := match o with | some true => a () | some false => b () | none => .stuck
theorem tr2_t {a b : Unit → PO Bool} : tr2 (some true) a b = a () := (rfl)
theorem tr2_f {a b : Unit → PO Bool} : tr2 (some false) a b = b () := (rfl)
theorem tr2_e {a c : Unit → PO Bool} {q : Prop} [Decidable q] : tr2 (some (decide q)) a c = if q then a () else c () := by by_cases h : q <;> simp [tr2, h]
theorem tr2_d {b : Bool} {a c : Unit → PO Bool} : tr2 (some b) a c = if b then a () else c () := by cases b <;> rfl
def tC (Γ : PGam) (es : List E) (ρ : PEnv) (u : Unit) : PO Bool := pC Γ es ρ
theorem tC_eq {Γ : PGam} {es : List E} {ρ : PEnv} {u : Unit} : tC Γ es ρ u = pC Γ es ρ := (rfl)
def tCf (ρ : PEnv) (u : Unit) : PO Bool := .ok false ρ
theorem tCf_eq {ρ : PEnv} {u : Unit} : tCf ρ u = .ok false ρ := (rfl)
def kC1 (Γ : PGam) (es : List E) (r : R) (ρ : PEnv) : PO Bool := tr2 ((pk ρ r).bind ptruth) (tC Γ es ρ) (tCf ρ)
theorem kC1_eq {Γ : PGam} {es : List E} {r : R} {ρ : PEnv} : kC1 Γ es r ρ = tr2 ((pk ρ r).bind ptruth) (tC Γ es ρ) (tCf ρ) := (rfl)
theorem pC_nil : pC Γ [] ρ = .ok true ρ := (rfl)
theorem pC_cons {es : List E} : pC Γ (a :: es) ρ = (pE Γ a ρ).bind (kC1 Γ es) := (rfl)
/-! statements -/
def kSs (Γ : PGam) (ss : List S) (ρ : PEnv) : PS := pSs Γ ss ρ
theorem kSs_eq {Γ : PGam} {ss : List S} {ρ : PEnv} : kSs Γ ss ρ = pSs Γ ss ρ := (rfl)
theorem pSs_nil : pSs Γ [] ρ = .ok .nx ρ := (rfl)
theorem pSs_cons {s : S} {ss : List S} : pSs Γ (s :: ss) ρ = (pS Γ s ρ).seq (kSs Γ ss) := (rfl)
def mkN (o : Option PEnv) : PS := match o with | some ρ => .ok .nx ρ | none => .stuck
theorem mkN_some : mkN (some ρ) = .ok .nx ρ := (rfl)
def kPar2 (pin : Nat → Bool) (ts : List T) (ps : List P) (ρ : PEnv) : PS := mkN (pputPs pin ts ps ρ)
theorem kPar2_eq {pin : Nat → Bool} {ts : List T} {ps : List P} : kPar2 pin ts ps ρ = mkN (pputPs pin ts ps ρ) := (rfl)
def kPar1 (pin : Nat → Bool) (ts : List T) (rs : List R) (ρ : PEnv) : PS := (pres rs ρ).st (kPar2 pin ts)
theorem kPar1_eq {pin : Nat → Bool} {ts : List T} {rs : List R} : kPar1 pin ts rs ρ = (pres rs ρ).st (kPar2 pin ts) := (rfl)
theorem pS_par {ts : List T} {es : List E} (h : isNms ts = true) : pS Γ (.asg (.tp ts) (.tup es)) ρ = (pEs Γ es ρ).st (kPar1 Γ.pin ts) := by
  show (if isNms ts then _ else _) = _
  rw [if_pos h]; rfl
def kAsg (pin : Nat → Bool) (i : Nat) (v : Pv) (ρ : PEnv) : PS := mkN (pputP pin i (.fz v) ρ)
theorem kAsg_eq {pin : Nat → Bool} {i : Nat} : kAsg pin i v ρ = mkN (pputP pin i (.fz v) ρ) := (rfl)
def asgR (pin : Nat → Bool) (i : Nat) (r : R) (ρ : PEnv) : PS := match r with
  | .v p => mkN (pputP pin i p ρ)
  | .al j => if j = i then .ok .nx ρ else (tk (.al j) ρ).st (kAsg pin i)
theorem asgR_v {pin : Nat → Bool} {i : Nat} : asgR pin i (.v p) ρ = mkN (pputP pin i p ρ) := (rfl)
theorem asgR_al {pin : Nat → Bool} {i j : Nat} : asgR pin i (.al j) ρ = if j = i then .ok .nx ρ else (tk (.al j) ρ).st (kAsg pin i) := (rfl)
theorem pS_nm {i : Nat} : pS Γ (.asg (.nm i) a) ρ = (pE Γ a ρ).st (asgR Γ.pin i) := by
  show (pE Γ a ρ).st _ = _
  congr 1
def asgP (pin : Nat → Bool) (ts : List T) (o : Option Pv) (ρ : PEnv) : PS := match o with
  | some (.tup vs) => mkN (pasgTs pin ts vs ρ)
  | _ => .stuck
theorem asgP_tup {pin : Nat → Bool} {ts : List T} {vs : List Pv} : asgP pin ts (some (.tup vs)) ρ = mkN (pasgTs pin ts vs ρ) := (rfl)
def kAsgP (pin : Nat → Bool) (ts : List T) (r : R) (ρ : PEnv) : PS := asgP pin ts (pk ρ r) ρ
theorem kAsgP_eq {pin : Nat → Bool} {ts : List T} : kAsgP pin ts r ρ = asgP pin ts (pk ρ r) ρ := (rfl)
def notTup : E → Bool
  | .tup _ => false
  | _ => true
theorem pS_tp {ts : List T} (h : notTup a = true) : pS Γ (.asg (.tp ts) a) ρ = (pE Γ a ρ).st (kAsgP Γ.pin ts) := by
  unfold pS
  split
  · cases h
  · rfl
def bst (s : R) (v : Pv) (ρ : PEnv) (o : Option Pv) : Option PEnv := o.bind fun y => pstoreI s y v ρ
theorem bst_some : bst s v ρ (some y) = pstoreI s y v ρ := (rfl)
def kSet4 (s : R) (q : R) (v : Pv) (ρ : PEnv) : PS := mkN (bst s v ρ (pk ρ q))
theorem kSet4_eq {s : R} {q : R} {v : Pv} {ρ : PEnv} : kSet4 s q v ρ = mkN (bst s v ρ (pk ρ q)) := (rfl)
def kSet3 (r : R) (s : R) (q : R) (ρ : PEnv) : PS := (tk r ρ).st (kSet4 s q)
theorem kSet3_eq {r : R} {s : R} {q : R} {ρ : PEnv} : kSet3 r s q ρ = (tk r ρ).st (kSet4 s q) := (rfl)
def kSet2 (Γ : PGam) (i : E) (r : R) (s : R) (ρ : PEnv) : PS := (pE Γ i ρ).st (kSet3 r s)
theorem kSet2_eq {Γ : PGam} {i : E} {r : R} {s : R} {ρ : PEnv} : kSet2 Γ i r s ρ = (pE Γ i ρ).st (kSet3 r s) := (rfl)
def kSet1 (Γ : PGam) (o : E) (i : E) (r : R) (ρ : PEnv) : PS := (pE Γ o ρ).st (kSet2 Γ i r)
theorem kSet1_eq {Γ : PGam} {o : E} {i : E} {r : R} {ρ : PEnv} : kSet1 Γ o i r ρ = (pE Γ o ρ).st (kSet2 Γ i r) := (rfl)
theorem pS_setI {o i : E} : pS Γ (.setIdx o i a) ρ = (pE Γ a ρ).st (kSet1 Γ o i) := (rfl)
def kSA3 (Γ : PGam) (f : Str) (s : R) (v : Pv) (ρ : PEnv) : PS := mkN (pstoreA Γ.fld s f v ρ)
theorem kSA3_eq {Γ : PGam} {f : Str} {s : R} {v : Pv} {ρ : PEnv} : kSA3 Γ f s v ρ = mkN (pstoreA Γ.fld s f v ρ) := (rfl)
def kSA2 (Γ : PGam) (f : Str) (r : R) (s : R) (ρ : PEnv) : PS := (tk r ρ).st (kSA3 Γ f s)
theorem kSA2_eq {Γ : PGam} {f : Str} {r : R} {s : R} {ρ : PEnv} : kSA2 Γ f r s ρ = (tk r ρ).st (kSA3 Γ f s) := (rfl)
def kSA1 (Γ : PGam) (o : E) (f : Str) (r : R) (ρ : PEnv) : PS := (pE Γ o ρ).st (kSA2 Γ f r)
theorem kSA1_eq {Γ : PGam} {o : E} {f : Str} {r : R} {ρ : PEnv} : kSA1 Γ o f r ρ = (pE Γ o ρ).st (kSA2 Γ f r) := (rfl)
theorem pS_setA {o : E} {f : Str} : pS Γ (.setAttr o f a) ρ = (pE Γ a ρ).st (kSA1 Γ o f) := (rfl)
def augR (i : Nat) (pin : Nat → Bool) (x : Int) (o : Option Pv) (ρ : PEnv) : PS := match o with
  | some (.int b) => if i < ρ.length && !pin i then .ok .nx (ρ.set i (some (.fz (.int (x + b))))) else .stuck
  | _ => .stuck
theorem augR_int {i : Nat} {pin : Nat → Bool} {x b : Int} (h1 : i < ρ.length) (h2 : pin i = false) : augR i pin x (some (.int b)) ρ = .ok .nx (ρ.set i (some (.fz (.int (x + b))))) := by show (if _ then _ else _) = _; rw [if_pos (by rw [decide_eq_true h1, h2]; rfl)]
def kAug (pin : Nat → Bool) (i : Nat) (x : Int) (r : R) (ρ : PEnv) : PS := augR i pin x (pk ρ r) ρ
theorem kAug_eq {pin : Nat → Bool} {i : Nat} {x : Int} : kAug pin i x r ρ = augR i pin x (pk ρ r) ρ := (rfl)
def aug1 (Γ : PGam) (i : Nat) (e : E) (o : Option (Option P)) (ρ : PEnv) : PS := match o with
  | some (some (.fz (.int x))) => (pE Γ e ρ).st (kAug Γ.pin i x)
  | _ => .stuck
theorem aug1_int {i : Nat} {x : Int} : aug1 Γ i a (some (some (.fz (.int x)))) ρ = (pE Γ a ρ).st (kAug Γ.pin i x) := (rfl)
theorem pS_aug {i : Nat} : pS Γ (.aug i a) ρ = aug1 Γ i a ρ[i]? ρ := (rfl)
def kExpr  (r : R) (ρ : PEnv) : PS := .ok .nx ρ
theorem kExpr_eq  {r : R} {ρ : PEnv} : kExpr  r ρ = .ok .nx ρ := (rfl)
theorem pS_expr : pS Γ (.expr a) ρ = (pE Γ a ρ).st kExpr := (rfl)
def kRet  (r : R) (ρ : PEnv) : PS := .ok (.rt r) ρ
theorem kRet_eq  {r : R} {ρ : PEnv} : kRet  r ρ = .ok (.rt r) ρ := (rfl)
theorem pS_ret : pS Γ (.ret a) ρ = (pE Γ a ρ).st kRet := (rfl)
def iteS (b : Bool) (f g : Unit → PS) : PS := if b then f () else g ()
theorem iteS_t {f g : Unit → PS} : iteS true f g = f () := (rfl)
theorem iteS_f {f g : Unit → PS} : iteS false f g = g () := (rfl)
theorem iteS_e {f g : Unit → PS} {q : Prop} [Decidable q] : iteS (decide q) f g = if q then f () else g () := by by_cases h : q <;> simp [iteS, h]
theorem iteS_d {b : Bool} {f g : Unit → PS} : iteS b f g = if b then f () else g () := (rfl)
def tS (Γ : PGam) (ss : List S) (ρ : PEnv) (u : Unit) : PS := pSs Γ ss ρ
theorem tS_eq {Γ : PGam} {ss : List S} {ρ : PEnv} {u : Unit} : tS Γ ss ρ u = pSs Γ ss ρ := (rfl)
def kIf (Γ : PGam) (s1 : List S) (s2 : List S) (k : Bool) (ρ : PEnv) : PS := iteS k (tS Γ s1 ρ) (tS Γ s2 ρ)
theorem kIf_eq {Γ : PGam} {s1 : List S} {s2 : List S} {k : Bool} {ρ : PEnv} : kIf Γ s1 s2 k ρ = iteS k (tS Γ s1 ρ) (tS Γ s2 ρ) := (rfl)
theorem pS_ite {s1 s2 : List S} : pS Γ (.ite a s1 s2) ρ = (pT Γ a ρ).st (kIf Γ s1 s2) := (rfl)
def kT  (r : R) (ρ : PEnv) : PO Bool := mkT ((pk ρ r).bind ptruth) ρ
theorem kT_eq  {r : R} {ρ : PEnv} : kT  r ρ = mkT ((pk ρ r).bind ptruth) ρ := (rfl)
theorem pT_eq : pT Γ a ρ = (pE Γ a ρ).bind kT := (rfl)
def kfor (Γ : PGam) (t : T) (body : List S) (o : Option (List Pv)) (ρ : PEnv) : PS := match o with
  | none => .stuck
  | some l => pforL (fun ρ => pSs Γ body ρ) Γ.pin t ρ l ρ
def kFor2 (Γ : PGam) (k : IK) (t : T) (body : List S) (vs : List Pv) (ρ : PEnv) : PS := kfor Γ t body (psrc k vs) ρ
theorem kFor2_eq {Γ : PGam} {k : IK} {t : T} {body : List S} {vs : List Pv} {ρ : PEnv} : kFor2 Γ k t body vs ρ = kfor Γ t body (psrc k vs) ρ := (rfl)
def kFor1 (Γ : PGam) (k : IK) (t : T) (body : List S) (rs : List R) (ρ : PEnv) : PS := (tks rs ρ).st (kFor2 Γ k t body)
theorem kFor1_eq {Γ : PGam} {k : IK} {t : T} {body : List S} {rs : List R} {ρ : PEnv} : kFor1 Γ k t body rs ρ = (tks rs ρ).st (kFor2 Γ k t body) := (rfl)
theorem pS_for {k : IK} {its : List E} {t : T} {body : List S} : pS Γ (.for k its t body) ρ = (pEs Γ its ρ).st (kFor1 Γ k t body) := (rfl)
def kwhile (Γ : PGam) (c : E) (body : List S) (ρ : PEnv) : PS := pwhileL (fun ρ => pT Γ c ρ) (fun ρ => pSs Γ body ρ) ρ Γ.fuel ρ
theorem pS_while {body : List S} : pS Γ (.while c body) ρ = kwhile Γ c body ρ := (rfl)
theorem pS_brk : pS Γ .brk ρ = .ok .bk ρ := (rfl)
theorem pS_cnt : pS Γ .cnt ρ = .ok .ct ρ := (rfl)
theorem pS_pass : pS Γ .pass ρ = .ok .nx ρ := (rfl)
/-! calls -/
def mkC (l : List (P × Option Nat)) (ρ : PEnv) (o : Option (P × List (Option P))) : PO R := match o with
  | some (p, fs) => .ok (.v p) (giveB l fs ρ)
  | none => .stuck
theorem mkC_some {l : List (P × Option Nat)} {fs : List (Option P)} : mkC l ρ (some (p, fs)) = .ok (.v p) (giveB l fs ρ) := (rfl)
def fsts (l : List (P × Option Nat)) : List P := l.map (·.1)
theorem fsts_nil : fsts [] = [] := (rfl)
theorem fsts_cons {o : Option Nat} {l : List (P × Option Nat)} : fsts ((p, o) :: l) = p :: fsts l := (rfl)
def kCall4 (Γ : PGam) (f : Str) (kns : List Str) (ws : List Pv) (l : List (P × Option Nat)) (ρ : PEnv) : PO R := mkC l ρ (Γ.call f (fsts l) (kns.zip ws))
theorem kCall4_eq {f : Str} {kns : List Str} {ws : List Pv} {l : List (P × Option Nat)} : kCall4 Γ f kns ws l ρ = mkC l ρ (Γ.call f (fsts l) (kns.zip ws)) := (rfl)
def kCall3 (Γ : PGam) (f : Str) (rs : List R) (kns : List Str) (ws : List Pv) (ρ : PEnv) : PO R := (lendA rs (Γ.lend f) ρ).bind (kCall4 Γ f kns ws)
theorem kCall3_eq {Γ : PGam} {f : Str} {rs : List R} {kns : List Str} {ws : List Pv} {ρ : PEnv} : kCall3 Γ f rs kns ws ρ = (lendA rs (Γ.lend f) ρ).bind (kCall4 Γ f kns ws) := (rfl)
theorem pcallR_eq {f : Str} {rs ks : List R} {kns : List Str} : pcallR Γ f rs kns ks ρ = (tks ks ρ).bind (kCall3 Γ f rs kns) := (rfl)
def kMk4 (Γ : PGam) (f : Str) (kns : List Str) (ws : List Pv) (vs : List Pv) (ρ : PEnv) : PO R := mkP (Γ.make f (vs.map .fz) (kns.zip ws)) ρ
theorem kMk4_eq {f : Str} {kns : List Str} {ws vs : List Pv} : kMk4 Γ f kns ws vs ρ = mkP (Γ.make f (vs.map .fz) (kns.zip ws)) ρ := (rfl)
def kMk3 (Γ : PGam) (f : Str) (rs : List R) (kns : List Str) (ws : List Pv) (ρ : PEnv) : PO R := (tks rs ρ).bind (kMk4 Γ f kns ws)
theorem kMk3_eq {Γ : PGam} {f : Str} {rs : List R} {kns : List Str} {ws : List Pv} {ρ : PEnv} : kMk3 Γ f rs kns ws ρ = (tks rs ρ).bind (kMk4 Γ f kns ws) := (rfl)
theorem pmakeR_eq {f : Str} {rs ks : List R} {kns : List Str} : pmakeR Γ f rs kns ks ρ = (tks ks ρ).bind (kMk3 Γ f rs kns) := by
  show (tks ks ρ).bind _ = _
  congr 1
def kL2 (p : P) (o : Option Nat) (l : List (P × Option Nat)) (ρ : PEnv) : PO (List (P × Option Nat)) := .ok ((p, o) :: l) ρ
theorem kL2_eq {o : Option Nat} {l : List (P × Option Nat)} : kL2 p o l ρ = .ok ((p, o) :: l) ρ := (rfl)
def kL1 (rs : List R) (bs : List Bool) (v : Pv) (ρ : PEnv) : PO (List (P × Option Nat)) := (lendA rs bs ρ).bind (kL2 (.fz v) none)
theorem kL1_eq {rs : List R} {bs : List Bool} {v : Pv} {ρ : PEnv} : kL1 rs bs v ρ = (lendA rs bs ρ).bind (kL2 (.fz v) none) := (rfl)
theorem lendA_nil {bs : List Bool} : lendA [] bs ρ = .ok [] ρ := (rfl)
theorem lendA_e {rs : List R} : lendA (r :: rs) [] ρ = (tk r ρ).bind (kL1 rs []) := (rfl)
theorem lendA_f {rs : List R} {bs : List Bool} : lendA (r :: rs) (false :: bs) ρ = (tk r ρ).bind (kL1 rs bs) := (rfl)
theorem lendA_tv {rs : List R} {bs : List Bool} : lendA (.v p :: rs) (true :: bs) ρ = (lendA rs bs ρ).bind (kL2 p none) := (rfl)
def lend2 (i : Nat) (rs : List R) (bs : List Bool) (o : Option (Option P)) (ρ : PEnv) : PO (List (P × Option Nat)) := match o with
        | some (some p) => if p.isF then (lendA rs bs ρ).bind (kL2 p none)
          else (lendA rs bs (ρ.set i none)).bind (kL2 p (some i))
        | _ => .stuck
theorem lendA_ta {rs : List R} {bs : List Bool} {i : Nat} : lendA (.al i :: rs) (true :: bs) ρ = lend2 i rs bs ρ[i]? ρ := (rfl)
theorem lend2_fz {rs : List R} {bs : List Bool} {i : Nat} : lend2 i rs bs (some (some (.fz v))) ρ = (lendA rs bs ρ).bind (kL2 (.fz v) none) := (rfl)
theorem lend2_ol {rs : List R} {bs : List Bool} {i : Nat} {vs : List Pv} : lend2 i rs bs (some (some (.ol vs))) ρ = (lendA rs bs (ρ.set i none)).bind (kL2 (.ol vs) (some i)) := (rfl)
theorem lend2_od {rs : List R} {bs : List Bool} {i : Nat} {vs : List (Pv × Pv)} : lend2 i rs bs (some (some (.od vs))) ρ = (lendA rs bs (ρ.set i none)).bind (kL2 (.od vs) (some i)) := (rfl)
theorem lend2_oi {rs : List R} {bs : List Bool} {i : Nat} {C : Str} {vs : List (Str × Pv)} : lend2 i rs bs (some (some (.oi C vs))) ρ = (lendA rs bs (ρ.set i none)).bind (kL2 (.oi C vs) (some i)) := (rfl)
theorem giveB_nil {fs : List (Option P)} : giveB [] fs ρ = ρ := by cases fs <;> rfl
theorem giveB_n {l : List (P × Option Nat)} {o : Option P} {fs : List (Option P)} : giveB ((p, none) :: l) (o :: fs) ρ = giveB l fs ρ := by cases o <;> rfl
theorem giveB_s {l : List (P × Option Nat)} {i : Nat} {fs : List (Option P)} : giveB ((p, some i) :: l) (some q :: fs) ρ = giveB l fs (ρ.set i (some q)) := (rfl)
theorem giveB_o {l : List (P × Option Nat)} {i : Nat} {fs : List (Option P)} : giveB ((p, some i) :: l) (none :: fs) ρ = giveB l fs ρ := (rfl)
/-! methods -/
def mAppend (i : Nat) (o : Option (Option P)) (xs : List Pv) (ρ : PEnv) : PO R := match o, xs with
      | some (some (.ol vs)), [v] => if vs.length < 1000000 then .ok (fzr .non) (ρ.set i (some (.ol (vs ++ [v])))) else .stuck
      | _, _ => .stuck
def kApp (i : Nat) (xs : List Pv) (ρ : PEnv) : PO R := mAppend i ρ[i]? xs ρ
theorem kApp_eq {i : Nat} {xs : List Pv} {ρ : PEnv} : kApp i xs ρ = mAppend i ρ[i]? xs ρ := (rfl)
theorem bm_append {i : Nat} {rs : List R} : pbmeth .append (.al i) rs ρ = (tks rs ρ).bind (kApp i) := (rfl)
theorem mAppend_ol {i : Nat} {vs : List Pv} (h : vs.length < 1000000) : mAppend i (some (some (.ol vs))) [v] ρ = .ok (.v (.fz .non)) (ρ.set i (some (.ol (vs ++ [v])))) := by show (if _ then _ else _) = _; rw [if_pos h]; rfl
def mInsert (i : Nat) (o : Option (Option P)) (xs : List Pv) (ρ : PEnv) : PO R := match o, xs with
      | some (some (.ol vs)), [.int j, v] => if j = 0 ∧ vs.length < 1000000 then .ok (fzr .non) (ρ.set i (some (.ol (v :: vs)))) else .stuck
      | _, _ => .stuck
def kIns (i : Nat) (xs : List Pv) (ρ : PEnv) : PO R := mInsert i ρ[i]? xs ρ
theorem kIns_eq {i : Nat} {xs : List Pv} {ρ : PEnv} : kIns i xs ρ = mInsert i ρ[i]? xs ρ := (rfl)
theorem bm_insert {i : Nat} {rs : List R} : pbmeth .insert (.al i) rs ρ = (tks rs ρ).bind (kIns i) := (rfl)
theorem mInsert_ol {i : Nat} {vs : List Pv} (h : vs.length < 1000000) : mInsert i (some (some (.ol vs))) [.int 0, v] ρ = .ok (.v (.fz .non)) (ρ.set i (some (.ol (v :: vs)))) := by show (if _ then _ else _) = _; rw [if_pos ⟨rfl, h⟩]; rfl
def mExt (i : Nat) (o : Option (Option P)) (ws : List Pv) (ρ : PEnv) : PO R := match o with
        | some (some (.ol vs)) => if vs.length + ws.length ≤ 1000000 then .ok (fzr .non) (ρ.set i (some (.ol (vs ++ ws)))) else .stuck
        | _ => .stuck
def mExt0 (i : Nat) (o : Option (List Pv)) (ρ : PEnv) : PO R := match o with
  | some [.lst ws] => mExt i ρ[i]? ws ρ
  | some [.tup ws] => mExt i ρ[i]? ws ρ
  | _ => .stuck
theorem bm_extend {i : Nat} {rs : List R} : pbmeth .extend (.al i) rs ρ = mExt0 i (pks ρ rs) ρ := (rfl)
theorem mExt0_l {i : Nat} {ws : List Pv} : mExt0 i (some [.lst ws]) ρ = mExt i ρ[i]? ws ρ := (rfl)
theorem mExt0_t {i : Nat} {ws : List Pv} : mExt0 i (some [.tup ws]) ρ = mExt i ρ[i]? ws ρ := (rfl)
theorem mExt_ol {i : Nat} {vs ws : List Pv} (h : vs.length + ws.length ≤ 1000000) : mExt i (some (some (.ol vs))) ws ρ = .ok (.v (.fz .non)) (ρ.set i (some (.ol (vs ++ ws)))) := by show (if _ then _ else _) = _; rw [if_pos h]; rfl
def mPop (i : Nat) (o : Option (Option P)) (ρ : PEnv) : PO R := match o with
      | some (some (.ol vs)) => (match vs[vs.length - 1]? with | some v => .ok (fzr v) (ρ.set i (some (.ol vs.dropLast))) | none => .stuck)
      | _ => .stuck
def mPop0 (i : Nat) (xs : Option (List Pv)) (o : Option (Option P)) (ρ : PEnv) : PO R := match xs, o with
    | some xs, some (some (.ol vs)) => (match xs with
        | [] => match vs[vs.length - 1]? with | some v => .ok (fzr v) (ρ.set i (some (.ol vs.dropLast))) | none => .stuck
        | [.int j] => (match ixOf j vs.length with
          | some k => match vs[k]? with | some v => .ok (fzr v) (ρ.set i (some (.ol (vs.eraseIdx k)))) | none => .stuck
          | none => .stuck)
        | _ => .stuck)
    | _, _ => .stuck
theorem bm_pop {i : Nat} {rs : List R} : pbmeth .pop (.al i) rs ρ = mPop0 i (pks ρ rs) ρ[i]? ρ := by
  show (match pks ρ rs, R.al i with | some xs, .al i => _ | _, _ => _) = _
  cases pks ρ rs with
  | none => rfl
  | some xs =>
    dsimp only
    cases ρ[i]? with
    | none => rfl
    | some o => cases o with
      | none => rfl
      | some p => cases p <;> rfl
theorem mPop_last {i : Nat} {vs : List Pv} : mPop0 i (some []) (some (some (.ol (vs ++ [v])))) ρ = .ok (.v (.fz v)) (ρ.set i (some (.ol vs))) := by simp [mPop0, fzr]
def mGet (d : Option Pv) (xs : List Pv) (ρ : PEnv) : PO R := match d, xs with
    | some (.dct kvs), [k, d] => if pfits kvs k then .ok (fzr ((pdget kvs k).getD d)) ρ else .stuck
    | _, _ => .stuck
def kGet (r : R) (xs : List Pv) (ρ : PEnv) : PO R := mGet (pkF ρ r) xs ρ
theorem kGet_eq {r : R} {xs : List Pv} {ρ : PEnv} : kGet r xs ρ = mGet (pkF ρ r) xs ρ := (rfl)
theorem bm_get {rs : List R} : pbmeth .get r rs ρ = (tks rs ρ).bind (kGet r) := (rfl)
theorem mGet_d {kvs : List (Pv × Pv)} (h : pfits kvs x = true) : mGet (some (.dct kvs)) [x, y] ρ = .ok (.v (.fz ((pdget kvs x).getD y))) ρ := by show (if _ then _ else _) = _; rw [if_pos h]; rfl
def mSetd (i : Nat) (o : Option (Option P)) (xs : List Pv) (ρ : PEnv) : PO R := match o, xs with
      | some (some (.od kvs)), [k, d] => if pfits kvs k && decide (kvs.length < 1000000) then (match pdget kvs k with
        | some v => .ok (fzr v) ρ
        | none => .ok (fzr d) (ρ.set i (some (.od (pdput kvs k d))))) else .stuck
      | _, _ => .stuck
def kSetd (i : Nat) (xs : List Pv) (ρ : PEnv) : PO R := mSetd i ρ[i]? xs ρ
theorem kSetd_eq {i : Nat} {xs : List Pv} {ρ : PEnv} : kSetd i xs ρ = mSetd i ρ[i]? xs ρ := (rfl)
theorem bm_setd {i : Nat} {rs : List R} : pbmeth .setdefault (.al i) rs ρ = (tks rs ρ).bind (kSetd i) := (rfl)
def mCount (o : Option Pv) (xs : Option (List Pv)) (ρ : PEnv) : PO R := match o, xs with
    | some x, some [.int i] => (match plstOf x with
      | some vs => match pints vs with | some is => .ok (fzr (.int (is.count i))) ρ | none => .stuck
      | none => .stuck)
    | _, _ => .stuck
theorem bm_count {rs : List R} : pbmeth .count r rs ρ = mCount (pk ρ r) (pks ρ rs) ρ := (rfl)
theorem isF_fz : (P.fz v).isF = true := (rfl)
theorem isF_ol {vs : List Pv} : (P.ol vs).isF = false := (rfl)
theorem isF_od {vs : List (Pv × Pv)} : (P.od vs).isF = false := (rfl)
theorem isF_oi {C : Str} {vs : List (Str × Pv)} : (P.oi C vs).isF = false := (rfl)
/-! what comes back -/
theorem ret_nx {pin : Nat → Bool} {n : Nat} : pretOf pin n (.ok .nx ρ) = some (.fz .non, ρ.take n) := (rfl)
theorem ret_v {pin : Nat → Bool} {n : Nat} : pretOf pin n (.ok (.rt (.v p)) ρ) = some (p, ρ.take n) := (rfl)
def ret2 (pin : Nat → Bool) (n i : Nat) (o : Option (Option P)) (ρ : PEnv) : Option (P × List (Option P)) := match o with
      | some (some p) => if p.isF then some (p, ρ.take n) else if pin i then some (.fz p.view, (ρ.set i (some (.fz p.view))).take n) else some (p, (ρ.set i none).take n)
      | _ => none
theorem ret_al {pin : Nat → Bool} {n i : Nat} : pretOf pin n (.ok (.rt (.al i)) ρ) = ret2 pin n i ρ[i]? ρ := (rfl)
theorem ret2_fz {pin : Nat → Bool} {n i : Nat} : ret2 pin n i (some (some (.fz v))) ρ = some (.fz v, ρ.take n) := (rfl)
theorem ret2_o {pin : Nat → Bool} {n i : Nat} (h : p.isF = false) (hp : pin i = false) : ret2 pin n i (some (some p)) ρ = some (p, (ρ.set i none).take n) := by
  show (if _ then _ else _) = _
  rw [h, hp]; rfl
theorem ret2_p {pin : Nat → Bool} {n i : Nat} (h : p.isF = false) (hp : pin i = true) : ret2 pin n i (some (some p)) ρ = some (.fz p.view, (ρ.set i (some (.fz p.view))).take n) := by
  show (if _ then _ else _) = _
  rw [h, hp]; rfl
theorem ret_ite {pin : Nat → Bool} {n : Nat} {c : Prop} [Decidable c] {a b : PS} : pretOf pin n (if c then a else b) = if c then pretOf pin n a else pretOf pin n b := by split <;> rfl
def finL (bs : List Bool) (q : P × List (Option P)) : P × List (Option P) := (q.1, maskL bs q.2)
theorem finL_eq {bs : List Bool} {l : List (Option P)} : finL bs (p, l) = (p, maskL bs l) := (rfl)
theorem omap_some {γ δ : Type} {a : γ} {f : γ → δ} : (some a).map f = some (f a) := (rfl)
theorem omap_ite {γ δ : Type} {c : Prop} [Decidable c] {a b : Option γ} {f : γ → δ} : (if c then a else b).map f = if c then a.map f else b.map f := by split <;> rfl
theorem run_eq {fd : FD} {us : List P} : prunB Γ fd us = pretOf Γ.pin fd.ps.length (pSs Γ fd.body (us.map some ++ List.replicate (fd.n - us.length) none)) := (rfl)
theorem pgam_call {Pr : Prg} {L : Str → List Bool} {f : Str} {k : Nat} : (Pn.pgam Pr L f k).call = pcallAt Pr L k := (rfl)
theorem mask_nil {bs : List Bool} : maskL bs [] = [] := by cases bs <;> rfl
theorem mask_e {o : Option P} {l : List (Option P)} : maskL [] (o :: l) = none :: maskL [] l := (rfl)
theorem mask_t {o : Option P} {l : List (Option P)} {bs : List Bool} : maskL (true :: bs) (o :: l) = o :: maskL bs l := (rfl)
theorem mask_f {o : Option P} {l : List (Option P)} {bs : List Bool} : maskL (false :: bs) (o :: l) = none :: maskL bs l := (rfl)
def stI2 (j : Nat) (i v : Pv) (o : Option (Option P)) (ρ : PEnv) : Option PEnv := match o with
    | some (some (.ol vs)) => (match i with | .int x => (match ixOf x vs.length with | some k => some (ρ.set j (some (.ol (vs.set k v)))) | none => none) | _ => none)
    | some (some (.od kvs)) => if pfits kvs i && decide (kvs.length < 1000000) then some (ρ.set j (some (.od (pdput kvs i v)))) else none
    | _ => none
theorem stI_al {j : Nat} {i : Pv} : pstoreI (.al j) i v ρ = stI2 j i v ρ[j]? ρ := (rfl)
theorem stI_od {j : Nat} {i : Pv} {kvs : List (Pv × Pv)} (h : pfits kvs i = true) (hl : kvs.length < 1000000) : stI2 j i v (some (some (.od kvs))) ρ = some (ρ.set j (some (.od (pdput kvs i v)))) := by
  show (if _ then _ else _) = _
  rw [if_pos (by rw [h, decide_eq_true hl]; rfl)]
theorem stI_ol {j : Nat} {x : Int} {n : Nat} {vs : List Pv} (h : ixOf x vs.length = some n) : stI2 j (.int x) v (some (some (.ol vs))) ρ = some (ρ.set j (some (.ol (vs.set n v)))) := by
  show (match ixOf x vs.length with | some k => _ | none => _) = _
  rw [h]
def stA2 (fld : Str → Str → Bool) (j : Nat) (f : Str) (v : Pv) (o : Option (Option P)) (ρ : PEnv) : Option PEnv := match o with
    | some (some (.oi C fs)) => if fld C f && decide (fs.length < 1000) then some (ρ.set j (some (.oi C (pputFd f v fs)))) else none
    | _ => none
theorem stA_al {fld : Str → Str → Bool} {j : Nat} {f : Str} : pstoreA fld (.al j) f v ρ = stA2 fld j f v ρ[j]? ρ := (rfl)
theorem stA_oi {fld : Str → Str → Bool} {j : Nat} {C f : Str} {fs : List (Str × Pv)} (h : fld C f = true) (hl : fs.length < 1000) : stA2 fld j f v (some (some (.oi C fs))) ρ = some (ρ.set j (some (.oi C (pputFd f v fs)))) := by
  show (if _ then _ else _) = _
  rw [if_pos (by rw [h, decide_eq_true hl]; rfl)]
theorem pputP_eq {pin : Nat → Bool} {i : Nat} (h1 : i < ρ.length) (h2 : pin i = false) : pputP pin i p ρ = some (ρ.set i (some p)) := by
  unfold pputP; rw [if_pos (by rw [decide_eq_true h1, h2]; rfl)]
theorem pputPs_nil {pin : Nat → Bool} : pputPs pin [] [] ρ = some ρ := (rfl)
def putK (pin : Nat → Bool) (ts : List T) (ps : List P) (o : Option PEnv) : Option PEnv := match o with | some ρ => pputPs pin ts ps ρ | none => none
theorem putK_some {pin : Nat → Bool} {ts : List T} {ps : List P} : putK pin ts ps (some ρ) = pputPs pin ts ps ρ := (rfl)
theorem pputPs_cons {pin : Nat → Bool} {i : Nat} {ts : List T} {ps : List P} : pputPs pin (.nm i :: ts) (p :: ps) ρ = putK pin ts ps (pputP pin i p ρ) := (rfl)
theorem pres_nil : pres [] ρ = .ok [] ρ := (rfl)
def kPr (p : P) (ps : List P) (ρ : PEnv) : PO (List P) := .ok (p :: ps) ρ
theorem kPr_eq {p : P} {ps : List P} {ρ : PEnv} : kPr p ps ρ = .ok (p :: ps) ρ := (rfl)
def kPr1 (rs : List R) (v : Pv) (ρ : PEnv) : PO (List P) := (pres rs ρ).bind (kPr (.fz v))
theorem kPr1_eq {rs : List R} {v : Pv} {ρ : PEnv} : kPr1 rs v ρ = (pres rs ρ).bind (kPr (.fz v)) := (rfl)
theorem pres_v {rs : List R} : pres (.v p :: rs) ρ = (pres rs ρ).bind (kPr p) := (rfl)
theorem pres_al {rs : List R} {i : Nat} : pres (.al i :: rs) ρ = (tk (.al i) ρ).bind (kPr1 rs) := (rfl)
theorem asgT_nm {pin : Nat → Bool} {i : Nat} (h1 : i < ρ.length) (h2 : pin i = false) : pasgT pin (.nm i) v ρ = some (ρ.set i (some (.fz v))) := by
  unfold pasgT; rw [if_pos (by rw [decide_eq_true h1, h2]; rfl)]
theorem asgT_tp {pin : Nat → Bool} {ts : List T} {vs : List Pv} : pasgT pin (.tp ts) (.tup vs) ρ = pasgTs pin ts vs ρ := (rfl)
def asgK (pin : Nat → Bool) (ts : List T) (vs : List Pv) (o : Option PEnv) : Option PEnv := match o with | some ρ => pasgTs pin ts vs ρ | none => none
theorem asgK_some {pin : Nat → Bool} {ts : List T} {vs : List Pv} : asgK pin ts vs (some ρ) = pasgTs pin ts vs ρ := (rfl)
theorem asgTs_cons {pin : Nat → Bool} {t : T} {ts : List T} {vs : List Pv} : pasgTs pin (t :: ts) (v :: vs) ρ = asgK pin ts vs (pasgT pin t v ρ) := (rfl)
theorem pasgTs_nil {pin : Nat → Bool} : pasgTs pin [] [] ρ = some ρ := (rfl)
theorem pinO_eq {own : List Nat} {i : Nat} : pinO own i = !own.contains i := (rfl)
theorem pinL_nil {i : Nat} : pinL [] i = false := by simp [pinL]
theorem pinL_z {b : Bool} {bs : List Bool} : pinL (b :: bs) 0 = b := (rfl)
theorem pinL_s {b : Bool} {bs : List Bool} {i : Nat} : pinL (b :: bs) (i + 1) = pinL bs i := (rfl)
theorem wipe_nil' : pwipe ρ [] = ρ := (rfl)
theorem wipe_cons' {i : Nat} {l : List Nat} : pwipe ρ (i :: l) = (pwipe ρ l).set i none := (rfl)
def rst1 (o : Option (Option P)) : Option P := match o with | some (some (.fz w)) => some (.fz w) | _ => none
theorem rst1_fz : rst1 (some (some (.fz v))) = some (.fz v) := (rfl)
theorem rst1_none : rst1 (some none) = none := (rfl)
theorem rst1_ol {vs : List Pv} : rst1 (some (some (.ol vs))) = none := (rfl)
theorem prst_nil {ρ0 : PEnv} : prst ρ0 ρ [] = ρ := (rfl)
theorem prst_cons {ρ0 : PEnv} {i : Nat} {l : List Nat} : prst ρ0 ρ (i :: l) = (prst ρ0 ρ l).set i (rst1 ρ0[i]?) := (rfl)
theorem fgt_s {o : P} {x : Option P} {r ρ : PEnv} : pfgt (some o :: r) (x :: ρ) = x :: pfgt r ρ := (rfl)
theorem fgt_n {x : Option P} {r ρ : PEnv} : pfgt (none :: r) (x :: ρ) = none :: pfgt r ρ := (rfl)
theorem fgt_e : pfgt [] ρ = ρ := by cases ρ <;> simp [pfgt]
/-! operators -/
theorem b_add {i j : Int} : pbin .Add (.int i) (.int j) = some (.fz (.int (i + j))) := (rfl)
theorem b_sub {i j : Int} : pbin .Sub (.int i) (.int j) = some (.fz (.int (i - j))) := (rfl)
theorem b_mul_r {i j : Int} (h1 : -18446744073709551616 < j) (h2 : j < 18446744073709551616) : pbin .Mult (.int i) (.int j) = some (.fz (.int (i * j))) := if_pos (.inr ⟨by omega, by omega⟩)
theorem b_mul_l {i j : Int} (h1 : -18446744073709551616 < i) (h2 : i < 18446744073709551616) : pbin .Mult (.int i) (.int j) = some (.fz (.int (i * j))) := if_pos (.inl ⟨by omega, by omega⟩)
theorem b_pow18 : pbin .Pow (.int 10) (.int 18) = some (.fz (.int 1000000000000000000)) := (rfl)
theorem b_mod {i j : Int} (h : 0 < j) : pbin .Mod (.int i) (.int j) = some (.fz (.int (i % j))) := if_pos h
theorem b_div {i j : Int} (h : 0 < j ∧ j < 1073741824) : pbin .FloorDiv (.int i) (.int j) = some (.fz (.int (i / j))) := if_pos h
theorem b_tup {a b : List Pv} (h : a.length + b.length ≤ 1000000) : pbin .Add (.tup a) (.tup b) = some (.fz (.tup (a ++ b))) := if_pos h
theorem b_lst {a b : List Pv} (h : a.length + b.length ≤ 1000000) : pbin .Add (.lst a) (.lst b) = some (.ol (a ++ b)) := if_pos h
theorem c_lt {i j : Int} : pcmp .Lt (.int i) (.int j) = some (decide (i < j)) := (rfl)
theorem c_le {i j : Int} : pcmp .LtE (.int i) (.int j) = some (decide (i ≤ j)) := (rfl)
theorem c_gt {i j : Int} : pcmp .Gt (.int i) (.int j) = some (decide (j < i)) := (rfl)
theorem c_ge {i j : Int} : pcmp .GtE (.int i) (.int j) = some (decide (j ≤ i)) := (rfl)
theorem c_ne : pcmp .NotEq x y = notO (pcmp .Eq x y) := (rfl)
theorem c_in : pcmp .In x y = pcin x y := (rfl)
theorem c_nin : pcmp .NotIn x y = notO (pcin x y) := (rfl)
theorem c_is : pcmp .Is x y = pcis x y := (rfl)
theorem c_isn : pcmp .IsNot x y = notO (pcis x y) := (rfl)
def isNonV : Pv → Bool
  | .non => true
  | _ => false
theorem is_non {x : Pv} : pcis x .non = some (isNonV x) := by cases x <;> rfl
theorem veq_int {i j : Int} : pcmp .Eq (.int i) (.int j) = some (decide (i = j)) := by
  show (if (SeqAt.shaped (.int i) && SeqAt.shaped (.int j)) = true then some (PyData.eqv (.int i) (.int j)) else none) = _
  have h : ∀ i : Int, SeqAt.shaped (.int i) = true := fun _ => rfl
  rw [h, h]
  show some (PyData.eqv (.int i) (.int j)) = _
  simp only [PyData.eqv]
  exact congrArg some (Bool.eq_iff_iff.mpr (by simp))
theorem veq_str {s t : Str} : pcmp .Eq (.str s) (.str t) = some (decide (s = t)) := (rfl)
theorem tr_bl {b : Bool} : ptruth (.bl b) = some b := (rfl)
theorem sub_t {vs : List Pv} {j : Int} : psub (.tup vs) (.int j) = pixV vs j := (rfl)
theorem prevs_l {vs : List Pv} : prevs (.lst vs) = some (.ol vs.reverse) := (rfl)
theorem sub_l {vs : List Pv} {j : Int} : psub (.lst vs) (.int j) = pixV vs j := (rfl)
theorem sub_d {kvs : List (Pv × Pv)} (h : pfits kvs x = true) : psub (.dct kvs) x = pdget kvs x := if_pos h
theorem get0 {x0 : α} {l : List α} : (x0 :: l)[0]? = some x0 := (rfl)
theorem set0 {x0 z : α} {l : List α} : (x0 :: l).set 0 z = z :: l := (rfl)
theorem ix0 {x0 : Pv} {l : List Pv} : pixV (x0 :: l) 0 = some x0 := by
  have h : ixOf 0 (x0 :: l).length = some 0 := ix_nat (i := 0) (by omega) (by simp only [List.length_cons]; omega)
  unfold pixV; rw [h]; rfl
theorem get1 {x0 x1 : α} {l : List α} : (x0 :: x1 :: l)[1]? = some x1 := (rfl)
theorem set1 {x0 x1 z : α} {l : List α} : (x0 :: x1 :: l).set 1 z = x0 :: z :: l := (rfl)
theorem ix1 {x0 x1 : Pv} {l : List Pv} : pixV (x0 :: x1 :: l) 1 = some x1 := by
  have h : ixOf 1 (x0 :: x1 :: l).length = some 1 := ix_nat (i := 1) (by omega) (by simp only [List.length_cons]; omega)
  unfold pixV; rw [h]; rfl
theorem get2 {x0 x1 x2 : α} {l : List α} : (x0 :: x1 :: x2 :: l)[2]? = some x2 := (rfl)
theorem set2 {x0 x1 x2 z : α} {l : List α} : (x0 :: x1 :: x2 :: l).set 2 z = x0 :: x1 :: z :: l := (rfl)
theorem ix2 {x0 x1 x2 : Pv} {l : List Pv} : pixV (x0 :: x1 :: x2 :: l) 2 = some x2 := by
  have h : ixOf 2 (x0 :: x1 :: x2 :: l).length = some 2 := ix_nat (i := 2) (by omega) (by simp only [List.length_cons]; omega)
  unfold pixV; rw [h]; rfl
theorem get3 {x0 x1 x2 x3 : α} {l : List α} : (x0 :: x1 :: x2 :: x3 :: l)[3]? = some x3 := (rfl)
theorem set3 {x0 x1 x2 x3 z : α} {l : List α} : (x0 :: x1 :: x2 :: x3 :: l).set 3 z = x0 :: x1 :: x2 :: z :: l := (rfl)
theorem ix3 {x0 x1 x2 x3 : Pv} {l : List Pv} : pixV (x0 :: x1 :: x2 :: x3 :: l) 3 = some x3 := by
  have h : ixOf 3 (x0 :: x1 :: x2 :: x3 :: l).length = some 3 := ix_nat (i := 3) (by omega) (by simp only [List.length_cons]; omega)
  unfold pixV; rw [h]; rfl
theorem get4 {x0 x1 x2 x3 x4 : α} {l : List α} : (x0 :: x1 :: x2 :: x3 :: x4 :: l)[4]? = some x4 := (rfl)
theorem set4 {x0 x1 x2 x3 x4 z : α} {l : List α} : (x0 :: x1 :: x2 :: x3 :: x4 :: l).set 4 z = x0 :: x1 :: x2 :: x3 :: z :: l := (rfl)
theorem ix4 {x0 x1 x2 x3 x4 : Pv} {l : List Pv} : pixV (x0 :: x1 :: x2 :: x3 :: x4 :: l) 4 = some x4 := by
  have h : ixOf 4 (x0 :: x1 :: x2 :: x3 :: x4 :: l).length = some 4 := ix_nat (i := 4) (by omega) (by simp only [List.length_cons]; omega)
  unfold pixV; rw [h]; rfl
theorem get5 {x0 x1 x2 x3 x4 x5 : α} {l : List α} : (x0 :: x1 :: x2 :: x3 :: x4 :: x5 :: l)[5]? = some x5 := (rfl)
theorem set5 {x0 x1 x2 x3 x4 x5 z : α} {l : List α} : (x0 :: x1 :: x2 :: x3 :: x4 :: x5 :: l).set 5 z = x0 :: x1 :: x2 :: x3 :: x4 :: z :: l := (rfl)
theorem ix5 {x0 x1 x2 x3 x4 x5 : Pv} {l : List Pv} : pixV (x0 :: x1 :: x2 :: x3 :: x4 :: x5 :: l) 5 = some x5 := by
  have h : ixOf 5 (x0 :: x1 :: x2 :: x3 :: x4 :: x5 :: l).length = some 5 := ix_nat (i := 5) (by omega) (by simp only [List.length_cons]; omega)
  unfold pixV; rw [h]; rfl
theorem get6 {x0 x1 x2 x3 x4 x5 x6 : α} {l : List α} : (x0 :: x1 :: x2 :: x3 :: x4 :: x5 :: x6 :: l)[6]? = some x6 := (rfl)
theorem set6 {x0 x1 x2 x3 x4 x5 x6 z : α} {l : List α} : (x0 :: x1 :: x2 :: x3 :: x4 :: x5 :: x6 :: l).set 6 z = x0 :: x1 :: x2 :: x3 :: x4 :: x5 :: z :: l := (rfl)
theorem ix6 {x0 x1 x2 x3 x4 x5 x6 : Pv} {l : List Pv} : pixV (x0 :: x1 :: x2 :: x3 :: x4 :: x5 :: x6 :: l) 6 = some x6 := by
  have h : ixOf 6 (x0 :: x1 :: x2 :: x3 :: x4 :: x5 :: x6 :: l).length = some 6 := ix_nat (i := 6) (by omega) (by simp only [List.length_cons]; omega)
  unfold pixV; rw [h]; rfl
theorem get7 {x0 x1 x2 x3 x4 x5 x6 x7 : α} {l : List α} : (x0 :: x1 :: x2 :: x3 :: x4 :: x5 :: x6 :: x7 :: l)[7]? = some x7 := (rfl)
theorem set7 {x0 x1 x2 x3 x4 x5 x6 x7 z : α} {l : List α} : (x0 :: x1 :: x2 :: x3 :: x4 :: x5 :: x6 :: x7 :: l).set 7 z = x0 :: x1 :: x2 :: x3 :: x4 :: x5 :: x6 :: z :: l := (rfl)
theorem ix7 {x0 x1 x2 x3 x4 x5 x6 x7 : Pv} {l : List Pv} : pixV (x0 :: x1 :: x2 :: x3 :: x4 :: x5 :: x6 :: x7 :: l) 7 = some x7 := by
  have h : ixOf 7 (x0 :: x1 :: x2 :: x3 :: x4 :: x5 :: x6 :: x7 :: l).length = some 7 := ix_nat (i := 7) (by omega) (by simp only [List.length_cons]; omega)
  unfold pixV; rw [h]; rfl
theorem get8 {x0 x1 x2 x3 x4 x5 x6 x7 x8 : α} {l : List α} : (x0 :: x1 :: x2 :: x3 :: x4 :: x5 :: x6 :: x7 :: x8 :: l)[8]? = some x8 := (rfl)
theorem set8 {x0 x1 x2 x3 x4 x5 x6 x7 x8 z : α} {l : List α} : (x0 :: x1 :: x2 :: x3 :: x4 :: x5 :: x6 :: x7 :: x8 :: l).set 8 z = x0 :: x1 :: x2 :: x3 :: x4 :: x5 :: x6 :: x7 :: z :: l := (rfl)
theorem ix8 {x0 x1 x2 x3 x4 x5 x6 x7 x8 : Pv} {l : List Pv} : pixV (x0 :: x1 :: x2 :: x3 :: x4 :: x5 :: x6 :: x7 :: x8 :: l) 8 = some x8 := by
  have h : ixOf 8 (x0 :: x1 :: x2 :: x3 :: x4 :: x5 :: x6 :: x7 :: x8 :: l).length = some 8 := ix_nat (i := 8) (by omega) (by simp only [List.length_cons]; omega)
  unfold pixV; rw [h]; rfl
theorem get9 {x0 x1 x2 x3 x4 x5 x6 x7 x8 x9 : α} {l : List α} : (x0 :: x1 :: x2 :: x3 :: x4 :: x5 :: x6 :: x7 :: x8 :: x9 :: l)[9]? = some x9 := (rfl)
theorem set9 {x0 x1 x2 x3 x4 x5 x6 x7 x8 x9 z : α} {l : List α} : (x0 :: x1 :: x2 :: x3 :: x4 :: x5 :: x6 :: x7 :: x8 :: x9 :: l).set 9 z = x0 :: x1 :: x2 :: x3 :: x4 :: x5 :: x6 :: x7 :: x8 :: z :: l := (rfl)
theorem ix9 {x0 x1 x2 x3 x4 x5 x6 x7 x8 x9 : Pv} {l : List Pv} : pixV (x0 :: x1 :: x2 :: x3 :: x4 :: x5 :: x6 :: x7 :: x8 :: x9 :: l) 9 = some x9 := by
  have h : ixOf 9 (x0 :: x1 :: x2 :: x3 :: x4 :: x5 :: x6 :: x7 :: x8 :: x9 :: l).length = some 9 := ix_nat (i := 9) (by omega) (by simp only [List.length_cons]; omega)
  unfold pixV; rw [h]; rfl
theorem get10 {x0 x1 x2 x3 x4 x5 x6 x7 x8 x9 x10 : α} {l : List α} : (x0 :: x1 :: x2 :: x3 :: x4 :: x5 :: x6 :: x7 :: x8 :: x9 :: x10 :: l)[10]? = some x10 := (rfl)
theorem set10 {x0 x1 x2 x3 x4 x5 x6 x7 x8 x9 x10 z : α} {l : List α} : (x0 :: x1 :: x2 :: x3 :: x4 :: x5 :: x6 :: x7 :: x8 :: x9 :: x10 :: l).set 10 z = x0 :: x1 :: x2 :: x3 :: x4 :: x5 :: x6 :: x7 :: x8 :: x9 :: z :: l := (rfl)
theorem ix10 {x0 x1 x2 x3 x4 x5 x6 x7 x8 x9 x10 : Pv} {l : List Pv} : pixV (x0 :: x1 :: x2 :: x3 :: x4 :: x5 :: x6 :: x7 :: x8 :: x9 :: x10 :: l) 10 = some x10 := by
  have h : ixOf 10 (x0 :: x1 :: x2 :: x3 :: x4 :: x5 :: x6 :: x7 :: x8 :: x9 :: x10 :: l).length = some 10 := ix_nat (i := 10) (by omega) (by simp only [List.length_cons]; omega)
  unfold pixV; rw [h]; rfl
theorem get11 {x0 x1 x2 x3 x4 x5 x6 x7 x8 x9 x10 x11 : α} {l : List α} : (x0 :: x1 :: x2 :: x3 :: x4 :: x5 :: x6 :: x7 :: x8 :: x9 :: x10 :: x11 :: l)[11]? = some x11 := (rfl)
theorem set11 {x0 x1 x2 x3 x4 x5 x6 x7 x8 x9 x10 x11 z : α} {l : List α} : (x0 :: x1 :: x2 :: x3 :: x4 :: x5 :: x6 :: x7 :: x8 :: x9 :: x10 :: x11 :: l).set 11 z = x0 :: x1 :: x2 :: x3 :: x4 :: x5 :: x6 :: x7 :: x8 :: x9 :: x10 :: z :: l := (rfl)
theorem ix11 {x0 x1 x2 x3 x4 x5 x6 x7 x8 x9 x10 x11 : Pv} {l : List Pv} : pixV (x0 :: x1 :: x2 :: x3 :: x4 :: x5 :: x6 :: x7 :: x8 :: x9 :: x10 :: x11 :: l) 11 = some x11 := by
  have h : ixOf 11 (x0 :: x1 :: x2 :: x3 :: x4 :: x5 :: x6 :: x7 :: x8 :: x9 :: x10 :: x11 :: l).length = some 11 := ix_nat (i := 11) (by omega) (by simp only [List.length_cons]; omega)
  unfold pixV; rw [h]; rfl
theorem get12 {x0 x1 x2 x3 x4 x5 x6 x7 x8 x9 x10 x11 x12 : α} {l : List α} : (x0 :: x1 :: x2 :: x3 :: x4 :: x5 :: x6 :: x7 :: x8 :: x9 :: x10 :: x11 :: x12 :: l)[12]? = some x12 := (rfl)
theorem set12 {x0 x1 x2 x3 x4 x5 x6 x7 x8 x9 x10 x11 x12 z : α} {l : List α} : (x0 :: x1 :: x2 :: x3 :: x4 :: x5 :: x6 :: x7 :: x8 :: x9 :: x10 :: x11 :: x12 :: l).set 12 z = x0 :: x1 :: x2 :: x3 :: x4 :: x5 :: x6 :: x7 :: x8 :: x9 :: x10 :: x11 :: z :: l := (rfl)
theorem ix12 {x0 x1 x2 x3 x4 x5 x6 x7 x8 x9 x10 x11 x12 : Pv} {l : List Pv} : pixV (x0 :: x1 :: x2 :: x3 :: x4 :: x5 :: x6 :: x7 :: x8 :: x9 :: x10 :: x11 :: x12 :: l) 12 = some x12 := by
  have h : ixOf 12 (x0 :: x1 :: x2 :: x3 :: x4 :: x5 :: x6 :: x7 :: x8 :: x9 :: x10 :: x11 :: x12 :: l).length = some 12 := ix_nat (i := 12) (by omega) (by simp only [List.length_cons]; omega)
  unfold pixV; rw [h]; rfl
theorem get13 {x0 x1 x2 x3 x4 x5 x6 x7 x8 x9 x10 x11 x12 x13 : α} {l : List α} : (x0 :: x1 :: x2 :: x3 :: x4 :: x5 :: x6 :: x7 :: x8 :: x9 :: x10 :: x11 :: x12 :: x13 :: l)[13]? = some x13 := (rfl)
theorem set13 {x0 x1 x2 x3 x4 x5 x6 x7 x8 x9 x10 x11 x12 x13 z : α} {l : List α} : (x0 :: x1 :: x2 :: x3 :: x4 :: x5 :: x6 :: x7 :: x8 :: x9 :: x10 :: x11 :: x12 :: x13 :: l).set 13 z = x0 :: x1 :: x2 :: x3 :: x4 :: x5 :: x6 :: x7 :: x8 :: x9 :: x10 :: x11 :: x12 :: z :: l := (rfl)
theorem ix13 {x0 x1 x2 x3 x4 x5 x6 x7 x8 x9 x10 x11 x12 x13 : Pv} {l : List Pv} : pixV (x0 :: x1 :: x2 :: x3 :: x4 :: x5 :: x6 :: x7 :: x8 :: x9 :: x10 :: x11 :: x12 :: x13 :: l) 13 = some x13 := by
  have h : ixOf 13 (x0 :: x1 :: x2 :: x3 :: x4 :: x5 :: x6 :: x7 :: x8 :: x9 :: x10 :: x11 :: x12 :: x13 :: l).length = some 13 := ix_nat (i := 13) (by omega) (by simp only [List.length_cons]; omega)
  unfold pixV; rw [h]; rfl
theorem sti0 {j : Nat} {x0 : Pv} {l : List Pv} : stI2 j (.int 0) v (some (some (.ol (x0 :: l)))) ρ = some (ρ.set j (some (.ol (v :: l)))) := by
  rw [stI_ol (n := 0) (ix_nat (i := 0) (by omega) (by simp only [List.length_cons]; omega))]; rfl
theorem sti1 {j : Nat} {x0 x1 : Pv} {l : List Pv} : stI2 j (.int 1) v (some (some (.ol (x0 :: x1 :: l)))) ρ = some (ρ.set j (some (.ol (x0 :: v :: l)))) := by
  rw [stI_ol (n := 1) (ix_nat (i := 1) (by omega) (by simp only [List.length_cons]; omega))]; rfl
theorem sti2 {j : Nat} {x0 x1 x2 : Pv} {l : List Pv} : stI2 j (.int 2) v (some (some (.ol (x0 :: x1 :: x2 :: l)))) ρ = some (ρ.set j (some (.ol (x0 :: x1 :: v :: l)))) := by
  rw [stI_ol (n := 2) (ix_nat (i := 2) (by omega) (by simp only [List.length_cons]; omega))]; rfl
theorem sti3 {j : Nat} {x0 x1 x2 x3 : Pv} {l : List Pv} : stI2 j (.int 3) v (some (some (.ol (x0 :: x1 :: x2 :: x3 :: l)))) ρ = some (ρ.set j (some (.ol (x0 :: x1 :: x2 :: v :: l)))) := by
  rw [stI_ol (n := 3) (ix_nat (i := 3) (by omega) (by simp only [List.length_cons]; omega))]; rfl
theorem sti4 {j : Nat} {x0 x1 x2 x3 x4 : Pv} {l : List Pv} : stI2 j (.int 4) v (some (some (.ol (x0 :: x1 :: x2 :: x3 :: x4 :: l)))) ρ = some (ρ.set j (some (.ol (x0 :: x1 :: x2 :: x3 :: v :: l)))) := by
  rw [stI_ol (n := 4) (ix_nat (i := 4) (by omega) (by simp only [List.length_cons]; omega))]; rfl
theorem sti5 {j : Nat} {x0 x1 x2 x3 x4 x5 : Pv} {l : List Pv} : stI2 j (.int 5) v (some (some (.ol (x0 :: x1 :: x2 :: x3 :: x4 :: x5 :: l)))) ρ = some (ρ.set j (some (.ol (x0 :: x1 :: x2 :: x3 :: x4 :: v :: l)))) := by
  rw [stI_ol (n := 5) (ix_nat (i := 5) (by omega) (by simp only [List.length_cons]; omega))]; rfl
theorem sti6 {j : Nat} {x0 x1 x2 x3 x4 x5 x6 : Pv} {l : List Pv} : stI2 j (.int 6) v (some (some (.ol (x0 :: x1 :: x2 :: x3 :: x4 :: x5 :: x6 :: l)))) ρ = some (ρ.set j (some (.ol (x0 :: x1 :: x2 :: x3 :: x4 :: x5 :: v :: l)))) := by
  rw [stI_ol (n := 6) (ix_nat (i := 6) (by omega) (by simp only [List.length_cons]; omega))]; rfl
theorem sti7 {j : Nat} {x0 x1 x2 x3 x4 x5 x6 x7 : Pv} {l : List Pv} : stI2 j (.int 7) v (some (some (.ol (x0 :: x1 :: x2 :: x3 :: x4 :: x5 :: x6 :: x7 :: l)))) ρ = some (ρ.set j (some (.ol (x0 :: x1 :: x2 :: x3 :: x4 :: x5 :: x6 :: v :: l)))) := by
  rw [stI_ol (n := 7) (ix_nat (i := 7) (by omega) (by simp only [List.length_cons]; omega))]; rfl
end
end Mn
end -- Px1
section -- Fns
set_option linter.all false
set_option maxRecDepth 100000
namespace Mn
open PySem L2
def n__law_pen : List Str := ["script"]
def f__law_pen : FD := ⟨["script"], [], 1, [.ret (.lst [.bcall .list [.sl (.var 0) .non (.int 63)], .int 0, .int 0])]⟩
class C__law_pen (Pr : Prg) (L : Str → List Bool) : Prop where
  fn__law_pen : Pr.fns.lookup (Str.ofString "_law_pen") = some f__law_pen
  ln__law_pen : L (Str.ofString "_law_pen") = []
theorem lend__law_pen {Pr : Prg} {L : Str → List Bool} {f : Str} {k : Nat} [h : C__law_pen Pr L] : (Pn.pgam Pr L f k).lend "_law_pen" = [] := h.ln__law_pen
theorem pin__law_pen {Pr : Prg} {L : Str → List Bool} {k : Nat} [h : C__law_pen Pr L] : (Pn.pgam Pr L "_law_pen" k).pin = pinL [] := congrArg pinL h.ln__law_pen
theorem pca__law_pen {Pr : Prg} {L : Str → List Bool} {k : Nat} {ps : List P} [h : C__law_pen Pr L] (hl : ps.length = 1) : pcallAt Pr L (k + 1) "_law_pen" ps [] = (prunB (Pn.pgam Pr L "_law_pen" k) f__law_pen ps).map (finL []) := pcall_eq h.fn__law_pen h.ln__law_pen hl
def n__law_fresh : List Str := ["pen", "at", "cell", "p", "state", "found", "turn"]
def f__law_fresh : FD := ⟨["pen"], [], 7, [.asg (.nm 1) (.idx (.var 0) (.int 1)), .setIdx (.var 0) (.int 1) (.bin .Add (.var 1) (.int 1)), .asg (.nm 2) (.int 0), .ite (.cmp .NotEq (.idx (.var 0) (.int 0)) (.lst [])) [.asg (.nm 2) (.idx (.idx (.var 0) (.int 0)) (.bin .Mod (.bcall .int [.var 1]) (.bcall .len [.idx (.var 0) (.int 0)])))] [], .ite (.and (.cmp .Lt (.var 1) (.bcall .len [.idx (.var 0) (.int 0)])) (.cmp .GtE (.var 2) (.bin .Pow (.int 10) (.int 18)))) [.ret (.bin .Sub (.var 2) (.bin .Pow (.int 10) (.int 18)))] [], .asg (.nm 3) (.int 2305843009213693951), .asg (.nm 4) (.bin .Mod (.bcall .int [.bin .Add (.bin .Add (.bin .Mult (.var 2) (.int 48271)) (.bin .Mult (.int 40692) (.var 1))) (.int 31)]) (.var 3)), .asg (.nm 5) (.var 4), .for .range [.int 6] (.nm 6) [.asg (.nm 4) (.bin .Mod (.bcall .int [.bin .Add (.bin .Add (.bin .Mult (.var 4) (.var 4)) (.bin .Mult (.bin .Mult (.int 69621) (.bin .Add (.var 6) (.int 1))) (.bin .Add (.var 1) (.int 1)))) (.var 2)]) (.var 3)), .asg (.nm 5) (.bin .Add (.bin .Mult (.var 5) (.var 3)) (.var 4))], .ret (.var 5)]⟩
class C__law_fresh (Pr : Prg) (L : Str → List Bool) : Prop where
  fn__law_fresh : Pr.fns.lookup (Str.ofString "_law_fresh") = some f__law_fresh
  ln__law_fresh : L (Str.ofString "_law_fresh") = [true]
theorem lend__law_fresh {Pr : Prg} {L : Str → List Bool} {f : Str} {k : Nat} [h : C__law_fresh Pr L] : (Pn.pgam Pr L f k).lend "_law_fresh" = [true] := h.ln__law_fresh
theorem pin__law_fresh {Pr : Prg} {L : Str → List Bool} {k : Nat} [h : C__law_fresh Pr L] : (Pn.pgam Pr L "_law_fresh" k).pin = pinL [true] := congrArg pinL h.ln__law_fresh
theorem pca__law_fresh {Pr : Prg} {L : Str → List Bool} {k : Nat} {ps : List P} [h : C__law_fresh Pr L] (hl : ps.length = 1) : pcallAt Pr L (k + 1) "_law_fresh" ps [] = (prunB (Pn.pgam Pr L "_law_fresh" k) f__law_fresh ps).map (finL [true]) := pcall_eq h.fn__law_fresh h.ln__law_fresh hl
def n__law_draw : List Str := ["pen", "many", "digit"]
def f__law_draw : FD := ⟨["pen", "many"], [], 3, [.ite (.cmp .Lt (.idx (.var 0) (.int 2)) (.var 1)) [.setIdx (.var 0) (.int 2) (.call "_law_fresh" [.var 0] [] [])] [], .asg (.nm 2) (.bin .Mod (.bcall .int [.idx (.var 0) (.int 2)]) (.var 1)), .setIdx (.var 0) (.int 2) (.bin .FloorDiv (.bcall .int [.idx (.var 0) (.int 2)]) (.var 1)), .ret (.var 2)]⟩
class C__law_draw (Pr : Prg) (L : Str → List Bool) : Prop extends C__law_fresh Pr L where
  fn__law_draw : Pr.fns.lookup (Str.ofString "_law_draw") = some f__law_draw
  ln__law_draw : L (Str.ofString "_law_draw") = [true]
theorem lend__law_draw {Pr : Prg} {L : Str → List Bool} {f : Str} {k : Nat} [h : C__law_draw Pr L] : (Pn.pgam Pr L f k).lend "_law_draw" = [true] := h.ln__law_draw
theorem pin__law_draw {Pr : Prg} {L : Str → List Bool} {k : Nat} [h : C__law_draw Pr L] : (Pn.pgam Pr L "_law_draw" k).pin = pinL [true] := congrArg pinL h.ln__law_draw
theorem pca__law_draw {Pr : Prg} {L : Str → List Bool} {k : Nat} {ps : List P} [h : C__law_draw Pr L] (hl : ps.length = 2) : pcallAt Pr L (k + 1) "_law_draw" ps [] = (prunB (Pn.pgam Pr L "_law_draw" k) f__law_draw ps).map (finL [true]) := pcall_eq h.fn__law_draw h.ln__law_draw hl
def n__law_cells : List Str := ["pen", "many", "most", "found", "lap", "cell"]
def f__law_cells : FD := ⟨["pen", "many", "most"], [], 6, [.asg (.nm 3) (.lst []), .for .range [.call "_law_draw" [.var 0, .bin .Add (.var 2) (.int 1)] [] []] (.nm 4) [.asg (.nm 5) (.call "_law_draw" [.var 0, .var 1] [] []), .ite (.cmp .NotIn (.var 5) (.var 3)) [.expr (.bmeth .append (.var 3) [.var 5])] []], .ret (.bcall .tuple [.bcall .sorted [.var 3]])]⟩
class C__law_cells (Pr : Prg) (L : Str → List Bool) : Prop extends C__law_draw Pr L where
  fn__law_cells : Pr.fns.lookup (Str.ofString "_law_cells") = some f__law_cells
  ln__law_cells : L (Str.ofString "_law_cells") = [true]
theorem lend__law_cells {Pr : Prg} {L : Str → List Bool} {f : Str} {k : Nat} [h : C__law_cells Pr L] : (Pn.pgam Pr L f k).lend "_law_cells" = [true] := h.ln__law_cells
theorem pin__law_cells {Pr : Prg} {L : Str → List Bool} {k : Nat} [h : C__law_cells Pr L] : (Pn.pgam Pr L "_law_cells" k).pin = pinL [true] := congrArg pinL h.ln__law_cells
theorem pca__law_cells {Pr : Prg} {L : Str → List Bool} {k : Nat} {ps : List P} [h : C__law_cells Pr L] (hl : ps.length = 3) : pcallAt Pr L (k + 1) "_law_cells" ps [] = (prunB (Pn.pgam Pr L "_law_cells" k) f__law_cells ps).map (finL [true]) := pcall_eq h.fn__law_cells h.ln__law_cells hl
def n__law_item : List Str := ["pen", "many", "option", "cell", "found"]
def f__law_item : FD := ⟨["pen", "many"], [], 5, [.asg (.tp [.nm 2, .nm 3]) (.tup [.call "_law_draw" [.var 0, .int 9] [] [], .call "_law_draw" [.var 0, .var 1] [] []]), .ite (.cmp .Lt (.var 2) (.int 4)) [.ret (.tup [.str "do", .var 3, .call "_law_cells" [.var 0, .var 1, .int 3] [] []])] [], .ite (.cmp .Eq (.var 2) (.int 4)) [.ret (.tup [.str "ask", .var 3])] [], .ite (.cmp .Lt (.var 2) (.int 7)) [.asg (.nm 4) (.call "_law_cells" [.var 0, .var 1, .int 3] [] []), .ret (.tup [.str "send", .ite (.cmp .NotEq (.var 4) (.tup [])) (.var 4) (.tup [.var 3])])] [], .ret (.tup [.str "mark", .call "_law_cells" [.var 0, .var 1, .var 1] [] []])]⟩
class C__law_item (Pr : Prg) (L : Str → List Bool) : Prop extends C__law_draw Pr L, C__law_cells Pr L where
  fn__law_item : Pr.fns.lookup (Str.ofString "_law_item") = some f__law_item
  ln__law_item : L (Str.ofString "_law_item") = [true]
theorem lend__law_item {Pr : Prg} {L : Str → List Bool} {f : Str} {k : Nat} [h : C__law_item Pr L] : (Pn.pgam Pr L f k).lend "_law_item" = [true] := h.ln__law_item
theorem pin__law_item {Pr : Prg} {L : Str → List Bool} {k : Nat} [h : C__law_item Pr L] : (Pn.pgam Pr L "_law_item" k).pin = pinL [true] := congrArg pinL h.ln__law_item
theorem pca__law_item {Pr : Prg} {L : Str → List Bool} {k : Nat} {ps : List P} [h : C__law_item Pr L] (hl : ps.length = 2) : pcallAt Pr L (k + 1) "_law_item" ps [] = (prunB (Pn.pgam Pr L "_law_item" k) f__law_item ps).map (finL [true]) := pcall_eq h.fn__law_item h.ln__law_item hl
def n__law_program : List Str := ["pen", "kept", "loose", "most", "lap"]
def f__law_program : FD := ⟨["pen", "kept", "loose", "most"], [], 5, [.ite (.cmp .Eq (.bin .Add (.var 1) (.var 2)) (.int 0)) [.asg (.nm 2) (.int 1)] [], .ret (.tup [.var 1, .var 2, .bcall .tuple [.comp .range [.call "_law_draw" [.var 0, .bin .Add (.var 3) (.int 1)] [] []] (.nm 4) [4] [] (.call "_law_item" [.var 0, .bin .Add (.var 1) (.var 2)] [] [])]])]⟩
class C__law_program (Pr : Prg) (L : Str → List Bool) : Prop extends C__law_item Pr L, C__law_draw Pr L where
  fn__law_program : Pr.fns.lookup (Str.ofString "_law_program") = some f__law_program
  ln__law_program : L (Str.ofString "_law_program") = [true]
theorem lend__law_program {Pr : Prg} {L : Str → List Bool} {f : Str} {k : Nat} [h : C__law_program Pr L] : (Pn.pgam Pr L f k).lend "_law_program" = [true] := h.ln__law_program
theorem pin__law_program {Pr : Prg} {L : Str → List Bool} {k : Nat} [h : C__law_program Pr L] : (Pn.pgam Pr L "_law_program" k).pin = pinL [true] := congrArg pinL h.ln__law_program
theorem pca__law_program {Pr : Prg} {L : Str → List Bool} {k : Nat} {ps : List P} [h : C__law_program Pr L] (hl : ps.length = 4) : pcallAt Pr L (k + 1) "_law_program" ps [] = (prunB (Pn.pgam Pr L "_law_program" k) f__law_program ps).map (finL [true]) := pcall_eq h.fn__law_program h.ln__law_program hl
def n_is_kept : List Str := ["program", "cell"]
def f_is_kept : FD := ⟨["program", "cell"], [], 2, [.ret (.cmp .Lt (.var 1) (.idx (.var 0) (.int 0)))]⟩
class C_is_kept (Pr : Prg) (L : Str → List Bool) : Prop where
  fn_is_kept : Pr.fns.lookup (Str.ofString "is_kept") = some f_is_kept
  ln_is_kept : L (Str.ofString "is_kept") = []
theorem lend_is_kept {Pr : Prg} {L : Str → List Bool} {f : Str} {k : Nat} [h : C_is_kept Pr L] : (Pn.pgam Pr L f k).lend "is_kept" = [] := h.ln_is_kept
theorem pin_is_kept {Pr : Prg} {L : Str → List Bool} {k : Nat} [h : C_is_kept Pr L] : (Pn.pgam Pr L "is_kept" k).pin = pinL [] := congrArg pinL h.ln_is_kept
theorem pca_is_kept {Pr : Prg} {L : Str → List Bool} {k : Nat} {ps : List P} [h : C_is_kept Pr L] (hl : ps.length = 2) : pcallAt Pr L (k + 1) "is_kept" ps [] = (prunB (Pn.pgam Pr L "is_kept" k) f_is_kept ps).map (finL []) := pcall_eq h.fn_is_kept h.ln_is_kept hl
def n_written_cell : List Str := ["item"]
def f_written_cell : FD := ⟨["item"], [], 1, [.ret (.ite (.cmp .In (.idx (.var 0) (.int 0)) (.tup [.str "do", .str "ask"])) (.idx (.var 0) (.int 1)) .non)]⟩
class C_written_cell (Pr : Prg) (L : Str → List Bool) : Prop where
  fn_written_cell : Pr.fns.lookup (Str.ofString "written_cell") = some f_written_cell
  ln_written_cell : L (Str.ofString "written_cell") = []
theorem lend_written_cell {Pr : Prg} {L : Str → List Bool} {f : Str} {k : Nat} [h : C_written_cell Pr L] : (Pn.pgam Pr L f k).lend "written_cell" = [] := h.ln_written_cell
theorem pin_written_cell {Pr : Prg} {L : Str → List Bool} {k : Nat} [h : C_written_cell Pr L] : (Pn.pgam Pr L "written_cell" k).pin = pinL [] := congrArg pinL h.ln_written_cell
theorem pca_written_cell {Pr : Prg} {L : Str → List Bool} {k : Nat} {ps : List P} [h : C_written_cell Pr L] (hl : ps.length = 1) : pcallAt Pr L (k + 1) "written_cell" ps [] = (prunB (Pn.pgam Pr L "written_cell" k) f_written_cell ps).map (finL []) := pcall_eq h.fn_written_cell h.ln_written_cell hl
def n_read_cells : List Str := ["item"]
def f_read_cells : FD := ⟨["item"], [], 1, [.ite (.cmp .Eq (.idx (.var 0) (.int 0)) (.str "do")) [.ret (.idx (.var 0) (.int 2))] [], .ret (.ite (.cmp .Eq (.idx (.var 0) (.int 0)) (.str "send")) (.idx (.var 0) (.int 1)) (.tup []))]⟩
class C_read_cells (Pr : Prg) (L : Str → List Bool) : Prop where
  fn_read_cells : Pr.fns.lookup (Str.ofString "read_cells") = some f_read_cells
  ln_read_cells : L (Str.ofString "read_cells") = []
theorem lend_read_cells {Pr : Prg} {L : Str → List Bool} {f : Str} {k : Nat} [h : C_read_cells Pr L] : (Pn.pgam Pr L f k).lend "read_cells" = [] := h.ln_read_cells
theorem pin_read_cells {Pr : Prg} {L : Str → List Bool} {k : Nat} [h : C_read_cells Pr L] : (Pn.pgam Pr L "read_cells" k).pin = pinL [] := congrArg pinL h.ln_read_cells
theorem pca_read_cells {Pr : Prg} {L : Str → List Bool} {k : Nat} {ps : List P} [h : C_read_cells Pr L] (hl : ps.length = 1) : pcallAt Pr L (k + 1) "read_cells" ps [] = (prunB (Pn.pgam Pr L "read_cells" k) f_read_cells ps).map (finL []) := pcall_eq h.fn_read_cells h.ln_read_cells hl
def n__law_written : List Str := ["item"]
def f__law_written : FD := ⟨["item"], [], 1, [.ret (.ite (.cmp .In (.idx (.var 0) (.int 0)) (.tup [.str "do", .str "ask"])) (.idx (.var 0) (.int 1)) .non)]⟩
class C__law_written (Pr : Prg) (L : Str → List Bool) : Prop where
  fn__law_written : Pr.fns.lookup (Str.ofString "_law_written") = some f__law_written
  ln__law_written : L (Str.ofString "_law_written") = []
theorem lend__law_written {Pr : Prg} {L : Str → List Bool} {f : Str} {k : Nat} [h : C__law_written Pr L] : (Pn.pgam Pr L f k).lend "_law_written" = [] := h.ln__law_written
theorem pin__law_written {Pr : Prg} {L : Str → List Bool} {k : Nat} [h : C__law_written Pr L] : (Pn.pgam Pr L "_law_written" k).pin = pinL [] := congrArg pinL h.ln__law_written
theorem pca__law_written {Pr : Prg} {L : Str → List Bool} {k : Nat} {ps : List P} [h : C__law_written Pr L] (hl : ps.length = 1) : pcallAt Pr L (k + 1) "_law_written" ps [] = (prunB (Pn.pgam Pr L "_law_written" k) f__law_written ps).map (finL []) := pcall_eq h.fn__law_written h.ln__law_written hl
def n__law_read : List Str := ["item"]
def f__law_read : FD := ⟨["item"], [], 1, [.ite (.cmp .Eq (.idx (.var 0) (.int 0)) (.str "do")) [.ret (.idx (.var 0) (.int 2))] [], .ret (.ite (.cmp .Eq (.idx (.var 0) (.int 0)) (.str "send")) (.idx (.var 0) (.int 1)) (.tup []))]⟩
class C__law_read (Pr : Prg) (L : Str → List Bool) : Prop where
  fn__law_read : Pr.fns.lookup (Str.ofString "_law_read") = some f__law_read
  ln__law_read : L (Str.ofString "_law_read") = []
theorem lend__law_read {Pr : Prg} {L : Str → List Bool} {f : Str} {k : Nat} [h : C__law_read Pr L] : (Pn.pgam Pr L f k).lend "_law_read" = [] := h.ln__law_read
theorem pin__law_read {Pr : Prg} {L : Str → List Bool} {k : Nat} [h : C__law_read Pr L] : (Pn.pgam Pr L "_law_read" k).pin = pinL [] := congrArg pinL h.ln__law_read
theorem pca__law_read {Pr : Prg} {L : Str → List Bool} {k : Nat} {ps : List P} [h : C__law_read Pr L] (hl : ps.length = 1) : pcallAt Pr L (k + 1) "_law_read" ps [] = (prunB (Pn.pgam Pr L "_law_read" k) f__law_read ps).map (finL []) := pcall_eq h.fn__law_read h.ln__law_read hl
def n_cell_count : List Str := ["program"]
def f_cell_count : FD := ⟨["program"], [], 1, [.ret (.bin .Add (.idx (.var 0) (.int 0)) (.idx (.var 0) (.int 1)))]⟩
class C_cell_count (Pr : Prg) (L : Str → List Bool) : Prop where
  fn_cell_count : Pr.fns.lookup (Str.ofString "cell_count") = some f_cell_count
  ln_cell_count : L (Str.ofString "cell_count") = []
theorem lend_cell_count {Pr : Prg} {L : Str → List Bool} {f : Str} {k : Nat} [h : C_cell_count Pr L] : (Pn.pgam Pr L f k).lend "cell_count" = [] := h.ln_cell_count
theorem pin_cell_count {Pr : Prg} {L : Str → List Bool} {k : Nat} [h : C_cell_count Pr L] : (Pn.pgam Pr L "cell_count" k).pin = pinL [] := congrArg pinL h.ln_cell_count
theorem pca_cell_count {Pr : Prg} {L : Str → List Bool} {k : Nat} {ps : List P} [h : C_cell_count Pr L] (hl : ps.length = 1) : pcallAt Pr L (k + 1) "cell_count" ps [] = (prunB (Pn.pgam Pr L "cell_count" k) f_cell_count ps).map (finL []) := pcall_eq h.fn_cell_count h.ln_cell_count hl
def n__law_some_program : List Str := ["pen", "most"]
def f__law_some_program : FD := ⟨["pen", "most"], [], 2, [.ret (.call "_law_program" [.var 0, .idx (.lst [.int 0, .int 1, .int 1, .int 2, .int 2, .int 3]) (.call "_law_draw" [.var 0, .int 6] [] []), .idx (.lst [.int 0, .int 1, .int 1, .int 2, .int 2, .int 3]) (.call "_law_draw" [.var 0, .int 6] [] []), .var 1] [] [])]⟩
class C__law_some_program (Pr : Prg) (L : Str → List Bool) : Prop extends C__law_program Pr L, C__law_draw Pr L where
  fn__law_some_program : Pr.fns.lookup (Str.ofString "_law_some_program") = some f__law_some_program
  ln__law_some_program : L (Str.ofString "_law_some_program") = [true]
theorem lend__law_some_program {Pr : Prg} {L : Str → List Bool} {f : Str} {k : Nat} [h : C__law_some_program Pr L] : (Pn.pgam Pr L f k).lend "_law_some_program" = [true] := h.ln__law_some_program
theorem pin__law_some_program {Pr : Prg} {L : Str → List Bool} {k : Nat} [h : C__law_some_program Pr L] : (Pn.pgam Pr L "_law_some_program" k).pin = pinL [true] := congrArg pinL h.ln__law_some_program
theorem pca__law_some_program {Pr : Prg} {L : Str → List Bool} {k : Nat} {ps : List P} [h : C__law_some_program Pr L] (hl : ps.length = 2) : pcallAt Pr L (k + 1) "_law_some_program" ps [] = (prunB (Pn.pgam Pr L "_law_some_program" k) f__law_some_program ps).map (finL [true]) := pcall_eq h.fn__law_some_program h.ln__law_some_program hl
def n_matter_before : List Str := ["item", "alive", "written", "read", "kept_on", "cell"]
def f_matter_before : FD := ⟨["item", "alive"], [], 6, [.asg (.tp [.nm 2, .nm 3]) (.tup [.call "written_cell" [.var 0] [] [], .call "read_cells" [.var 0] [] []]), .asg (.nm 4) (.comp .ex [.var 1] (.nm 5) [5] [.cmp .NotEq (.var 5) (.var 2)] (.var 5)), .ite (.or (.cmp .Eq (.idx (.var 0) (.int 0)) (.str "send")) (.and (.cmp .Eq (.idx (.var 0) (.int 0)) (.str "do")) (.cmp .In (.var 2) (.var 1)))) [.asg (.nm 4) (.bin .Add (.var 4) (.comp .ex [.var 3] (.nm 5) [5] [.cmp .NotIn (.var 5) (.var 4)] (.var 5)))] [], .ret (.bcall .tuple [.bcall .sorted [.var 4]])]⟩
class C_matter_before (Pr : Prg) (L : Str → List Bool) : Prop extends C_written_cell Pr L, C_read_cells Pr L where
  fn_matter_before : Pr.fns.lookup (Str.ofString "matter_before") = some f_matter_before
  ln_matter_before : L (Str.ofString "matter_before") = []
theorem lend_matter_before {Pr : Prg} {L : Str → List Bool} {f : Str} {k : Nat} [h : C_matter_before Pr L] : (Pn.pgam Pr L f k).lend "matter_before" = [] := h.ln_matter_before
theorem pin_matter_before {Pr : Prg} {L : Str → List Bool} {k : Nat} [h : C_matter_before Pr L] : (Pn.pgam Pr L "matter_before" k).pin = pinL [] := congrArg pinL h.ln_matter_before
theorem pca_matter_before {Pr : Prg} {L : Str → List Bool} {k : Nat} {ps : List P} [h : C_matter_before Pr L] (hl : ps.length = 2) : pcallAt Pr L (k + 1) "matter_before" ps [] = (prunB (Pn.pgam Pr L "matter_before" k) f_matter_before ps).map (finL []) := pcall_eq h.fn_matter_before h.ln_matter_before hl
def n_matter_rows : List Str := ["program", "found", "item"]
def f_matter_rows : FD := ⟨["program"], [], 3, [.asg (.nm 1) (.lst [.tup []]), .for .rev [.idx (.var 0) (.int 2)] (.nm 2) [.expr (.bmeth .append (.var 1) [.call "matter_before" [.var 2, .idx (.var 1) (.neg (.int 1))] [] []])], .ret (.slr (.var 1))]⟩
class C_matter_rows (Pr : Prg) (L : Str → List Bool) : Prop extends C_matter_before Pr L where
  fn_matter_rows : Pr.fns.lookup (Str.ofString "matter_rows") = some f_matter_rows
  ln_matter_rows : L (Str.ofString "matter_rows") = []
theorem lend_matter_rows {Pr : Prg} {L : Str → List Bool} {f : Str} {k : Nat} [h : C_matter_rows Pr L] : (Pn.pgam Pr L f k).lend "matter_rows" = [] := h.ln_matter_rows
theorem pin_matter_rows {Pr : Prg} {L : Str → List Bool} {k : Nat} [h : C_matter_rows Pr L] : (Pn.pgam Pr L "matter_rows" k).pin = pinL [] := congrArg pinL h.ln_matter_rows
theorem pca_matter_rows {Pr : Prg} {L : Str → List Bool} {k : Nat} {ps : List P} [h : C_matter_rows Pr L] (hl : ps.length = 1) : pcallAt Pr L (k + 1) "matter_rows" ps [] = (prunB (Pn.pgam Pr L "matter_rows" k) f_matter_rows ps).map (finL []) := pcall_eq h.fn_matter_rows h.ln_matter_rows hl
def n_matters : List Str := ["program", "position"]
def f_matters : FD := ⟨["program", "position"], [], 2, [.ret (.idx (.call "matter_rows" [.var 0] [] []) (.var 1))]⟩
class C_matters (Pr : Prg) (L : Str → List Bool) : Prop extends C_matter_rows Pr L where
  fn_matters : Pr.fns.lookup (Str.ofString "matters") = some f_matters
  ln_matters : L (Str.ofString "matters") = []
theorem lend_matters {Pr : Prg} {L : Str → List Bool} {f : Str} {k : Nat} [h : C_matters Pr L] : (Pn.pgam Pr L f k).lend "matters" = [] := h.ln_matters
theorem pin_matters {Pr : Prg} {L : Str → List Bool} {k : Nat} [h : C_matters Pr L] : (Pn.pgam Pr L "matters" k).pin = pinL [] := congrArg pinL h.ln_matters
theorem pca_matters {Pr : Prg} {L : Str → List Bool} {k : Nat} {ps : List P} [h : C_matters Pr L] (hl : ps.length = 2) : pcallAt Pr L (k + 1) "matters" ps [] = (prunB (Pn.pgam Pr L "matters" k) f_matters ps).map (finL []) := pcall_eq h.fn_matters h.ln_matters hl
def n__law_tainted : List Str := ["items", "position", "cells", "some", "found", "item", "is_read", "cell"]
def f__law_tainted : FD := ⟨["items", "position", "cells"], [], 8, [.asg (.tp [.nm 3, .nm 4]) (.tup [.bcall .list [.var 2], .lst [.bcall .list [.var 2]]]), .for .ex [.sl (.var 0) (.var 1) .non] (.nm 5) [.asg (.nm 6) (.cmp .NotEq (.comp .ex [.call "_law_read" [.var 5] [] []] (.nm 7) [7] [.cmp .In (.var 7) (.var 3)] (.var 7)) (.lst [])), .ite (.and (.cmp .Eq (.idx (.var 5) (.int 0)) (.str "send")) (.var 6)) [.ret (.tup [.var 4, .bl true])] [], .asg (.nm 3) (.comp .ex [.var 3] (.nm 7) [7] [.cmp .NotEq (.var 7) (.call "_law_written" [.var 5] [] [])] (.var 7)), .ite (.and (.cmp .Eq (.idx (.var 5) (.int 0)) (.str "do")) (.var 6)) [.expr (.bmeth .append (.var 3) [.idx (.var 5) (.int 1)])] [], .expr (.bmeth .append (.var 4) [.var 3])], .ret (.tup [.var 4, .bl false])]⟩
class C__law_tainted (Pr : Prg) (L : Str → List Bool) : Prop extends C__law_read Pr L, C__law_written Pr L where
  fn__law_tainted : Pr.fns.lookup (Str.ofString "_law_tainted") = some f__law_tainted
  ln__law_tainted : L (Str.ofString "_law_tainted") = []
theorem lend__law_tainted {Pr : Prg} {L : Str → List Bool} {f : Str} {k : Nat} [h : C__law_tainted Pr L] : (Pn.pgam Pr L f k).lend "_law_tainted" = [] := h.ln__law_tainted
theorem pin__law_tainted {Pr : Prg} {L : Str → List Bool} {k : Nat} [h : C__law_tainted Pr L] : (Pn.pgam Pr L "_law_tainted" k).pin = pinL [] := congrArg pinL h.ln__law_tainted
theorem pca__law_tainted {Pr : Prg} {L : Str → List Bool} {k : Nat} {ps : List P} [h : C__law_tainted Pr L] (hl : ps.length = 3) : pcallAt Pr L (k + 1) "_law_tainted" ps [] = (prunB (Pn.pgam Pr L "_law_tainted" k) f__law_tainted ps).map (finL []) := pcall_eq h.fn__law_tainted h.ln__law_tainted hl
def n__law_matters : List Str := ["items", "position", "cell"]
def f__law_matters : FD := ⟨["items", "position", "cell"], [], 3, [.ret (.idx (.call "_law_tainted" [.var 0, .var 1, .lst [.var 2]] [] []) (.int 1))]⟩
class C__law_matters (Pr : Prg) (L : Str → List Bool) : Prop extends C__law_tainted Pr L where
  fn__law_matters : Pr.fns.lookup (Str.ofString "_law_matters") = some f__law_matters
  ln__law_matters : L (Str.ofString "_law_matters") = []
theorem lend__law_matters {Pr : Prg} {L : Str → List Bool} {f : Str} {k : Nat} [h : C__law_matters Pr L] : (Pn.pgam Pr L f k).lend "_law_matters" = [] := h.ln__law_matters
theorem pin__law_matters {Pr : Prg} {L : Str → List Bool} {k : Nat} [h : C__law_matters Pr L] : (Pn.pgam Pr L "_law_matters" k).pin = pinL [] := congrArg pinL h.ln__law_matters
theorem pca__law_matters {Pr : Prg} {L : Str → List Bool} {k : Nat} {ps : List P} [h : C__law_matters Pr L] (hl : ps.length = 3) : pcallAt Pr L (k + 1) "_law_matters" ps [] = (prunB (Pn.pgam Pr L "_law_matters" k) f__law_matters ps).map (finL []) := pcall_eq h.fn__law_matters h.ln__law_matters hl
def n_way_out : List Str := ["program", "position", "cell", "alive", "way", "index", "item"]
def f_way_out : FD := ⟨["program", "position", "cell"], [], 7, [.asg (.tp [.nm 3, .nm 4]) (.tup [.call "matter_rows" [.var 0] [] [], .tup []]), .ite (.cmp .NotIn (.var 2) (.idx (.var 3) (.var 1))) [.ret .non] [], .for .range [.var 1, .bcall .len [.idx (.var 0) (.int 2)]] (.nm 5) [.asg (.nm 6) (.idx (.idx (.var 0) (.int 2)) (.var 5)), .ite (.and (.cmp .In (.var 2) (.call "read_cells" [.var 6] [] [])) (.cmp .Eq (.idx (.var 6) (.int 0)) (.str "send"))) [.ret (.bin .Add (.var 4) (.tup [.var 5]))] [], .ite (.and (.cmp .In (.var 2) (.call "read_cells" [.var 6] [] [])) (.cmp .In (.call "written_cell" [.var 6] [] []) (.idx (.var 3) (.bin .Add (.var 5) (.int 1))))) [.asg (.tp [.nm 4, .nm 2]) (.tup [.bin .Add (.var 4) (.tup [.var 5]), .call "written_cell" [.var 6] [] []])] []], .ret .non]⟩
class C_way_out (Pr : Prg) (L : Str → List Bool) : Prop extends C_matter_rows Pr L, C_read_cells Pr L, C_written_cell Pr L where
  fn_way_out : Pr.fns.lookup (Str.ofString "way_out") = some f_way_out
  ln_way_out : L (Str.ofString "way_out") = []
theorem lend_way_out {Pr : Prg} {L : Str → List Bool} {f : Str} {k : Nat} [h : C_way_out Pr L] : (Pn.pgam Pr L f k).lend "way_out" = [] := h.ln_way_out
theorem pin_way_out {Pr : Prg} {L : Str → List Bool} {k : Nat} [h : C_way_out Pr L] : (Pn.pgam Pr L "way_out" k).pin = pinL [] := congrArg pinL h.ln_way_out
theorem pca_way_out {Pr : Prg} {L : Str → List Bool} {k : Nat} {ps : List P} [h : C_way_out Pr L] (hl : ps.length = 3) : pcallAt Pr L (k + 1) "way_out" ps [] = (prunB (Pn.pgam Pr L "way_out" k) f_way_out ps).map (finL []) := pcall_eq h.fn_way_out h.ln_way_out hl
def n_law_v34 : List Str := ["script", "pen", "idle", "send", "own", "rows", "items", "due", "program", "position"]
def f_law_v34 : FD := ⟨["script"], [], 10, [.asg (.nm 1) (.call "_law_pen" [.var 0] [] []), .asg (.nm 2) (.idx (.lst [.tup [.str "mark", .tup []], .tup [.str "mark", .tup [.int 0, .int 2]], .tup [.str "do", .int 3, .tup [.int 0, .int 1, .int 2]], .tup [.str "ask", .int 3]]) (.call "_law_draw" [.var 1, .int 4] [] [])), .asg (.tp [.nm 3, .nm 4]) (.tup [.tup [.str "send", .tup [.int 0]], .tup [.str "do", .int 0, .tup [.int 0, .int 1]]]), .asg (.nm 5) (.lst [.tup [.tup [.var 2, .var 3], .lst [.tup [.int 0], .tup [.int 0], .tup []]], .tup [.tup [.tup [.str "do", .int 0, .tup []], .var 2, .var 3], .lst [.tup [], .tup [.int 0], .tup [.int 0], .tup []]]]), .expr (.bmeth .append (.var 5) [.tup [.tup [.tup [.str "ask", .int 0], .var 3, .var 2], .lst [.tup [], .tup [.int 0], .tup [], .tup []]]]), .expr (.bmeth .append (.var 5) [.tup [.tup [.var 4, .var 2, .var 3], .lst [.tup [.int 0, .int 1], .tup [.int 0], .tup [.int 0], .tup []]]]), .expr (.bmeth .append (.var 5) [.tup [.tup [.tup [.str "do", .int 1, .tup [.int 0]], .tup [.str "do", .int 0, .tup [.int 2]], .var 2, .tup [.str "send", .tup [.int 0, .int 1]]], .lst [.tup [.int 0, .int 2], .tup [.int 1, .int 2], .tup [.int 0, .int 1], .tup [.int 0, .int 1], .tup []]]]), .expr (.bmeth .append (.var 5) [.tup [.tup [.tup [.str "do", .int 1, .tup [.int 0]], .tup [.str "do", .int 1, .tup []], .var 2, .tup [.str "send", .tup [.int 1]]], .lst [.tup [], .tup [], .tup [.int 1], .tup [.int 1], .tup []]]]), .expr (.bmeth .append (.var 5) [.tup [.tup [.var 3, .var 4, .var 4, .var 2], .lst [.tup [.int 0], .tup [], .tup [], .tup [], .tup []]]]), .expr (.bmeth .append (.var 5) [.tup [.tup [.tup [.str "do", .int 2, .tup [.int 0, .int 1]], .var 4, .tup [.str "send", .tup [.int 2]], .var 2], .lst [.tup [.int 0, .int 1], .tup [.int 2], .tup [.int 2], .tup [], .tup []]]]), .for .ex [.var 5] (.tp [.nm 6, .nm 7]) [.asg (.nm 8) (.tup [.int 2, .int 2, .var 6]), .ite (.cmp .NotEq (.comp .range [.bin .Add (.bcall .len [.var 6]) (.int 1)] (.nm 9) [9] [] (.call "matters" [.var 8, .var 9] [] [])) (.var 7)) [.ret (.bl false)] []], .asg (.nm 8) (.tup [.int 2, .int 2, .tup [.tup [.str "do", .int 1, .tup [.int 0]], .tup [.str "do", .int 0, .tup [.int 2]], .var 2, .tup [.str "send", .tup [.int 0, .int 1]]]]), .ite (.or (.cmp .NotEq (.call "way_out" [.var 8, .int 0, .int 0] [] []) (.tup [.int 0, .int 3])) (.or (.cmp .NotEq (.call "way_out" [.var 8, .int 0, .int 2] [] []) (.tup [.int 1, .int 3])) (.cmp .IsNot (.call "way_out" [.var 8, .int 1, .int 0] [] []) .non))) [.ret (.bl false)] [], .asg (.nm 8) (.tup [.int 2, .int 2, .tup [.var 4, .var 2, .var 4, .var 3]]), .ite (.or (.cmp .NotIn (.call "way_out" [.var 8, .int 0, .int 1] [] []) (.tup [.tup [.int 0, .int 2, .int 3], .tup [.int 2, .int 3]])) (.cmp .NotEq (.call "way_out" [.var 8, .int 0, .int 0] [] []) (.tup [.int 0, .int 2, .int 3]))) [.ret (.bl false)] [], .ret (.and (.cmp .Eq (.call "way_out" [.var 8, .int 3, .int 0] [] []) (.tup [.int 3])) (.and (.cmp .Is (.call "way_out" [.var 8, .int 4, .int 0] [] []) .non) (.cmp .Is (.call "way_out" [.var 8, .int 0, .int 3] [] []) .non)))]⟩
class C_law_v34 (Pr : Prg) (L : Str → List Bool) : Prop extends C__law_pen Pr L, C__law_draw Pr L, C_way_out Pr L, C_matters Pr L where
  fn_law_v34 : Pr.fns.lookup (Str.ofString "law") = some f_law_v34
  ln_law_v34 : L (Str.ofString "law") = []
theorem lend_law_v34 {Pr : Prg} {L : Str → List Bool} {f : Str} {k : Nat} [h : C_law_v34 Pr L] : (Pn.pgam Pr L f k).lend "law" = [] := h.ln_law_v34
theorem pin_law_v34 {Pr : Prg} {L : Str → List Bool} {k : Nat} [h : C_law_v34 Pr L] : (Pn.pgam Pr L "law" k).pin = pinL [] := congrArg pinL h.ln_law_v34
theorem pca_law_v34 {Pr : Prg} {L : Str → List Bool} {k : Nat} {ps : List P} [h : C_law_v34 Pr L] (hl : ps.length = 1) : pcallAt Pr L (k + 1) "law" ps [] = (prunB (Pn.pgam Pr L "law" k) f_law_v34 ps).map (finL []) := pcall_eq h.fn_law_v34 h.ln_law_v34 hl
end Mn
end -- Fns
section -- Px2
set_option linter.all false
set_option autoImplicit false
set_option maxRecDepth 100000
namespace Mn
open PySem L2
open Classical in
noncomputable instance pvDec : DecidableEq Pv := fun a b => propDecidable (a = b)
/-! ### values without truth values and references -/
mutual
def nice : Pv → Bool
  | .non => true
  | .int _ => true
  | .str s => PyData.strOk s
  | .tup vs => nices vs
  | _ => false
def nices : List Pv → Bool
  | [] => true
  | v :: vs => nice v && nices vs
end
theorem nices_all : ∀ {vs : List Pv}, nices vs = true ↔ ∀ v ∈ vs, nice v = true
  | [] => by simp [nices]
  | v :: vs => by simp [nices, nices_all (vs := vs)]
mutual
theorem nice_dat (k : Nat) : ∀ {v : Pv}, nice v = true → ∃ d, vdat k v = some d ∧ d = pvd v ∧ d.canLay0 = true ∧ d.depth = pkdepth v
  | .non, _ => ⟨.none, rfl, rfl, rfl, rfl⟩
  | .int i, _ => ⟨.int i, rfl, rfl, rfl, rfl⟩
  | .str s, h => ⟨.str s, rfl, rfl, h, rfl⟩
  | .tup vs, h => by
    obtain ⟨ds, h1, h2, h3, h4⟩ := nices_dat k (vs := vs) h
    have h0 : vdats 0 vs = some ds := h2
    refine ⟨.tuple ds, by show (vdats k vs).map _ = _; rw [h1]; rfl, ?_, h3, ?_⟩
    · show _ = ((vdats 0 vs).map PyData.tuple).getD .none
      rw [h0]; rfl
    · show PyData.depthAll ds + 1 = pkdepths vs + 1
      rw [h4]
  | .bl _, h => by cases h
  | .lst _, h => by cases h
  | .rol _, h => by cases h
  | .dct _, h => by cases h
  | .ins _ _, h => by cases h
  | .ty _, h => by cases h
  | .glo _, h => by cases h
theorem nices_dat (k : Nat) : ∀ {vs : List Pv}, nices vs = true → ∃ ds, vdats k vs = some ds ∧ vdats 0 vs = some ds ∧ PyData.canLayAll0 ds = true ∧ PyData.depthAll ds = pkdepths vs
  | [], _ => ⟨[], rfl, rfl, rfl, rfl⟩
  | v :: vs, h => by
    have h : (nice v && nices vs) = true := h
    rw [Bool.and_eq_true] at h
    obtain ⟨d, a1, a2, a3, a4⟩ := nice_dat k h.1
    obtain ⟨d0, c1, c2, c3, c4⟩ := nice_dat 0 h.1
    obtain ⟨ds, b1, b2, b3, b4⟩ := nices_dat k h.2
    have e0 : d0 = d := c2.trans a2.symm
    refine ⟨d :: ds, ?_, ?_, ?_, ?_⟩
    · show (match vdat k v, vdats k vs with | some d, some ds => some (d :: ds) | _, _ => none) = _
      rw [a1, b1]
    · show (match vdat 0 v, vdats 0 vs with | some d, some ds => some (d :: ds) | _, _ => none) = _
      rw [c1, b2, e0]
    · show (d.canLay0 && PyData.canLayAll0 ds) = true
      rw [a3, b3]; rfl
    · show max d.depth (PyData.depthAll ds) = max (pkdepth v) (pkdepths vs)
      rw [a4, b4]
end
mutual
theorem nice_eqv : ∀ {v w : Pv}, nice v = true → nice w = true → (PyData.eqv (pvd v) (pvd w) = true ↔ v = w)
  | .non, w, _, hw => by
    cases w with
    | non => exact ⟨fun _ => rfl, fun _ => rfl⟩
    | int _ => exact ⟨fun h => (nomatch h), fun h => (nomatch h)⟩
    | str _ => exact ⟨fun h => (nomatch h), fun h => (nomatch h)⟩
    | tup vs =>
      obtain ⟨d, h1, h2, h3, h4⟩ := nice_dat 0 hw
      refine ⟨fun h => ?_, fun h => (nomatch h)⟩
      have : ∃ ds, pvd (.tup vs) = .tuple ds := by
        have h1 : (vdats 0 vs).map PyData.tuple = some d := h1
        cases hd : vdats 0 vs with
        | none => rw [hd] at h1; cases h1
        | some ds => rw [hd] at h1; cases h1; exact ⟨ds, h2.symm⟩
      obtain ⟨ds, hds⟩ := this
      rw [hds] at h; cases h
    | _ => cases hw
  | .int i, w, _, hw => by
    cases w with
    | non => exact ⟨fun h => (nomatch h), fun h => (nomatch h)⟩
    | int j =>
      show PyData.eqv (.int i) (.int j) = true ↔ _
      simp only [PyData.eqv, beq_iff_eq, Pv.int.injEq]
    | str _ => exact ⟨fun h => (nomatch h), fun h => (nomatch h)⟩
    | tup vs =>
      obtain ⟨d, h1, h2, h3, h4⟩ := nice_dat 0 hw
      refine ⟨fun h => ?_, fun h => (nomatch h)⟩
      have : ∃ ds, pvd (.tup vs) = .tuple ds := by
        have h1 : (vdats 0 vs).map PyData.tuple = some d := h1
        cases hd : vdats 0 vs with
        | none => rw [hd] at h1; cases h1
        | some ds => rw [hd] at h1; cases h1; exact ⟨ds, h2.symm⟩
      obtain ⟨ds, hds⟩ := this
      rw [hds] at h; cases h
    | _ => cases hw
  | .str s, w, _, hw => by
    cases w with
    | non => exact ⟨fun h => (nomatch h), fun h => (nomatch h)⟩
    | int _ => exact ⟨fun h => (nomatch h), fun h => (nomatch h)⟩
    | str t =>
      show PyData.eqv (.str s) (.str t) = true ↔ _
      simp only [PyData.eqv, beq_iff_eq, Pv.str.injEq]
    | tup vs =>
      obtain ⟨d, h1, h2, h3, h4⟩ := nice_dat 0 hw
      refine ⟨fun h => ?_, fun h => (nomatch h)⟩
      have : ∃ ds, pvd (.tup vs) = .tuple ds := by
        have h1 : (vdats 0 vs).map PyData.tuple = some d := h1
        cases hd : vdats 0 vs with
        | none => rw [hd] at h1; cases h1
        | some ds => rw [hd] at h1; cases h1; exact ⟨ds, h2.symm⟩
      obtain ⟨ds, hds⟩ := this
      rw [hds] at h; cases h
    | _ => cases hw
  | .tup vs, w, hv, hw => by
    obtain ⟨ds, a1, a2, _⟩ := nices_dat 0 (vs := vs) hv
    have ev : pvd (.tup vs) = .tuple ds := by show ((vdats 0 vs).map PyData.tuple).getD .none = _; rw [a1]; rfl
    cases w with
    | non => rw [ev]; exact ⟨fun h => (nomatch h), fun h => (nomatch h)⟩
    | int _ => rw [ev]; exact ⟨fun h => (nomatch h), fun h => (nomatch h)⟩
    | str _ => rw [ev]; exact ⟨fun h => (nomatch h), fun h => (nomatch h)⟩
    | tup ws =>
      obtain ⟨es, b1, b2, _⟩ := nices_dat 0 (vs := ws) hw
      have ew : pvd (.tup ws) = .tuple es := by show ((vdats 0 ws).map PyData.tuple).getD .none = _; rw [b1]; rfl
      rw [ev, ew]
      show PyData.eqvAll ds es = true ↔ _
      have e1 := (Pn.vdats_mem a1).1
      have e2 := (Pn.vdats_mem b1).1
      rw [e1, e2, nices_eqv hv hw, Pv.tup.injEq]
    | _ => cases hw
  | .bl _, _, h, _ => by cases h
  | .lst _, _, h, _ => by cases h
  | .rol _, _, h, _ => by cases h
  | .dct _, _, h, _ => by cases h
  | .ins _ _, _, h, _ => by cases h
  | .ty _, _, h, _ => by cases h
  | .glo _, _, h, _ => by cases h
theorem nices_eqv : ∀ {vs ws : List Pv}, nices vs = true → nices ws = true → (PyData.eqvAll (vs.map pvd) (ws.map pvd) = true ↔ vs = ws)
  | [], [], _, _ => ⟨fun _ => rfl, fun _ => rfl⟩
  | [], _ :: _, _, _ => ⟨fun h => (nomatch h), fun h => (nomatch h)⟩
  | _ :: _, [], _, _ => ⟨fun h => (nomatch h), fun h => (nomatch h)⟩
  | v :: vs, w :: ws, hv, hw => by
    have hv : (nice v && nices vs) = true := hv
    have hw : (nice w && nices ws) = true := hw
    rw [Bool.and_eq_true] at hv hw
    show (PyData.eqv (pvd v) (pvd w) && PyData.eqvAll (vs.map pvd) (ws.map pvd)) = true ↔ _
    rw [Bool.and_eq_true, nice_eqv hv.1 hw.1, nices_eqv hv.2 hw.2, List.cons.injEq]
end
theorem nice_shaped {v : Pv} (h : nice v = true) (hd : pkdepth v ≤ 64) : vdat 6 v = some (pvd v) ∧ SeqAt.shaped (pvd v) = true := by
  obtain ⟨d, a1, rfl, a3, a4⟩ := nice_dat 6 h
  refine ⟨a1, ?_⟩
  unfold SeqAt.shaped
  rw [a3, decide_eq_true (by rw [a4]; exact hd)]; rfl
/-- a value that may be compared -/
structure Ni (v : Pv) : Prop where
  n : nice v = true
  d : pkdepth v ≤ 60
theorem veq_ni {v w : Pv} (hv : Ni v) (hw : Ni w) : pcmp .Eq v w = some (decide (v = w)) := by
  have key : pveqD v w = some (decide (v = w)) := by
    obtain ⟨a1, a2⟩ := nice_shaped hv.n (Nat.le_trans hv.d (by omega))
    obtain ⟨b1, b2⟩ := nice_shaped hw.n (Nat.le_trans hw.d (by omega))
    unfold pveqD
    rw [a1, b1]
    dsimp only
    rw [a2, b2]
    show some _ = _
    exact congrArg some (Bool.eq_iff_iff.mpr (by rw [nice_eqv hv.n hw.n, decide_eq_true_eq]))
  show pveq v w = _
  unfold pveq
  split
  · exact congrArg some (Bool.eq_iff_iff.mpr (by simp))
  · exact key
theorem kdepths_le {c : Nat} : ∀ {vs : List Pv}, (∀ v ∈ vs, pkdepth v ≤ c) → pkdepths vs ≤ c
  | [], _ => Nat.zero_le _
  | v :: vs, h => Nat.max_le.mpr ⟨h v List.mem_cons_self, kdepths_le fun w hw => h w (List.mem_cons_of_mem _ hw)⟩
theorem kdepths_mem {c : Nat} : ∀ {vs : List Pv}, pkdepths vs ≤ c → ∀ v ∈ vs, pkdepth v ≤ c
  | v :: vs, h, w, hw => by
    have h := Nat.max_le.mp (show max (pkdepth v) (pkdepths vs) ≤ c from h)
    rcases List.mem_cons.mp hw with rfl | hw
    · exact h.1
    · exact kdepths_mem h.2 w hw
theorem vin_ni {v : Pv} {ws : List Pv} (hv : Ni v) (hw : ∀ w ∈ ws, Ni w) : pvin v ws = some (decide (v ∈ ws)) := by
  obtain ⟨a1, a2⟩ := nice_shaped hv.n (Nat.le_trans hv.d (by omega))
  have hn : nices ws = true := nices_all.mpr fun w h => (hw w h).n
  obtain ⟨ds, b1, b2, b3, b4⟩ := nices_dat 6 hn
  unfold pvin
  rw [a1, b1]
  dsimp only
  have sh : SeqAt.shaped (.list ds) = true := by
    show (PyData.canLayAll0 ds && decide (PyData.depthAll ds + 1 ≤ 64)) = true
    rw [b3, decide_eq_true (by
      rw [b4]
      have := kdepths_le (c := 60) fun w h => (hw w h).d
      omega)]; rfl
  rw [a2, sh]
  show some _ = _
  refine congrArg some (Bool.eq_iff_iff.mpr ?_)
  rw [(Pn.vdats_mem b2).1, List.any_map, List.any_eq_true, decide_eq_true_eq]
  constructor
  · rintro ⟨w, h1, h2⟩
    have := (nice_eqv (hw w h1).n hv.n).mp h2
    rw [← this]; exact h1
  · intro h
    exact ⟨v, h, (nice_eqv hv.n hv.n).mpr rfl⟩
theorem in_tup {v : Pv} {ws : List Pv} (hv : Ni v) (hw : ∀ w ∈ ws, Ni w) : pcin v (.tup ws) = some (decide (v ∈ ws)) := vin_ni hv hw
theorem in_lst {v : Pv} {ws : List Pv} (hv : Ni v) (hw : ∀ w ∈ ws, Ni w) : pcin v (.lst ws) = some (decide (v ∈ ws)) := vin_ni hv hw
theorem ni_int (i : Int) : Ni (.int i) := ⟨rfl, Nat.zero_le _⟩
theorem ni_non : Ni .non := ⟨rfl, Nat.zero_le _⟩
theorem ni_str {s : Str} (h : PyData.strOk s = true) : Ni (.str s) := ⟨h, Nat.zero_le _⟩
/-- depth bounded, for tuples -/
structure Nd (c : Nat) (v : Pv) : Prop where
  n : nice v = true
  d : pkdepth v ≤ c
theorem Nd.ni {c : Nat} {v : Pv} (h : Nd c v) (hc : c ≤ 60) : Ni v := ⟨h.n, Nat.le_trans h.d hc⟩
theorem Nd.mono {c d : Nat} {v : Pv} (h : Nd c v) (hc : c ≤ d) : Nd d v := ⟨h.n, Nat.le_trans h.d hc⟩
theorem nd_int {c : Nat} (i : Int) : Nd c (.int i) := ⟨rfl, Nat.zero_le _⟩
theorem nd_non {c : Nat} : Nd c .non := ⟨rfl, Nat.zero_le _⟩
theorem nd_str {c : Nat} {s : Str} (h : PyData.strOk s = true) : Nd c (.str s) := ⟨h, Nat.zero_le _⟩
theorem nd_tup {c : Nat} {vs : List Pv} (h : ∀ v ∈ vs, Nd c v) : Nd (c + 1) (.tup vs) := ⟨nices_all.mpr fun v hv => (h v hv).n, Nat.succ_le_succ (kdepths_le fun v hv => (h v hv).d)⟩
theorem nd_map {α : Type} {c : Nat} {f : α → Pv} {xs : List α} (h : ∀ x ∈ xs, Nd c (f x)) : ∀ v ∈ xs.map f, Nd c v := fun v hv => by
  obtain ⟨x, h1, rfl⟩ := List.mem_map.mp hv; exact h x h1
theorem nd_nil {c : Nat} : ∀ v ∈ ([] : List Pv), Nd c v := fun v hv => by cases hv
theorem nd_cons {c : Nat} {v : Pv} {vs : List Pv} (h : Nd c v) (hs : ∀ w ∈ vs, Nd c w) : ∀ w ∈ v :: vs, Nd c w := fun w hw => by
  rcases List.mem_cons.mp hw with rfl | hw
  · exact h
  · exact hs w hw
/-! ### ints -/
theorem mem_int {c : Int} {xs : List Int} : (Pv.int c ∈ xs.map Pv.int) ↔ c ∈ xs := by
  constructor
  · intro h; obtain ⟨x, h1, h2⟩ := List.mem_map.mp h; cases h2; exact h1
  · intro h; exact List.mem_map.mpr ⟨c, h, rfl⟩
theorem vin_int {c : Int} {xs : List Int} : pvin (.int c) (xs.map .int) = some (decide (c ∈ xs)) := by
  rw [vin_ni (ni_int c) fun w hw => by obtain ⟨x, _, rfl⟩ := List.mem_map.mp hw; exact ni_int x]
  exact congrArg some (Bool.eq_iff_iff.mpr (by simp only [decide_eq_true_eq, mem_int]))
theorem in_int_t {c : Int} {xs : List Int} : pcin (.int c) (.tup (xs.map .int)) = some (decide (c ∈ xs)) := vin_int
theorem in_int_l {c : Int} {xs : List Int} : pcin (.int c) (.lst (xs.map .int)) = some (decide (c ∈ xs)) := vin_int
def sortI (xs : List Int) : List Int := xs.mergeSort fun a b => decide (a ≤ b)
theorem pvle_int (i j : Int) : pvle (.int i) (.int j) = decide (i ≤ j) := by
  show (!PySem.W.dataLt (.int j) (.int i)) = _
  rw [PySem.W.dataLt_int, Bool.eq_iff_iff]
  simp
theorem vdats_int (k : Nat) : ∀ xs : List Int, vdats k (xs.map .int) = some (xs.map .int)
  | [] => rfl
  | x :: xs => by
    show (match vdat k (.int x), vdats k (xs.map .int) with | some d, some ds => some (d :: ds) | _, _ => none) = _
    rw [vdats_int k xs]; rfl
theorem sort_int {xs : List Int} (h : xs.length ≤ 1000000) : pvsort (xs.map .int) = some ((sortI xs).map .int) := by
  unfold pvsort
  rw [vdats_int]
  dsimp only
  rw [sortable_ints, decide_eq_true (by rw [List.length_map]; exact h), msrt_eq pvle _ _ (Nat.le_refl _)]
  show some ((xs.map Pv.int).mergeSort pvle) = _
  unfold sortI
  rw [List.map_mergeSort (s := pvle) fun a _ b _ => (pvle_int a b).symm]
theorem alikes_int {xs : List Int} : palikes (xs.map .int) = true := by
  unfold palikes; rw [vdats_int]; exact sortable_ints xs
theorem bs_sorted {x : Pv} : pbcall .sorted [x] = (plstOf x).bind fun vs => (pvsort vs).map .ol := by
  show (match plstOf x with | some vs => (pvsort vs).map P.ol | none => none) = _
  cases plstOf x <;> rfl
theorem sorted_int {xs : List Int} (h : xs.length ≤ 1000000) : pbcall .sorted [.lst (xs.map .int)] = some (.ol ((sortI xs).map .int)) := by
  rw [bs_sorted]
  show (pvsort (xs.map .int)).map P.ol = _
  rw [sort_int h]; rfl
theorem bs_tuple_l {vs : List Pv} : pbcall .tuple [.lst vs] = some (.fz (.tup vs)) := (rfl)
theorem bs_tuple_t {vs : List Pv} : pbcall .tuple [.tup vs] = some (.fz (.tup vs)) := (rfl)
theorem bs_list_l {vs : List Pv} : pbcall .list [.lst vs] = some (.ol vs) := (rfl)
theorem bs_list_t {vs : List Pv} : pbcall .list [.tup vs] = some (.ol vs) := (rfl)
theorem bs_list_d {kvs : List (Pv × Pv)} : pbcall .list [.dct kvs] = some (.ol (kvs.map (·.1))) := (rfl)
theorem bs_int {i : Int} : pbcall .int [.int i] = some (.fz (.int i)) := (rfl)
theorem bs_abs {i : Int} : pbcall .abs [.int i] = some (.fz (.int (if i < 0 then -i else i))) := (rfl)
theorem bs_len_l {vs : List Pv} : pbcall .len [.lst vs] = some (.fz (.int vs.length)) := (rfl)
theorem bs_len_r {vs : List Pv} : pbcall .len [.rol vs] = some (.fz (.int vs.length)) := (rfl)
theorem bs_len_t {vs : List Pv} : pbcall .len [.tup vs] = some (.fz (.int vs.length)) := (rfl)
theorem bs_len_d {vs : List (Pv × Pv)} : pbcall .len [.dct vs] = some (.fz (.int vs.length)) := (rfl)
theorem bs_min2 {i j : Int} : pbcall .min [.int i, .int j] = some (.fz (.int (min i j))) := by
  show some (P.fz (.int (if j < i then j else i))) = _
  congr 3
  by_cases h : j < i
  · rw [if_pos h]; omega
  · rw [if_neg h]; omega
theorem bs_max2 {i j : Int} : pbcall .max [.int i, .int j] = some (.fz (.int (max i j))) := by
  show some (P.fz (.int (if j > i then j else i))) = _
  congr 3
  by_cases h : j > i
  · rw [if_pos h]; omega
  · rw [if_neg h]; omega
theorem pvd_int (i : Int) : pvd (.int i) = .int i := (rfl)
theorem minI : ∀ (xs : List Int) (m : Int), (xs.map Pv.int).foldl (fun m x => if PySem.W.dataLt (pvd x) (pvd m) then x else m) (.int m) = .int (xs.foldl min m)
  | [], m => rfl
  | x :: xs, m => by
    simp only [List.map_cons, List.foldl_cons]
    rw [show PySem.W.dataLt (pvd (.int x)) (pvd (.int m)) = decide (x < m) from PySem.W.dataLt_int x m]
    by_cases h : x < m
    · rw [if_pos (decide_eq_true h), minI xs x, show min m x = x from by omega]
    · rw [if_neg (by simpa using h), minI xs m, show min m x = m from by omega]
theorem maxI : ∀ (xs : List Int) (m : Int), (xs.map Pv.int).foldl (fun m x => if PySem.W.dataLt (pvd m) (pvd x) then x else m) (.int m) = .int (xs.foldl max m)
  | [], m => rfl
  | x :: xs, m => by
    simp only [List.map_cons, List.foldl_cons]
    rw [show PySem.W.dataLt (pvd (.int m)) (pvd (.int x)) = decide (m < x) from PySem.W.dataLt_int m x]
    by_cases h : m < x
    · rw [if_pos (decide_eq_true h), maxI xs x, show max m x = x from by omega]
    · rw [if_neg (by simpa using h), maxI xs m, show max m x = m from by omega]
theorem bs_min_l {x : Int} {xs : List Int} : pbcall .min [.lst ((x :: xs).map .int)] = some (.fz (.int (xs.foldl min x))) := by
  show (if palikes ((x :: xs).map .int) then (pvmin ((x :: xs).map .int)).map P.fz else none) = _
  rw [if_pos alikes_int]
  show some (P.fz _) = _
  rw [minI]
theorem bs_max_l {x : Int} {xs : List Int} : pbcall .max [.lst ((x :: xs).map .int)] = some (.fz (.int (xs.foldl max x))) := by
  show (if palikes ((x :: xs).map .int) then (pvmax ((x :: xs).map .int)).map P.fz else none) = _
  rw [if_pos alikes_int]
  show some (P.fz _) = _
  rw [maxI]
theorem pbools_map {α : Type} {f : α → Bool} : ∀ xs : List α, pbools (xs.map fun x => .bl (f x)) = some (xs.map f)
  | [] => rfl
  | x :: xs => by show (pbools (xs.map fun x => .bl (f x))).map (f x :: ·) = _; rw [pbools_map xs]; rfl
theorem bs_all {α : Type} {f : α → Bool} {xs : List α} : pbcall .all [.lst (xs.map fun x => .bl (f x))] = some (.fz (.bl (xs.all f))) := by
  show (pbools (xs.map fun x => .bl (f x))).map (fun bs => P.fz (.bl (bs.all id))) = _
  rw [pbools_map]
  show some (P.fz (.bl ((xs.map f).all id))) = _
  rw [List.all_map]; rfl
theorem bs_any {α : Type} {f : α → Bool} {xs : List α} : pbcall .any [.lst (xs.map fun x => .bl (f x))] = some (.fz (.bl (xs.any f))) := by
  show (pbools (xs.map fun x => .bl (f x))).map (fun bs => P.fz (.bl (bs.any id))) = _
  rw [pbools_map]
  show some (P.fz (.bl ((xs.map f).any id))) = _
  rw [List.any_map]; rfl
theorem pixV_of {vs : List Pv} {j : Int} {n : Nat} {v : Pv} (hj : j = n) (h : vs[n]? = some v) : pixV vs j = some v := by
  have hl := (List.getElem?_eq_some_iff.mp h).1
  unfold pixV
  rw [hj, ix_nat (by omega) (by omega)]
  exact h
theorem pixV_last {vs : List Pv} {v : Pv} : pixV (vs ++ [v]) (-1) = some v := by
  have h : ixOf (-1) (vs ++ [v]).length = some vs.length := by
    unfold ixOf
    rw [if_neg (by omega), if_pos (by simp; omega)]
    simp only [List.length_append, List.length_cons, List.length_nil]
    congr 1
    omega
  unfold pixV
  rw [h]
  simp
/-! ### sources -/
theorem pirange_eq : ∀ (n : Nat) (lo : Int), pirange lo n = (List.range n).map fun i : Nat => .int (lo + i)
  | 0, _ => rfl
  | n + 1, lo => by
    rw [List.range_succ_eq_map, List.map_cons, List.map_map]
    show Pv.int lo :: pirange (lo + 1) n = _
    rw [pirange_eq n]
    congr 1
    · simp
    · apply List.map_congr_left
      intro i _
      simp only [Function.comp]
      congr 1
      omega
theorem rg1 {j : Int} (h : j < 4611686018427387904) (h0 : -4611686018427387904 ≤ j) : prangeOf [.int j] = some ((List.range j.toNat).map fun i : Nat => .int i) := by
  show (if smallI j then some (pirange 0 j.toNat) else none) = _
  rw [if_pos (by unfold smallI; exact decide_eq_true (by omega)), pirange_eq]
  simp
theorem rg2 {i j : Int} (h : j < 4611686018427387904) (h0 : -4611686018427387904 ≤ j) (h1 : i < 4611686018427387904) (h2 : -4611686018427387904 ≤ i) : prangeOf [.int i, .int j] = some ((List.range (j - i).toNat).map fun k : Nat => .int (i + k)) := by
  show (if smallI i && smallI j then some (pirange i (j - i).toNat) else none) = _
  rw [if_pos (by unfold smallI; rw [decide_eq_true (by omega), decide_eq_true (by omega)]; rfl), pirange_eq]
theorem srcR {vs : List Pv} : psrc .range vs = prangeOf vs := by unfold psrc; split <;> first | rfl | (rename_i h; cases h)
theorem src_t {vs : List Pv} : psrc .ex [.tup vs] = some vs := (rfl)
theorem src_l {vs : List Pv} : psrc .ex [.lst vs] = some vs := (rfl)
theorem src_rev_t {vs : List Pv} : psrc .rev [.tup vs] = some vs.reverse := (rfl)
theorem src_rev_l {vs : List Pv} : psrc .rev [.lst vs] = some vs.reverse := (rfl)
theorem src_enum_t {vs : List Pv} : psrc .enum [.tup vs] = some (vs.zipIdx.map fun p => .tup [.int p.2, p.1]) := (rfl)
theorem src_enum_l {vs : List Pv} : psrc .enum [.lst vs] = some (vs.zipIdx.map fun p => .tup [.int p.2, p.1]) := (rfl)
theorem zipIdx_map' {α : Type} {enc : α → Pv} {xs : List α} : ((xs.map enc).zipIdx.map fun p => Pv.tup [.int p.2, p.1]) = xs.zipIdx.map fun p => .tup [.int p.2, enc p.1] := by
  rw [List.zipIdx_map, List.map_map]; rfl
/-! ### comprehensions -/
def wipO {α : Type} (own : List Nat) : PO α → PO α
  | .ok a ρ => .ok a (pwipe ρ own)
  | .stuck => .stuck
theorem wipO_ok {α : Type} {own : List Nat} {a : α} {ρ : PEnv} : wipO own (.ok a ρ) = .ok a (pwipe ρ own) := (rfl)
theorem wipO_ite {α : Type} {own : List Nat} {c : Prop} [Decidable c] {a b : PO α} : wipO own (if c then a else b) = if c then wipO own a else wipO own b := by split <;> rfl
def itO (b : Bool) (f g : Unit → PO (Option Pv)) : PO (Option Pv) := if b then f () else g ()
theorem itO_t {f g : Unit → PO (Option Pv)} : itO true f g = f () := (rfl)
theorem itO_f {f g : Unit → PO (Option Pv)} : itO false f g = g () := (rfl)
theorem itO_e {f g : Unit → PO (Option Pv)} {q : Prop} [Decidable q] : itO (decide q) f g = if q then f () else g () := by by_cases h : q <;> simp [itO, h]
theorem itO_d {f g : Unit → PO (Option Pv)} {b : Bool} : itO b f g = if b then f () else g () := (rfl)
def kTurn3 (v : Pv) (ρ : PEnv) : PO (Option Pv) := .ok (some v) ρ
theorem kTurn3_eq {v : Pv} {ρ : PEnv} : kTurn3 v ρ = .ok (some v) ρ := (rfl)
def kTurn2 (r : R) (ρ : PEnv) : PO (Option Pv) := (tk r ρ).bind kTurn3
theorem kTurn2_eq {r : R} {ρ : PEnv} : kTurn2 r ρ = (tk r ρ).bind kTurn3 := (rfl)
def tTurn (Γ : PGam) (elt : E) (ρ : PEnv) (u : Unit) : PO (Option Pv) := (pE Γ elt ρ).bind kTurn2
theorem tTurn_eq {Γ : PGam} {elt : E} {ρ : PEnv} {u : Unit} : tTurn Γ elt ρ u = (pE Γ elt ρ).bind kTurn2 := (rfl)
def tNone (ρ : PEnv) (u : Unit) : PO (Option Pv) := .ok none ρ
theorem tNone_eq {ρ : PEnv} {u : Unit} : tNone ρ u = .ok none ρ := (rfl)
def kTurn (Γ : PGam) (elt : E) (b : Bool) (ρ : PEnv) : PO (Option Pv) := itO b (tTurn Γ elt ρ) (tNone ρ)
theorem kTurn_eq {Γ : PGam} {elt : E} {b : Bool} {ρ : PEnv} : kTurn Γ elt b ρ = itO b (tTurn Γ elt ρ) (tNone ρ) := (rfl)
def turnB (Γ : PGam) (cs : List E) (elt : E) (ρ : PEnv) : PO (Option Pv) := (pC Γ cs ρ).bind (kTurn Γ elt)
theorem turnB_eq {Γ : PGam} {cs : List E} {elt : E} {ρ : PEnv} : turnB Γ cs elt ρ = (pC Γ cs ρ).bind (kTurn Γ elt) := (rfl)
def asgB {α : Type} (f : PEnv → PO α) (o : Option PEnv) : PO α := match o with | some ρ => f ρ | none => .stuck
theorem asgB_some {α : Type} {f : PEnv → PO α} {ρ : PEnv} : asgB f (some ρ) = f ρ := (rfl)
/-- a turn of a comprehension -/
def kturn (Γ : PGam) (t : T) (own : List Nat) (cs : List E) (elt : E) (v : Pv) (ρ : PEnv) : PO (Option Pv) := wipO own (asgB (turnB Γ cs elt) (pasgT (pinO own) t v (pwipe ρ own)))
theorem kturn_eq {Γ : PGam} {t : T} {own : List Nat} {cs : List E} {elt : E} {v : Pv} {ρ : PEnv} : kturn Γ t own cs elt v ρ = wipO own (asgB (turnB Γ cs elt) (pasgT (pinO own) t v (pwipe ρ own))) := (rfl)
theorem wipe_wipe (own : List Nat) (ρ : PEnv) : pwipe (pwipe ρ own) own = pwipe ρ own := by
  apply List.ext_getElem?
  intro i
  have key : ∀ (l : List Nat) (ρ : PEnv), (pwipe ρ l)[i]? = if i ∈ l then (ρ[i]?).map (fun _ => none) else ρ[i]? := by
    intro l
    induction l with
    | nil => intro ρ; simp [pwipe]
    | cons x l ih =>
      intro ρ
      show ((pwipe ρ l).set x none)[i]? = _
      by_cases h : x = i
      · subst h
        by_cases hl : x < ρ.length
        · rw [List.getElem?_set_self (by rw [Pn.pwipe_len]; exact hl)]; simp [hl]
        · rw [List.getElem?_eq_none (by simp [Pn.pwipe_len]; omega), List.getElem?_eq_none (by omega)]; simp
      · rw [List.getElem?_set_ne h, ih]
        have : (i ∈ x :: l) ↔ i ∈ l := by rw [List.mem_cons]; exact ⟨fun z => z.elim (fun e => (h e.symm).elim) id, .inr⟩
        simp only [this]
  rw [key, key]
  split
  · cases ρ[i]? <;> rfl
  · rfl
theorem prst_wipe {ρ0 : PEnv} : ∀ (own : List Nat) {ρ ρ' : PEnv}, pwipe ρ own = pwipe ρ' own → prst ρ0 ρ own = prst ρ0 ρ' own := by
  intro own ρ ρ' h
  have len : ρ.length = ρ'.length := by
    have := congrArg List.length h
    rwa [Pn.pwipe_len, Pn.pwipe_len] at this
  apply List.ext_getElem?
  intro i
  have key : ∀ (l : List Nat) (ρ : PEnv), i ∉ l → (prst ρ0 ρ l)[i]? = ρ[i]? := by
    intro l
    induction l with
    | nil => intro ρ _; rfl
    | cons x l ih =>
      intro ρ hi
      rw [List.mem_cons, not_or] at hi
      show ((prst ρ0 ρ l).set x _)[i]? = _
      rw [List.getElem?_set_ne (fun z => hi.1 z.symm), ih ρ hi.2]
  by_cases hi : i ∈ own
  · have key2 : ∀ (l : List Nat) (ρ : PEnv), i ∈ l → (prst ρ0 ρ l)[i]? = (ρ[i]?).map fun _ => rst1 ρ0[i]? := by
      intro l
      induction l with
      | nil => intro ρ h; cases h
      | cons x l ih =>
        intro ρ h
        show ((prst ρ0 ρ l).set x (rst1 ρ0[x]?))[i]? = _
        by_cases hx : x = i
        · subst hx
          by_cases hl : x < ρ.length
          · rw [List.getElem?_set_self (by rw [Pn.prst_len]; exact hl)]; simp [hl]
          · rw [show ρ[x]? = none from List.getElem?_eq_none (by omega), List.getElem?_eq_none (by rw [List.length_set, Pn.prst_len]; omega)]; rfl
        · rw [List.getElem?_set_ne hx, ih ρ (by rcases List.mem_cons.mp h with h | h; · exact (hx h.symm).elim
                                                · exact h)]
    rw [key2 own ρ hi, key2 own ρ' hi]
    by_cases hl : i < ρ.length
    · rw [show ρ[i]? = some ρ[i] from List.getElem?_eq_getElem hl, show ρ'[i]? = some (ρ'[i]'(by omega)) from List.getElem?_eq_getElem (by omega)]; rfl
    · rw [show ρ[i]? = none from List.getElem?_eq_none (by omega), show ρ'[i]? = none from List.getElem?_eq_none (by omega)]
  · rw [key own ρ hi, key own ρ' hi, ← Pn.pwipe_ne (σ := ρ) hi, ← Pn.pwipe_ne (σ := ρ') hi, h]
/-- a comprehension that hands on a state: E the names, s what they hold -/
theorem kcomp_st {α β σ : Type} {Γ : PGam} {t : T} {own : List Nat} {cs : List E} {elt : E} {enc : α → Pv} {xs : List α} {ρ : PEnv} (En : σ → PEnv) (I : σ → Prop) (e : β → Pv) (P : α → β → Prop) {s0 : σ}
    (h : ∀ x ∈ xs, ∀ s, I s → ∃ y s', kturn Γ t own cs elt (enc x) (En s) = .ok (some (e y)) (pwipe (En s') own) ∧ P x y ∧ I s') (hI : I s0) (h0 : ρ = En s0) (hl : xs.length ≤ 1000000) :
    ∃ ys s', kcomp Γ t own cs elt (some (xs.map enc)) ρ = .ok (.v (.ol (ys.map e))) (prst ρ (En s') own) ∧ Paired P xs ys ∧ I s' := by
  have go : ∀ (l : List α) (ρ : PEnv) (s : σ), (∀ x ∈ l, x ∈ xs) → I s → pwipe ρ own = pwipe (En s) own → ∃ ys s' ρ', pcompL (fun ρ => turnB Γ cs elt ρ) own t (l.map enc) ρ = .ok (ys.map e) ρ' ∧ Paired P l ys ∧ I s' ∧ pwipe ρ' own = pwipe (En s') own := by
    intro l
    induction l with
    | nil => intro ρ s _ hs hw; exact ⟨[], s, ρ, rfl, .nil, hs, hw⟩
    | cons x l ih =>
      intro ρ s hx hs hw
      obtain ⟨y, s1, e1, p1, i1⟩ := h x (hx x List.mem_cons_self) s hs
      unfold kturn at e1
      rw [← hw] at e1
      rw [List.map_cons]
      unfold pcompL
      cases ha : pasgT (pinO own) t (enc x) (pwipe ρ own) with
      | none => rw [ha] at e1; cases e1
      | some ρ1 =>
        rw [ha] at e1
        have e1 : wipO own (turnB Γ cs elt ρ1) = _ := e1
        dsimp only
        cases hb : turnB Γ cs elt ρ1 with
        | stuck => rw [hb] at e1; cases e1
        | ok o ρ2 =>
          rw [hb] at e1
          have e1 : PO.ok o (pwipe ρ2 own) = PO.ok (some (e y)) (pwipe (En s1) own) := e1
          simp only [PO.ok.injEq] at e1
          obtain ⟨rfl, e2⟩ := e1
          obtain ⟨ys, s2, ρ3, e3, p3, i3, w3⟩ := ih ρ2 s1 (fun z hz => hx z (List.mem_cons_of_mem _ hz)) i1 e2
          refine ⟨y :: ys, s2, ρ3, ?_, .cons p1 p3, i3, w3⟩
          show ((pcompL (fun ρ => turnB Γ cs elt ρ) own t (l.map enc) ρ2).bind fun ws ρ3 => PO.ok ((some (e y)).toList ++ ws) ρ3) = _
          rw [e3]; rfl
  subst h0
  obtain ⟨ys, s', ρ', e1, p1, i1, w1⟩ := go xs (En s0) s0 (fun _ z => z) hI rfl
  refine ⟨ys, s', ?_, p1, i1⟩
  show (if (xs.map enc).length ≤ 1000000 then (pcompL (fun ρ => turnB Γ cs elt ρ) own t (xs.map enc) (En s0)).bind fun l ρ' => PO.ok (R.v (Mn.P.ol l)) (prst (En s0) ρ' own) else .stuck) = _
  rw [if_pos (by simpa using hl), e1]
  show PO.ok _ _ = _
  rw [prst_wipe own w1]
/-- a comprehension that changes nothing -/
theorem kcomp_pure {α : Type} {Γ : PGam} {t : T} {own : List Nat} {cs : List E} {elt : E} {enc : α → Pv} {xs : List α} {ρ : PEnv} (p : α → Bool) (e : α → Pv)
    (h : ∀ x ∈ xs, kturn Γ t own cs elt (enc x) ρ = .ok (if p x then some (e x) else none) (pwipe ρ own)) (hl : xs.length ≤ 1000000) :
    kcomp Γ t own cs elt (some (xs.map enc)) ρ = .ok (.v (.ol ((xs.filter p).map e))) (prst ρ ρ own) := by
  have go : ∀ (l : List α) (ρ0 : PEnv), (∀ x ∈ l, x ∈ xs) → pwipe ρ0 own = pwipe ρ own → ∃ ρ', pcompL (fun ρ => turnB Γ cs elt ρ) own t (l.map enc) ρ0 = .ok ((l.filter p).map e) ρ' ∧ pwipe ρ' own = pwipe ρ own := by
    intro l
    induction l with
    | nil => intro ρ0 _ hw; exact ⟨ρ0, rfl, hw⟩
    | cons x l ih =>
      intro ρ0 hx hw
      have e1 := h x (hx x List.mem_cons_self)
      unfold kturn at e1
      rw [← hw] at e1
      rw [List.map_cons]
      unfold pcompL
      cases ha : pasgT (pinO own) t (enc x) (pwipe ρ0 own) with
      | none => rw [ha] at e1; cases e1
      | some ρ1 =>
        rw [ha] at e1
        have e1 : wipO own (turnB Γ cs elt ρ1) = _ := e1
        dsimp only
        cases hb : turnB Γ cs elt ρ1 with
        | stuck => rw [hb] at e1; cases e1
        | ok o ρ2 =>
          rw [hb] at e1
          have e1 : PO.ok o (pwipe ρ2 own) = PO.ok (if p x then some (e x) else none) (pwipe ρ0 own) := e1
          simp only [PO.ok.injEq] at e1
          obtain ⟨rfl, e2⟩ := e1
          obtain ⟨ρ3, e3, w3⟩ := ih ρ2 (fun z hz => hx z (List.mem_cons_of_mem _ hz)) (e2.trans hw)
          refine ⟨ρ3, ?_, w3⟩
          show ((pcompL (fun ρ => turnB Γ cs elt ρ) own t (l.map enc) ρ2).bind fun ws ρ3 => PO.ok ((if p x then some (e x) else none).toList ++ ws) ρ3) = _
          rw [e3]
          cases hp : p x with
          | true => rw [List.filter_cons_of_pos hp]; rfl
          | false => rw [List.filter_cons_of_neg (by rw [hp]; exact Bool.false_ne_true)]; rfl
  obtain ⟨ρ', e1, w1⟩ := go xs ρ (fun _ z => z) rfl
  show (if (xs.map enc).length ≤ 1000000 then (pcompL (fun ρ => turnB Γ cs elt ρ) own t (xs.map enc) ρ).bind fun l ρ' => PO.ok (R.v (Mn.P.ol l)) (prst ρ ρ' own) else .stuck) = _
  rw [if_pos (by simpa using hl), e1]
  show PO.ok _ _ = _
  rw [prst_wipe own w1]
theorem kcomp_map {α : Type} {Γ : PGam} {t : T} {own : List Nat} {cs : List E} {elt : E} {enc : α → Pv} {xs : List α} {ρ : PEnv} (e : α → Pv)
    (h : ∀ x ∈ xs, kturn Γ t own cs elt (enc x) ρ = .ok (some (e x)) (pwipe ρ own)) (hl : xs.length ≤ 1000000) :
    kcomp Γ t own cs elt (some (xs.map enc)) ρ = .ok (.v (.ol (xs.map e))) (prst ρ ρ own) := by
  rw [kcomp_pure (fun _ => true) e h hl, List.filter_eq_self.mpr fun _ _ => rfl]
/-! ### loops -/
def fgtS (ρ0 : PEnv) : PS → PS
  | .ok .nx ρ => .ok .nx (pfgt ρ0 ρ)
  | .ok .ct ρ => .ok .nx (pfgt ρ0 ρ)
  | .ok .bk ρ => .ok .bk (pfgt ρ0 ρ)
  | r => r
theorem fgtS_nx {ρ0 ρ : PEnv} : fgtS ρ0 (.ok .nx ρ) = .ok .nx (pfgt ρ0 ρ) := (rfl)
theorem fgtS_ct {ρ0 ρ : PEnv} : fgtS ρ0 (.ok .ct ρ) = .ok .nx (pfgt ρ0 ρ) := (rfl)
theorem fgtS_bk {ρ0 ρ : PEnv} : fgtS ρ0 (.ok .bk ρ) = .ok .bk (pfgt ρ0 ρ) := (rfl)
theorem fgtS_rt {ρ0 ρ : PEnv} {r : R} : fgtS ρ0 (.ok (.rt r) ρ) = .ok (.rt r) ρ := (rfl)
theorem fgtS_ite {ρ0 : PEnv} {c : Prop} [Decidable c] {a b : PS} : fgtS ρ0 (if c then a else b) = if c then fgtS ρ0 a else fgtS ρ0 b := by split <;> rfl
def asgS (f : PEnv → PS) (o : Option PEnv) : PS := match o with | some ρ => f ρ | none => .stuck
theorem asgS_some {f : PEnv → PS} {ρ : PEnv} : asgS f (some ρ) = f ρ := (rfl)
/-- a turn of a loop -/
def lturn (Γ : PGam) (t : T) (body : List S) (v : Pv) (ρ0 ρ : PEnv) : PS := fgtS ρ0 (asgS (pSs Γ body) (pasgT Γ.pin t v ρ))
theorem lturn_eq {Γ : PGam} {t : T} {body : List S} {v : Pv} {ρ0 ρ : PEnv} : lturn Γ t body v ρ0 ρ = fgtS ρ0 (asgS (pSs Γ body) (pasgT Γ.pin t v ρ)) := (rfl)
theorem forL_cons {Γ : PGam} {t : T} {body : List S} {v : Pv} {vs : List Pv} {ρ0 ρ : PEnv} : pforL (fun ρ => pSs Γ body ρ) Γ.pin t ρ0 (v :: vs) ρ = match lturn Γ t body v ρ0 ρ with | .ok .nx ρ => pforL (fun ρ => pSs Γ body ρ) Γ.pin t ρ0 vs ρ | .ok .bk ρ => .ok .nx ρ | r => r := by
  rw [pforL.eq_2, lturn_eq]
  cases pasgT Γ.pin t v ρ with
  | none => rfl
  | some ρ1 =>
    show (match pSs Γ body ρ1 with | .ok .nx ρ2 => _ | .ok .ct ρ2 => _ | .ok .bk ρ2 => _ | r => r) = match fgtS ρ0 (pSs Γ body ρ1) with | .ok .nx ρ => _ | .ok .bk ρ => _ | r => r
    cases pSs Γ body ρ1 with
    | stuck => rfl
    | ok f ρ2 => cases f <;> rfl
/-- a loop that hands on a state -/
theorem kfor_fold {α σ : Type} {Γ : PGam} {t : T} {body : List S} {enc : α → Pv} {xs : List α} {ρ : PEnv} (En : σ → PEnv) (st : σ → α → σ) (I : σ → Prop) {s0 : σ}
    (h : ∀ x ∈ xs, ∀ s, I s → lturn Γ t body (enc x) (En s0) (En s) = .ok .nx (En (st s x)) ∧ I (st s x)) (hI : I s0) (h0 : ρ = En s0) :
    kfor Γ t body (some (xs.map enc)) ρ = .ok .nx (En (xs.foldl st s0)) ∧ I (xs.foldl st s0) := by
  subst h0
  have go : ∀ (l : List α) (s : σ), (∀ x ∈ l, x ∈ xs) → I s → pforL (fun ρ => pSs Γ body ρ) Γ.pin t (En s0) (l.map enc) (En s) = .ok .nx (En (l.foldl st s)) ∧ I (l.foldl st s) := by
    intro l
    induction l with
    | nil => intro s _ hs; exact ⟨rfl, hs⟩
    | cons x l ih =>
      intro s hx hs
      obtain ⟨e1, i1⟩ := h x (hx x List.mem_cons_self) s hs
      rw [List.map_cons, forL_cons, e1]
      exact ih _ (fun z hz => hx z (List.mem_cons_of_mem _ hz)) i1
  exact go xs s0 (fun _ z => z) hI
/-- a loop by an invariant of its names -/
theorem kfor_inv {α : Type} {Γ : PGam} {t : T} {body : List S} {enc : α → Pv} {xs : List α} {ρ : PEnv} (I : PEnv → Prop)
    (h : ∀ x ∈ xs, ∀ ρ1, I ρ1 → ∃ ρ2, lturn Γ t body (enc x) ρ ρ1 = .ok .nx ρ2 ∧ I ρ2) (hI : I ρ) :
    ∃ ρ2, kfor Γ t body (some (xs.map enc)) ρ = .ok .nx ρ2 ∧ I ρ2 := by
  have go : ∀ (l : List α) (ρ1 : PEnv), (∀ x ∈ l, x ∈ xs) → I ρ1 → ∃ ρ2, pforL (fun ρ => pSs Γ body ρ) Γ.pin t ρ (l.map enc) ρ1 = .ok .nx ρ2 ∧ I ρ2 := by
    intro l
    induction l with
    | nil => intro ρ1 _ hs; exact ⟨ρ1, rfl, hs⟩
    | cons x l ih =>
      intro ρ1 hx hs
      obtain ⟨ρ2, e1, i1⟩ := h x (hx x List.mem_cons_self) ρ1 hs
      rw [List.map_cons, forL_cons, e1]
      exact ih _ (fun z hz => hx z (List.mem_cons_of_mem _ hz)) i1
  exact go xs ρ (fun _ z => z) hI
/-- a loop that may end with a value: the state goes on, or a value comes -/
def foldE {α σ β : Type} (st : σ → α → σ ⊕ β) : List α → σ → σ ⊕ β
  | [], s => .inl s
  | x :: xs, s => match st s x with
    | .inl s' => foldE st xs s'
    | .inr b => .inr b
theorem kfor_ret {α σ β : Type} {Γ : PGam} {t : T} {body : List S} {enc : α → Pv} {xs : List α} {ρ : PEnv} (En : σ → PEnv) (st : σ → α → σ ⊕ β) (rv : β → R) (re : β → PEnv) (I : σ → Prop) {s0 : σ}
    (h : ∀ x ∈ xs, ∀ s, I s → lturn Γ t body (enc x) (En s0) (En s) = (match st s x with | .inl s' => .ok .nx (En s') | .inr b => .ok (.rt (rv b)) (re b)) ∧ ∀ s', st s x = .inl s' → I s') (hI : I s0) (h0 : ρ = En s0) :
    kfor Γ t body (some (xs.map enc)) ρ = (match foldE st xs s0 with | .inl s' => .ok .nx (En s') | .inr b => .ok (.rt (rv b)) (re b)) ∧ ∀ s', foldE st xs s0 = .inl s' → I s' := by
  subst h0
  have go : ∀ (l : List α) (s : σ), (∀ x ∈ l, x ∈ xs) → I s → pforL (fun ρ => pSs Γ body ρ) Γ.pin t (En s0) (l.map enc) (En s) = (match foldE st l s with | .inl s' => .ok .nx (En s') | .inr b => .ok (.rt (rv b)) (re b)) ∧ ∀ s', foldE st l s = .inl s' → I s' := by
    intro l
    induction l with
    | nil => intro s _ hs; exact ⟨rfl, fun s' e => by cases e; exact hs⟩
    | cons x l ih =>
      intro s hx hs
      obtain ⟨e1, i1⟩ := h x (hx x List.mem_cons_self) s hs
      rw [List.map_cons, forL_cons, e1]
      unfold foldE
      cases hst : st s x with
      | inl s' => exact ih s' (fun z hz => hx z (List.mem_cons_of_mem _ hz)) (i1 s' hst)
      | inr b => exact ⟨rfl, fun s' e => by cases e⟩
  exact go xs s0 (fun _ z => z) hI
/-- a loop that hands on a state, by an invariant of it -/
theorem kfor_st {α σ : Type} {Γ : PGam} {t : T} {body : List S} {enc : α → Pv} {xs : List α} (En : σ → PEnv) (s0 : σ) (I : Nat → σ → Prop)
    (h : ∀ i x s, xs[i]? = some x → I i s → ∃ s', lturn Γ t body (enc x) (En s0) (En s) = .ok .nx (En s') ∧ I (i + 1) s') (hI : I 0 s0) :
    ∃ s', kfor Γ t body (some (xs.map enc)) (En s0) = .ok .nx (En s') ∧ I xs.length s' := by
  have go : ∀ (l : List α) (j : Nat) (s : σ), xs.drop j = l → j ≤ xs.length → I j s → ∃ s', pforL (fun ρ => pSs Γ body ρ) Γ.pin t (En s0) (l.map enc) (En s) = .ok .nx (En s') ∧ I xs.length s' := by
    intro l
    induction l with
    | nil =>
      intro j s hd hj hs
      have : j = xs.length := by
        have := congrArg List.length hd
        simp at this
        omega
      subst this
      exact ⟨s, rfl, hs⟩
    | cons x l ih =>
      intro j s hd hj hs
      have hx : xs[j]? = some x := by
        have := congrArg (·[0]?) hd
        simpa using this
      have hjl := (List.getElem?_eq_some_iff.mp hx).1
      obtain ⟨s1, e1, i1⟩ := h j x s hx hs
      obtain ⟨s2, e2, i2⟩ := ih (j + 1) s1 (by rw [← List.drop_drop, hd]; rfl) hjl i1
      exact ⟨s2, by rw [List.map_cons, forL_cons, e1]; exact e2, i2⟩
  exact go xs 0 s0 rfl (Nat.zero_le _) hI
/-- the same, where a turn may end the def -/
theorem kfor_ex {α σ : Type} {Γ : PGam} {t : T} {body : List S} {enc : α → Pv} {xs : List α} (En : σ → PEnv) (s0 : σ) (I : Nat → σ → Prop) (Q : R → PEnv → Prop)
    (h : ∀ i x s, xs[i]? = some x → I i s → (∃ s', lturn Γ t body (enc x) (En s0) (En s) = .ok .nx (En s') ∧ I (i + 1) s') ∨ ∃ r ρ, lturn Γ t body (enc x) (En s0) (En s) = .ok (.rt r) ρ ∧ Q r ρ) (hI : I 0 s0) :
    (∃ s', kfor Γ t body (some (xs.map enc)) (En s0) = .ok .nx (En s') ∧ I xs.length s') ∨ ∃ r ρ, kfor Γ t body (some (xs.map enc)) (En s0) = .ok (.rt r) ρ ∧ Q r ρ := by
  have go : ∀ (l : List α) (j : Nat) (s : σ), xs.drop j = l → j ≤ xs.length → I j s → (∃ s', pforL (fun ρ => pSs Γ body ρ) Γ.pin t (En s0) (l.map enc) (En s) = .ok .nx (En s') ∧ I xs.length s') ∨ ∃ r ρ, pforL (fun ρ => pSs Γ body ρ) Γ.pin t (En s0) (l.map enc) (En s) = .ok (.rt r) ρ ∧ Q r ρ := by
    intro l
    induction l with
    | nil =>
      intro j s hd hj hs
      have : j = xs.length := by
        have := congrArg List.length hd
        simp at this
        omega
      subst this
      exact .inl ⟨s, rfl, hs⟩
    | cons x l ih =>
      intro j s hd hj hs
      have hx : xs[j]? = some x := by
        have := congrArg (·[0]?) hd
        simpa using this
      have hjl := (List.getElem?_eq_some_iff.mp hx).1
      rcases h j x s hx hs with ⟨s1, e1, i1⟩ | ⟨r, ρ, e1, q1⟩
      · rcases ih (j + 1) s1 (by rw [← List.drop_drop, hd]; rfl) hjl i1 with ⟨s2, e2, i2⟩ | ⟨r, ρ, e2, q2⟩
        · exact .inl ⟨s2, by rw [List.map_cons, forL_cons, e1]; exact e2, i2⟩
        · exact .inr ⟨r, ρ, by rw [List.map_cons, forL_cons, e1]; exact e2, q2⟩
      · exact .inr ⟨r, ρ, by rw [List.map_cons, forL_cons, e1], q1⟩
  exact go xs 0 s0 rfl (Nat.zero_le _) hI
def forBody : S → List S
  | .for _ _ _ b => b
  | .while _ b => b
  | .ite _ a _ => a
  | _ => []
/-- the body of a def's loop -/
def forB (fd : FD) (i : Nat) : List S := forBody (fd.body.getD i .pass)
end Mn
end -- Px2
section -- Ct1
set_option linter.all false
set_option autoImplicit false
set_option maxRecDepth 100000
namespace Mn
open PySem L2
local macro_rules | `(tactic| simp_arith [$xs,*]) => `(tactic| simp only [↓PS.seq_nx, ↓PS.seq_rt, ↓PS.seq_bk, ↓PS.seq_ct, ↓ite_seq, ↓ite_bind, ↓ite_st, ↓bind_ok', ↓st_ok', ↓view_fz, ↓view_ol, ↓view_od, ↓view_oi, ↓rvar_fz, ↓rvar_ol, ↓rvar_od, ↓rvar_oi, ↓pv2_some, ↓pk_v, ↓pk_al, ↓pkF_v, ↓pkF_al, ↓pks_nil, ↓cons2_some, ↓pks_cons, ↓tk_v, ↓tk_al, ↓tk2_fz, ↓tk2_ol, ↓tk2_od, ↓tk2_oi, ↓tks_nil, ↓kTks2_eq, ↓kTks1_eq, ↓tks_cons, ↓mkP_some, ↓mkV_some, ↓mkB_some, ↓mk2_some, ↓tr1_t, ↓tr1_f, ↓tr1_e, ↓mkT_some, ↓obind_some, ↓pE_var, ↓pE_glob, ↓pE_non, ↓pE_bl, ↓pE_int, ↓pE_str, ↓pE_ty, ↓kTup2_eq, ↓kTup1_eq, ↓pE_tup, ↓kLst2_eq, ↓kLst1_eq, ↓pE_lst, ↓mkD_some, ↓kDct4_eq, ↓kDct3_eq, ↓kDct2_eq, ↓kDct1_eq, ↓pE_dct, ↓kBin2_eq, ↓kBin1_eq, ↓pE_bin, ↓kCmp2_eq, ↓kCmp1_eq, ↓pE_cmp, ↓kIdx2_eq, ↓kIdx1_eq, ↓pE_idx, ↓tFalse_eq, ↓chn_some, ↓kCh4_eq, ↓kCh3_eq, ↓kCh2_eq, ↓kCh1_eq, ↓pE_chain, ↓mkI_some, ↓kNeg_eq, ↓pE_neg, ↓notO_some, ↓kNot_eq, ↓pE_not, ↓tE_eq, ↓tR_eq, ↓kAnd_eq, ↓pE_and, ↓kOr_eq, ↓pE_or, ↓kIte_eq, ↓pE_ite, ↓bslice_some, ↓kSl3_eq, ↓kSl2_eq, ↓kSl1_eq, ↓pE_sl, ↓mkL_some, ↓kPart_eq, ↓ppart_t, ↓ppart_f, ↓kSlr_eq, ↓pE_slr, ↓mkA_ins, ↓kAttr_eq, ↓pE_attr, ↓kCall2_eq, ↓kCall1_eq, ↓pE_call, ↓kMake2_eq, ↓kMake1_eq, ↓pE_make, ↓mkM_ins, ↓kMeth3_eq, ↓kMeth2_eq, ↓tMeth_eq, ↓kMeth1_eq, ↓pE_meth, ↓kBc_eq, ↓pE_bcall, ↓guardT_t, ↓kBm2_eq, ↓tBm_eq, ↓kBm1_eq, ↓pE_bmeth, ↓brng_some, ↓kRng_eq, ↓pE_rng, ↓mkR_some, ↓kComp2_eq, ↓kComp1_eq, ↓pE_comp, ↓kDcomp2_eq, ↓kDcomp1_eq, ↓pE_dcomp, ↓kCons2_eq, ↓kCons1_eq, ↓pEs_nil, ↓pEs_cons, ↓tr2_t, ↓tr2_f, ↓tr2_e, ↓tC_eq, ↓tCf_eq, ↓kC1_eq, ↓pC_nil, ↓pC_cons, ↓kSs_eq, ↓pSs_nil, ↓pSs_cons, ↓mkN_some, ↓kPar2_eq, ↓kPar1_eq, ↓pS_par, ↓kAsg_eq, ↓asgR_v, ↓asgR_al, ↓pS_nm, ↓asgP_tup, ↓kAsgP_eq, ↓pS_tp, ↓bst_some, ↓kSet4_eq, ↓kSet3_eq, ↓kSet2_eq, ↓kSet1_eq, ↓pS_setI, ↓kSA3_eq, ↓kSA2_eq, ↓kSA1_eq, ↓pS_setA, ↓augR_int, ↓kAug_eq, ↓aug1_int, ↓pS_aug, ↓kExpr_eq, ↓pS_expr, ↓kRet_eq, ↓pS_ret, ↓iteS_t, ↓iteS_f, ↓iteS_e, ↓tS_eq, ↓kIf_eq, ↓pS_ite, ↓kT_eq, ↓pT_eq, ↓kFor2_eq, ↓kFor1_eq, ↓pS_for, ↓pS_while, ↓pS_brk, ↓pS_cnt, ↓pS_pass, ↓mkC_some, ↓fsts_nil, ↓fsts_cons, ↓kCall4_eq, ↓kCall3_eq, ↓pcallR_eq, ↓kMk4_eq, ↓kMk3_eq, ↓pmakeR_eq, ↓kL2_eq, ↓kL1_eq, ↓lendA_nil, ↓lendA_e, ↓lendA_f, ↓lendA_tv, ↓lendA_ta, ↓lend2_fz, ↓lend2_ol, ↓lend2_od, ↓lend2_oi, ↓giveB_nil, ↓giveB_n, ↓giveB_s, ↓giveB_o, ↓kApp_eq, ↓bm_append, ↓mAppend_ol, ↓kIns_eq, ↓bm_insert, ↓mInsert_ol, ↓bm_extend, ↓mExt0_l, ↓mExt0_t, ↓mExt_ol, ↓bm_pop, ↓mPop_last, ↓kGet_eq, ↓bm_get, ↓mGet_d, ↓kSetd_eq, ↓bm_setd, ↓bm_count, ↓isF_fz, ↓isF_ol, ↓isF_od, ↓isF_oi, ↓ret_nx, ↓ret_v, ↓ret_al, ↓ret2_fz, ↓ret2_o, ↓ret2_p, ↓ret_ite, ↓finL_eq, ↓omap_some, ↓omap_ite, ↓run_eq, ↓pgam_call, ↓mask_nil, ↓mask_e, ↓mask_t, ↓mask_f, ↓stI_al, ↓stI_od, ↓stA_al, ↓stA_oi, ↓pputP_eq, ↓pputPs_nil, ↓putK_some, ↓pputPs_cons, ↓pres_nil, ↓kPr_eq, ↓kPr1_eq, ↓pres_v, ↓pres_al, ↓asgT_nm, ↓asgT_tp, ↓asgK_some, ↓asgTs_cons, ↓pasgTs_nil, ↓pinL_nil, ↓pinL_z, ↓pinL_s, ↓wipe_nil', ↓wipe_cons', ↓rst1_fz, ↓rst1_none, ↓rst1_ol, ↓prst_nil, ↓prst_cons, ↓fgt_s, ↓fgt_n, ↓fgt_e, ↓b_add, ↓b_sub, ↓b_mul_r, ↓b_mul_l, ↓b_pow18, ↓b_mod, ↓b_div, ↓b_tup, ↓b_lst, ↓c_lt, ↓c_le, ↓c_gt, ↓c_ge, ↓c_ne, ↓c_in, ↓c_nin, ↓c_is, ↓c_isn, ↓is_non, ↓veq_int, ↓veq_str, ↓tr_bl, ↓sub_t, ↓prevs_l, ↓sub_l, ↓sub_d, ↓get0, ↓set0, ↓ix0, ↓get1, ↓set1, ↓ix1, ↓get2, ↓set2, ↓ix2, ↓get3, ↓set3, ↓ix3, ↓get4, ↓set4, ↓ix4, ↓get5, ↓set5, ↓ix5, ↓get6, ↓set6, ↓ix6, ↓get7, ↓set7, ↓ix7, ↓get8, ↓set8, ↓ix8, ↓get9, ↓set9, ↓ix9, ↓get10, ↓set10, ↓ix10, ↓get11, ↓set11, ↓ix11, ↓get12, ↓set12, ↓ix12, ↓get13, ↓set13, ↓ix13, ↓sti0, ↓sti1, ↓sti2, ↓sti3, ↓sti4, ↓sti5, ↓sti6, ↓sti7, ↓kturn_eq, ↓turnB_eq, ↓kTurn_eq, ↓tTurn_eq, ↓tNone_eq, ↓kTurn2_eq, ↓kTurn3_eq, ↓itO_t, ↓itO_f, ↓itO_e, ↓wipO_ok, ↓wipO_ite, ↓asgB_some, ↓lturn_eq, ↓asgS_some, ↓fgtS_nx, ↓fgtS_ct, ↓fgtS_bk, ↓fgtS_rt, ↓fgtS_ite, ↓srcR, ↓src_t, ↓src_l, ↓src_rev_t, ↓src_rev_l, ↓src_enum_t, ↓src_enum_l, ↓bs_tuple_l, ↓bs_tuple_t, ↓bs_list_l, ↓bs_list_t, ↓bs_list_d, ↓bs_int, ↓bs_len_l, ↓bs_len_r, ↓bs_len_t, ↓bs_len_d, ↓bs_min2, ↓bs_max2, ↓in_int_t, ↓in_int_l, tr1_d, tr2_d, iteS_d, itO_d, isNonV, notTup, eq_self, or_true, true_or, or_false, false_or, or_self, and_false, false_and, not_false_eq_true, ne_eq, List.length_map, Int.reduceLT, Int.reduceNeg, Int.reduceLE, Int.reduceAdd, Int.reduceSub, Int.reduceMul, Int.reduceToNat, Int.reduceEq, pinO_eq, List.contains_cons, List.contains_nil, beq_self_eq_true, Nat.reduceBEq, E.isNon, if_true, if_false, ite_true, ite_false, Bool.false_eq_true, decide_true, decide_false, decide_eq_true_eq, List.length_cons, List.length_nil, List.length_set, List.map_cons, List.map_nil, List.map_append, List.nil_append, List.cons_append, List.append_nil, List.replicate_succ, List.replicate_zero, List.take_succ_cons, List.take_zero, List.zip_cons_cons, List.zip_nil_left, List.zip_nil_right, precv, ofString_inj, Nat.sub_self, Nat.reduceAdd, Nat.reduceSub, Nat.reduceLT, Nat.reduceLeDiff, Bool.and_true, Bool.and_false, Bool.true_and, Bool.false_and, Bool.or_true, Bool.or_false, Bool.true_or, Bool.false_or, Bool.not_true, Bool.not_false, reduceCtorEq, String.reduceEq, not_true, not_false_iff, true_and, and_true, and_self, isNms, List.all_cons, List.all_nil, decide_not, lend__law_fresh, pin__law_fresh, lend__law_draw, pin__law_draw, lend__law_cells, pin__law_cells, $xs,*])
variable {Pr : Prg} {L : Str → List Bool} {k : Nat}
/-- the pen: the script's ints, the place, the rest -/
structure PenS where
  is : List Int
  at_ : Int
  d : Int
structure PenS.Ok (s : PenS) : Prop where
  len : s.is.length ≤ 63
  at0 : 0 ≤ s.at_
def PenS.vs (s : PenS) : List Pv := [.lst (s.is.map .int), .int s.at_, .int s.d]
theorem ixOf_nat {n m : Nat} (h : n < m) : ixOf (n : Int) m = some n := by rw [ix_nat (by omega) (by omega)]; rfl
def tI (cs : List Int) : Pv := .tup (cs.map .int)
theorem veq_lsts {xs ys : List Int} : pcmp .Eq (.lst (xs.map .int)) (.lst (ys.map .int)) = some (decide (xs = ys)) := by
  show pveqD _ _ = _
  unfold pveqD
  have e : ∀ zs : List Int, vdat 6 (.lst (zs.map .int)) = some (.list (zs.map .int)) := fun zs => by
    show (vdats 5 (zs.map .int)).map _ = _
    rw [vdats_int]; rfl
  rw [e, e]
  dsimp only
  rw [shaped_ints, shaped_ints]
  show some (PyData.eqvAll (xs.map .int) (ys.map .int)) = _
  refine congrArg some (Bool.eq_iff_iff.mpr ?_)
  rw [decide_eq_true_eq]
  have h := nices_eqv (vs := xs.map .int) (ws := ys.map .int) (nices_all.mpr fun v hv => by obtain ⟨x, _, rfl⟩ := List.mem_map.mp hv; rfl) (nices_all.mpr fun v hv => by obtain ⟨x, _, rfl⟩ := List.mem_map.mp hv; rfl)
  rw [List.map_map, List.map_map] at h
  have h2 : PyData.eqvAll (xs.map .int) (ys.map .int) = true ↔ xs.map Pv.int = ys.map Pv.int := h
  rw [h2]
  constructor
  · intro h
    have := congrArg (List.map fun v => match v with | Pv.int i => i | _ => 0) h
    simpa [List.map_map, Function.comp_def] using this
  · intro h; rw [h]
theorem veq_nil {xs : List Int} : pcmp .Eq (.lst (xs.map .int)) (.lst []) = some (decide (xs = [])) := veq_lsts (ys := [])
theorem c_fresh [C__law_fresh Pr L] {s : PenS} (hs : s.Ok) : ∃ r : Int, pcallAt Pr L (k + 1) "_law_fresh" [.ol s.vs] [] = some (.fz (.int r), [some (.ol (PenS.vs ⟨s.is, s.at_ + 1, s.d⟩))]) := by
  rw [pca__law_fresh rfl]
  have h0 := hs.at0
  have hl := hs.len
  have loop : ∀ cell : Int, ∃ r : Int, Option.map (finL [true]) (pretOf (pinL [true]) 1 (pSs (Pn.pgam Pr L "_law_fresh" k) (f__law_fresh.body.drop 5) [some (.ol [.lst (s.is.map .int), .int (s.at_ + 1), .int s.d]), some (.fz (.int s.at_)), some (.fz (.int cell)), none, none, none, none])) = some (.fz (.int r), [some (.ol [.lst (s.is.map .int), .int (s.at_ + 1), .int s.d])]) := fun cell => by
    let En : Int × Int → PEnv := fun q => [some (.ol [.lst (s.is.map .int), .int (s.at_ + 1), .int s.d]), some (.fz (.int s.at_)), some (.fz (.int cell)), some (.fz (.int 2305843009213693951)), some (.fz (.int q.1)), some (.fz (.int q.2)), none]
    let st : Int × Int → Nat → Int × Int := fun q i => ((q.1 * q.1 + 69621 * ((i : Int) + 1) * (s.at_ + 1) + cell) % 2305843009213693951, q.2 * 2305843009213693951 + (q.1 * q.1 + 69621 * ((i : Int) + 1) * (s.at_ + 1) + cell) % 2305843009213693951)
    refine ⟨((List.range 6).foldl st ((cell * 48271 + 40692 * s.at_ + 31) % 2305843009213693951, (cell * 48271 + 40692 * s.at_ + 31) % 2305843009213693951)).2, ?_⟩
    simp_arith [f__law_fresh, List.drop, bs_int, rg1]
    have hf := kfor_fold (Γ := Pn.pgam Pr L "_law_fresh" k) (t := .nm 6) (enc := fun i : Nat => Pv.int i) (xs := List.range 6) (body := [.asg (.nm 4) (.bin .Mod (.bcall .int [.bin .Add (.bin .Add (.bin .Mult (.var 4) (.var 4)) (.bin .Mult (.bin .Mult (.int 69621) (.bin .Add (.var 6) (.int 1))) (.bin .Add (.var 1) (.int 1)))) (.var 2)]) (.var 3)), .asg (.nm 5) (.bin .Add (.bin .Mult (.var 5) (.var 3)) (.var 4))]) En st (fun q => 0 ≤ q.1 ∧ q.1 < 2305843009213693951) (s0 := ((cell * 48271 + 40692 * s.at_ + 31) % 2305843009213693951, (cell * 48271 + 40692 * s.at_ + 31) % 2305843009213693951)) (fun i hi q hq => ⟨by
      have hi := List.mem_range.mp hi
      have a1 : -18446744073709551616 < 69621 * ((i : Int) + 1) := by omega
      have a2 : 69621 * ((i : Int) + 1) < 18446744073709551616 := by omega
      have a3 : -18446744073709551616 < q.1 := by omega
      have a4 : q.1 < 18446744073709551616 := by omega
      simp only [En, st]
      generalize (i : Int) = j at a1 a2
      simp_arith [bs_int, a1, a2, a3, a4], ⟨Int.emod_nonneg _ (by omega), Int.emod_lt_of_pos _ (by omega)⟩⟩) ⟨Int.emod_nonneg _ (by omega), Int.emod_lt_of_pos _ (by omega)⟩ rfl
    simp only [En] at hf
    simp_arith [hf.1, En]
  by_cases he : s.is = []
  · obtain ⟨r, e⟩ := loop 0
    refine ⟨r, ?_⟩
    rw [show PenS.vs ⟨s.is, s.at_ + 1, s.d⟩ = [.lst (s.is.map .int), .int (s.at_ + 1), .int s.d] from rfl, ← e]
    have h3 : ¬ s.at_ < (s.is.length : Int) := by rw [he]; simp; omega
    simp_arith [f__law_fresh, PenS.vs, veq_nil, eq_true he, eq_false h3, List.drop]
  · have hp : 0 < s.is.length := List.length_pos_iff.mpr he
    have hp' : (0 : Int) < s.is.length := by omega
    obtain ⟨x, hx⟩ : ∃ x, pixV (s.is.map .int) (s.at_ % s.is.length) = some (.int x) := by
      have h1 := Int.emod_nonneg s.at_ (show (s.is.length : Int) ≠ 0 by omega)
      have h2 := Int.emod_lt_of_pos s.at_ hp'
      obtain ⟨n, hn⟩ : ∃ n : Nat, s.at_ % s.is.length = n := ⟨_, (Int.toNat_of_nonneg h1).symm⟩
      have hn2 : n < s.is.length := by omega
      exact ⟨s.is[n], pixV_of hn (by rw [List.getElem?_map, List.getElem?_eq_getElem hn2]; rfl)⟩
    by_cases hc : s.at_ < (s.is.length : Int) ∧ 1000000000000000000 ≤ x
    · refine ⟨x - 1000000000000000000, ?_⟩
      simp_arith [f__law_fresh, PenS.vs, veq_nil, eq_false he, hp', hx, hc.1, hc.2]
    · obtain ⟨r, e⟩ := loop x
      refine ⟨r, ?_⟩
      rw [show PenS.vs ⟨s.is, s.at_ + 1, s.d⟩ = [.lst (s.is.map .int), .int (s.at_ + 1), .int s.d] from rfl, ← e]
      by_cases h1 : s.at_ < (s.is.length : Int)
      · have h2 : ¬ 1000000000000000000 ≤ x := fun z => hc ⟨h1, z⟩
        simp_arith [f__law_fresh, PenS.vs, veq_nil, eq_false he, hp', hx, h1, h2, List.drop]
      · simp_arith [f__law_fresh, PenS.vs, veq_nil, eq_false he, hp', hx, h1, List.drop]
theorem c_draw [C__law_draw Pr L] {s : PenS} (hs : s.Ok) {m : Int} (hm : 0 < m) (hm2 : m < 1073741824) :
    ∃ (r : Int) (s' : PenS), pcallAt Pr L (k + 2) "_law_draw" [.ol s.vs, .fz (.int m)] [] = some (.fz (.int r), [some (.ol s'.vs), none]) ∧ 0 ≤ r ∧ r < m ∧ s'.Ok := by
  rw [pca__law_draw rfl]
  by_cases h : s.d < m
  · obtain ⟨q, e⟩ := c_fresh (Pr := Pr) (L := L) (k := k) hs
    simp only [PenS.vs] at e
    refine ⟨q % m, ⟨s.is, s.at_ + 1, q / m⟩, ?_, Int.emod_nonneg _ (by omega), Int.emod_lt_of_pos _ hm, hs.len, by have := hs.at0; show 0 ≤ s.at_ + 1; omega⟩
    simp_arith [f__law_draw, PenS.vs, e, h, hm, hm2]
  · refine ⟨s.d % m, ⟨s.is, s.at_, s.d / m⟩, ?_, Int.emod_nonneg _ (by omega), Int.emod_lt_of_pos _ hm, hs.len, hs.at0⟩
    simp_arith [f__law_draw, PenS.vs, h, hm, hm2]
/-- cells: ascending, of so many -/
structure Cells (m : Int) (cs : List Int) : Prop where
  bd : ∀ c ∈ cs, 0 ≤ c ∧ c < m
  st : cs.Pairwise (· < ·)
theorem sortI_strict {xs : List Int} (h : xs.Nodup) : (sortI xs).Pairwise (· < ·) := sort_strict h
theorem mem_sortI {xs : List Int} {x : Int} : x ∈ sortI xs ↔ x ∈ xs := (List.mergeSort_perm _ _).mem_iff
theorem length_sortI {xs : List Int} : (sortI xs).length = xs.length := (List.mergeSort_perm _ _).length_eq
theorem cells_len {m : Int} {cs : List Int} (h : Cells m cs) (hm : 0 ≤ m) : cs.length ≤ m.toNat := by
  have nd : cs.Nodup := h.st.imp fun h => by omega
  have sub : cs.map Int.toNat ⊆ List.range m.toNat := fun x hx => by
    obtain ⟨y, hy, rfl⟩ := List.mem_map.mp hx
    have := h.bd y hy
    exact List.mem_range.mpr (by omega)
  have nd2 : (cs.map Int.toNat).Nodup := by
    refine List.pairwise_map.mpr (h.st.imp_of_mem fun {a b} ha hb hab e => ?_)
    have := h.bd a ha
    have := h.bd b hb
    omega
  have := List.Nodup.length_le_of_subset nd2 sub
  simpa using this
theorem c_cells [C__law_cells Pr L] {s : PenS} (hs : s.Ok) {m n : Int} (hm : 0 < m) (hm2 : m < 1000) (hn : 0 ≤ n) (hn2 : n < 1000) :
    ∃ (cs : List Int) (s' : PenS), pcallAt Pr L (k + 3) "_law_cells" [.ol s.vs, .fz (.int m), .fz (.int n)] [] = some (.fz (tI cs), [some (.ol s'.vs), none, none]) ∧ Cells m cs ∧ (cs.length : Int) ≤ n ∧ s'.Ok := by
  rw [pca__law_cells rfl]
  obtain ⟨r, s1, e1, r0, r1, hs1⟩ := c_draw (Pr := Pr) (L := L) (k := k) hs (m := n + 1) (by omega) (by omega)
  have hr : prangeOf [.int r] = some ((List.range r.toNat).map fun i : Nat => .int i) := rg1 (by omega) (by omega)
  obtain ⟨q, e2, hq1, hq2, hq3, hq4⟩ := kfor_st (Γ := Pn.pgam Pr L "_law_cells" (k + 2)) (t := .nm 4) (body := forB f__law_cells 1) (enc := fun i : Nat => Pv.int i) (xs := List.range r.toNat)
    (fun q : PenS × List Int => [some (.ol q.1.vs), some (.fz (.int m)), some (.fz (.int n)), some (.ol (q.2.map .int)), none, none]) (s1, []) (fun i q => q.1.Ok ∧ q.2.Nodup ∧ (∀ c ∈ q.2, 0 ≤ c ∧ c < m) ∧ q.2.length ≤ i) (fun i x q hx ⟨h1, h2, h3, h4⟩ => by
      obtain ⟨c, s2, e3, c0, c1, hs2⟩ := c_draw (Pr := Pr) (L := L) (k := k) h1 hm (by omega)
      have hi : i < r.toNat := by have := (List.getElem?_eq_some_iff.mp hx).1; simpa using this
      by_cases hc : c ∈ q.2
      · refine ⟨(s2, q.2), ?_, hs2, h2, h3, Nat.le_succ_of_le h4⟩
        simp_arith [f__law_cells, forB, forBody, List.getD_cons_succ, List.getD_cons_zero, e3, hc]
      · refine ⟨(s2, q.2 ++ [c]), ?_, hs2, ?_, ?_, ?_⟩
        · simp_arith [f__law_cells, forB, forBody, List.getD_cons_succ, List.getD_cons_zero, e3, hc, show q.2.length < 1000000 by omega]
        · rw [List.nodup_append]
          refine ⟨h2, by simp, fun a ha b hb => ?_⟩
          simp only [List.mem_singleton] at hb
          subst hb
          intro z; subst z; exact hc ha
        · intro z hz
          rcases List.mem_append.mp hz with hz | hz
          · exact h3 z hz
          · rw [List.mem_singleton.mp hz]; exact ⟨c0, c1⟩
        · simp; omega) ⟨hs1, .nil, fun c hc => (by cases hc), Nat.le_refl _⟩
  rw [List.length_range] at hq4
  refine ⟨sortI q.2, q.1, ?_, ⟨fun c hc => hq3 c (mem_sortI.mp hc), sortI_strict hq2⟩, by rw [length_sortI]; omega, hq1⟩
  simp only [f__law_cells, forB, forBody, List.getD_cons_succ, List.getD_cons_zero, List.map_nil] at e2
  simp_arith [f__law_cells, e1, hr, e2, sorted_int (xs := q.2) (by omega), tI]
end Mn
end -- Ct1
section -- Ct2
set_option linter.all false
set_option autoImplicit false
set_option maxRecDepth 100000
namespace Mn
open PySem L2
local macro_rules | `(tactic| simp_arith [$xs,*]) => `(tactic| simp only [↓PS.seq_nx, ↓PS.seq_rt, ↓PS.seq_bk, ↓PS.seq_ct, ↓ite_seq, ↓ite_bind, ↓ite_st, ↓bind_ok', ↓st_ok', ↓view_fz, ↓view_ol, ↓view_od, ↓view_oi, ↓rvar_fz, ↓rvar_ol, ↓rvar_od, ↓rvar_oi, ↓pv2_some, ↓pk_v, ↓pk_al, ↓pkF_v, ↓pkF_al, ↓pks_nil, ↓cons2_some, ↓pks_cons, ↓tk_v, ↓tk_al, ↓tk2_fz, ↓tk2_ol, ↓tk2_od, ↓tk2_oi, ↓tks_nil, ↓kTks2_eq, ↓kTks1_eq, ↓tks_cons, ↓mkP_some, ↓mkV_some, ↓mkB_some, ↓mk2_some, ↓tr1_t, ↓tr1_f, ↓tr1_e, ↓mkT_some, ↓obind_some, ↓pE_var, ↓pE_glob, ↓pE_non, ↓pE_bl, ↓pE_int, ↓pE_str, ↓pE_ty, ↓kTup2_eq, ↓kTup1_eq, ↓pE_tup, ↓kLst2_eq, ↓kLst1_eq, ↓pE_lst, ↓mkD_some, ↓kDct4_eq, ↓kDct3_eq, ↓kDct2_eq, ↓kDct1_eq, ↓pE_dct, ↓kBin2_eq, ↓kBin1_eq, ↓pE_bin, ↓kCmp2_eq, ↓kCmp1_eq, ↓pE_cmp, ↓kIdx2_eq, ↓kIdx1_eq, ↓pE_idx, ↓tFalse_eq, ↓chn_some, ↓kCh4_eq, ↓kCh3_eq, ↓kCh2_eq, ↓kCh1_eq, ↓pE_chain, ↓mkI_some, ↓kNeg_eq, ↓pE_neg, ↓notO_some, ↓kNot_eq, ↓pE_not, ↓tE_eq, ↓tR_eq, ↓kAnd_eq, ↓pE_and, ↓kOr_eq, ↓pE_or, ↓kIte_eq, ↓pE_ite, ↓bslice_some, ↓kSl3_eq, ↓kSl2_eq, ↓kSl1_eq, ↓pE_sl, ↓mkL_some, ↓kPart_eq, ↓ppart_t, ↓ppart_f, ↓kSlr_eq, ↓pE_slr, ↓mkA_ins, ↓kAttr_eq, ↓pE_attr, ↓kCall2_eq, ↓kCall1_eq, ↓pE_call, ↓kMake2_eq, ↓kMake1_eq, ↓pE_make, ↓mkM_ins, ↓kMeth3_eq, ↓kMeth2_eq, ↓tMeth_eq, ↓kMeth1_eq, ↓pE_meth, ↓kBc_eq, ↓pE_bcall, ↓guardT_t, ↓kBm2_eq, ↓tBm_eq, ↓kBm1_eq, ↓pE_bmeth, ↓brng_some, ↓kRng_eq, ↓pE_rng, ↓mkR_some, ↓kComp2_eq, ↓kComp1_eq, ↓pE_comp, ↓kDcomp2_eq, ↓kDcomp1_eq, ↓pE_dcomp, ↓kCons2_eq, ↓kCons1_eq, ↓pEs_nil, ↓pEs_cons, ↓tr2_t, ↓tr2_f, ↓tr2_e, ↓tC_eq, ↓tCf_eq, ↓kC1_eq, ↓pC_nil, ↓pC_cons, ↓kSs_eq, ↓pSs_nil, ↓pSs_cons, ↓mkN_some, ↓kPar2_eq, ↓kPar1_eq, ↓pS_par, ↓kAsg_eq, ↓asgR_v, ↓asgR_al, ↓pS_nm, ↓asgP_tup, ↓kAsgP_eq, ↓pS_tp, ↓bst_some, ↓kSet4_eq, ↓kSet3_eq, ↓kSet2_eq, ↓kSet1_eq, ↓pS_setI, ↓kSA3_eq, ↓kSA2_eq, ↓kSA1_eq, ↓pS_setA, ↓augR_int, ↓kAug_eq, ↓aug1_int, ↓pS_aug, ↓kExpr_eq, ↓pS_expr, ↓kRet_eq, ↓pS_ret, ↓iteS_t, ↓iteS_f, ↓iteS_e, ↓tS_eq, ↓kIf_eq, ↓pS_ite, ↓kT_eq, ↓pT_eq, ↓kFor2_eq, ↓kFor1_eq, ↓pS_for, ↓pS_while, ↓pS_brk, ↓pS_cnt, ↓pS_pass, ↓mkC_some, ↓fsts_nil, ↓fsts_cons, ↓kCall4_eq, ↓kCall3_eq, ↓pcallR_eq, ↓kMk4_eq, ↓kMk3_eq, ↓pmakeR_eq, ↓kL2_eq, ↓kL1_eq, ↓lendA_nil, ↓lendA_e, ↓lendA_f, ↓lendA_tv, ↓lendA_ta, ↓lend2_fz, ↓lend2_ol, ↓lend2_od, ↓lend2_oi, ↓giveB_nil, ↓giveB_n, ↓giveB_s, ↓giveB_o, ↓kApp_eq, ↓bm_append, ↓mAppend_ol, ↓kIns_eq, ↓bm_insert, ↓mInsert_ol, ↓bm_extend, ↓mExt0_l, ↓mExt0_t, ↓mExt_ol, ↓bm_pop, ↓mPop_last, ↓kGet_eq, ↓bm_get, ↓mGet_d, ↓kSetd_eq, ↓bm_setd, ↓bm_count, ↓isF_fz, ↓isF_ol, ↓isF_od, ↓isF_oi, ↓ret_nx, ↓ret_v, ↓ret_al, ↓ret2_fz, ↓ret2_o, ↓ret2_p, ↓ret_ite, ↓finL_eq, ↓omap_some, ↓omap_ite, ↓run_eq, ↓pgam_call, ↓mask_nil, ↓mask_e, ↓mask_t, ↓mask_f, ↓stI_al, ↓stI_od, ↓stA_al, ↓stA_oi, ↓pputP_eq, ↓pputPs_nil, ↓putK_some, ↓pputPs_cons, ↓pres_nil, ↓kPr_eq, ↓kPr1_eq, ↓pres_v, ↓pres_al, ↓asgT_nm, ↓asgT_tp, ↓asgK_some, ↓asgTs_cons, ↓pasgTs_nil, ↓pinL_nil, ↓pinL_z, ↓pinL_s, ↓wipe_nil', ↓wipe_cons', ↓rst1_fz, ↓rst1_none, ↓rst1_ol, ↓prst_nil, ↓prst_cons, ↓fgt_s, ↓fgt_n, ↓fgt_e, ↓b_add, ↓b_sub, ↓b_mul_r, ↓b_mul_l, ↓b_pow18, ↓b_mod, ↓b_div, ↓b_tup, ↓b_lst, ↓c_lt, ↓c_le, ↓c_gt, ↓c_ge, ↓c_ne, ↓c_in, ↓c_nin, ↓c_is, ↓c_isn, ↓is_non, ↓veq_int, ↓veq_str, ↓tr_bl, ↓sub_t, ↓prevs_l, ↓sub_l, ↓sub_d, ↓get0, ↓set0, ↓ix0, ↓get1, ↓set1, ↓ix1, ↓get2, ↓set2, ↓ix2, ↓get3, ↓set3, ↓ix3, ↓get4, ↓set4, ↓ix4, ↓get5, ↓set5, ↓ix5, ↓get6, ↓set6, ↓ix6, ↓get7, ↓set7, ↓ix7, ↓get8, ↓set8, ↓ix8, ↓get9, ↓set9, ↓ix9, ↓get10, ↓set10, ↓ix10, ↓get11, ↓set11, ↓ix11, ↓get12, ↓set12, ↓ix12, ↓get13, ↓set13, ↓ix13, ↓sti0, ↓sti1, ↓sti2, ↓sti3, ↓sti4, ↓sti5, ↓sti6, ↓sti7, ↓kturn_eq, ↓turnB_eq, ↓kTurn_eq, ↓tTurn_eq, ↓tNone_eq, ↓kTurn2_eq, ↓kTurn3_eq, ↓itO_t, ↓itO_f, ↓itO_e, ↓wipO_ok, ↓wipO_ite, ↓asgB_some, ↓lturn_eq, ↓asgS_some, ↓fgtS_nx, ↓fgtS_ct, ↓fgtS_bk, ↓fgtS_rt, ↓fgtS_ite, ↓srcR, ↓src_t, ↓src_l, ↓src_rev_t, ↓src_rev_l, ↓src_enum_t, ↓src_enum_l, ↓bs_tuple_l, ↓bs_tuple_t, ↓bs_list_l, ↓bs_list_t, ↓bs_list_d, ↓bs_int, ↓bs_len_l, ↓bs_len_r, ↓bs_len_t, ↓bs_len_d, ↓bs_min2, ↓bs_max2, ↓in_int_t, ↓in_int_l, tr1_d, tr2_d, iteS_d, itO_d, isNonV, notTup, eq_self, or_true, true_or, or_false, false_or, or_self, and_false, false_and, not_false_eq_true, ne_eq, List.length_map, Int.reduceLT, Int.reduceNeg, Int.reduceLE, Int.reduceAdd, Int.reduceSub, Int.reduceMul, Int.reduceToNat, Int.reduceEq, pinO_eq, List.contains_cons, List.contains_nil, beq_self_eq_true, Nat.reduceBEq, E.isNon, if_true, if_false, ite_true, ite_false, Bool.false_eq_true, decide_true, decide_false, decide_eq_true_eq, List.length_cons, List.length_nil, List.length_set, List.map_cons, List.map_nil, List.map_append, List.nil_append, List.cons_append, List.append_nil, List.replicate_succ, List.replicate_zero, List.take_succ_cons, List.take_zero, List.zip_cons_cons, List.zip_nil_left, List.zip_nil_right, precv, ofString_inj, Nat.sub_self, Nat.reduceAdd, Nat.reduceSub, Nat.reduceLT, Nat.reduceLeDiff, Bool.and_true, Bool.and_false, Bool.true_and, Bool.false_and, Bool.or_true, Bool.or_false, Bool.true_or, Bool.false_or, Bool.not_true, Bool.not_false, reduceCtorEq, String.reduceEq, not_true, not_false_iff, true_and, and_true, and_self, isNms, List.all_cons, List.all_nil, decide_not, lend__law_item, pin__law_item, lend__law_draw, pin__law_draw, lend__law_cells, pin__law_cells, lend__law_program, pin__law_program, lend__law_pen, pin__law_pen, $xs,*])
variable {Pr : Prg} {L : Str → List Bool} {k : Nat}
inductive Item where | dod (a : Int) (cs : List Int) | ask (a : Int) | snd (cs : List Int) | mrk (cs : List Int)
  deriving DecidableEq
def Item.enc : Item → Pv
  | .dod a cs => .tup [.str "do", .int a, tI cs]
  | .ask a => .tup [.str "ask", .int a]
  | .snd cs => .tup [.str "send", tI cs]
  | .mrk cs => .tup [.str "mark", tI cs]
def Item.Ok (m : Int) : Item → Prop
  | .dod a cs => (0 ≤ a ∧ a < m) ∧ Cells m cs ∧ cs.length ≤ 3
  | .ask a => 0 ≤ a ∧ a < m
  | .snd cs => Cells m cs ∧ cs.length ≤ 3 ∧ cs ≠ []
  | .mrk cs => Cells m cs
theorem veq_tnil {cs : List Int} : pcmp .Eq (.tup (cs.map .int)) (.tup []) = some (decide (cs = [])) := by
  rw [veq_ni ((nd_tup (c := 0) (nd_map fun x _ => nd_int x)).ni (by omega)) ((nd_tup (c := 0) nd_nil).ni (by omega))]
  cases cs <;> simp
theorem c_item [C__law_item Pr L] {s : PenS} (hs : s.Ok) {m : Int} (hm : 0 < m) (hm2 : m < 999) :
    ∃ (it : Item) (s' : PenS), pcallAt Pr L (k + 4) "_law_item" [.ol s.vs, .fz (.int m)] [] = some (.fz it.enc, [some (.ol s'.vs), none]) ∧ it.Ok m ∧ s'.Ok := by
  rw [pca__law_item rfl]
  obtain ⟨o, s1, e1, o0, o1, hs1⟩ := c_draw (Pr := Pr) (L := L) (k := k + 1) hs (m := 9) (by omega) (by omega)
  obtain ⟨c, s2, e2, c0, c1, hs2⟩ := c_draw (Pr := Pr) (L := L) (k := k + 1) hs1 (m := m) (by omega) (by omega)
  obtain ⟨cs, s3, e3, hc3, hl3, hs3⟩ := c_cells (Pr := Pr) (L := L) (k := k) hs2 (m := m) (n := 3) hm (by omega) (by omega) (by omega)
  obtain ⟨ms, s4, e4, hc4, hl4, hs4⟩ := c_cells (Pr := Pr) (L := L) (k := k) hs2 (m := m) (n := m) hm (by omega) (by omega) (by omega)
  simp only [tI] at e3 e4
  by_cases h1 : o < 4
  · refine ⟨.dod c cs, s3, ?_, ⟨⟨c0, c1⟩, hc3, by omega⟩, hs3⟩
    simp_arith [f__law_item, e1, e2, e3, h1, Item.enc, tI]
  by_cases h2 : o = 4
  · refine ⟨.ask c, s2, ?_, ⟨c0, c1⟩, hs2⟩
    simp_arith [f__law_item, e1, e2, h1, eq_true h2, Item.enc]
  by_cases h3 : o < 7
  · by_cases h4 : cs = []
    · refine ⟨.snd [c], s3, ?_, ⟨⟨fun x hx => by rw [List.mem_singleton.mp hx]; exact ⟨c0, c1⟩, List.pairwise_singleton _ _⟩, by simp, by simp⟩, hs3⟩
      simp_arith [f__law_item, e1, e2, e3, h1, eq_false h2, h3, veq_tnil, eq_true h4, Item.enc, tI]
    · refine ⟨.snd cs, s3, ?_, ⟨hc3, by omega, h4⟩, hs3⟩
      simp_arith [f__law_item, e1, e2, e3, h1, eq_false h2, h3, veq_tnil, eq_false h4, Item.enc, tI]
  · refine ⟨.mrk ms, s4, ?_, hc4, hs4⟩
    simp_arith [f__law_item, e1, e2, e4, h1, eq_false h2, h3, Item.enc, tI]
structure Prog where
  kept : Int
  loose : Int
  items : List Item
def Prog.many (p : Prog) : Int := p.kept + p.loose
def Prog.enc (p : Prog) : Pv := .tup [.int p.kept, .int p.loose, .tup (p.items.map Item.enc)]
structure Prog.Ok (p : Prog) : Prop where
  k0 : 0 ≤ p.kept
  k1 : p.kept ≤ 4
  l0 : 0 ≤ p.loose
  l1 : p.loose ≤ 5
  pos : 0 < p.many
  its : ∀ i ∈ p.items, i.Ok p.many
  len : p.items.length ≤ 64
theorem paired_mem {α β : Type} {F : α → β → Prop} {xs : List α} {ys : List β} (h : Paired F xs ys) : ∀ y ∈ ys, ∃ x ∈ xs, F x y := by
  induction h with
  | nil => intro y hy; cases hy
  | cons r _ ih =>
    intro y hy
    rcases List.mem_cons.mp hy with rfl | hy
    · exact ⟨_, List.mem_cons_self, r⟩
    · obtain ⟨x, h1, h2⟩ := ih y hy; exact ⟨x, List.mem_cons_of_mem _ h1, h2⟩
theorem paired_len {α β : Type} {F : α → β → Prop} {xs : List α} {ys : List β} (h : Paired F xs ys) : ys.length = xs.length := by
  induction h with
  | nil => rfl
  | cons _ _ ih => simp [ih]
def eltOf : E → E
  | .comp _ _ _ _ _ e => e
  | e => e
theorem c_program [C__law_program Pr L] {s : PenS} (hs : s.Ok) {a b n : Int} (a0 : 0 ≤ a) (a1 : a ≤ 4) (b0 : 0 ≤ b) (b1 : b ≤ 5) (n0 : 0 ≤ n) (n1 : n ≤ 64) :
    ∃ (p : Prog) (s' : PenS), pcallAt Pr L (k + 5) "_law_program" [.ol s.vs, .fz (.int a), .fz (.int b), .fz (.int n)] [] = some (.fz p.enc, [some (.ol s'.vs), none, none, none]) ∧ p.Ok ∧ p.kept = a ∧ (a + b ≠ 0 → p.loose = b) ∧ (a + b = 0 → p.loose = 1) ∧ (p.items.length : Int) ≤ n ∧ s'.Ok := by
  rw [pca__law_program rfl]
  obtain ⟨r, s1, e1, r0, r1, hs1⟩ := c_draw (Pr := Pr) (L := L) (k := k + 2) hs (m := n + 1) (by omega) (by omega)
  have hr : prangeOf [.int r] = some ((List.range r.toNat).map fun i : Nat => .int i) := rg1 (by omega) (by omega)
  have main : ∀ b : Int, 0 ≤ b → b ≤ 5 → 0 < a + b → ∃ (its : List Item) (s' : PenS), kcomp (Pn.pgam Pr L "_law_program" (k + 4)) (.nm 4) [4] [] (.call "_law_item" [.var 0, .bin .Add (.var 1) (.var 2)] [] []) (some ((List.range r.toNat).map fun i : Nat => .int i)) [some (.ol s1.vs), some (.fz (.int a)), some (.fz (.int b)), some (.fz (.int n)), none] = .ok (.v (.ol (its.map Item.enc))) [some (.ol s'.vs), some (.fz (.int a)), some (.fz (.int b)), some (.fz (.int n)), none] ∧ (∀ i ∈ its, i.Ok (a + b)) ∧ its.length = r.toNat ∧ s'.Ok := fun b b0 b1 hp => by
    obtain ⟨its, s', e2, hp2, hs'⟩ := kcomp_st (Γ := Pn.pgam Pr L "_law_program" (k + 4)) (t := .nm 4) (own := [4]) (cs := []) (elt := .call "_law_item" [.var 0, .bin .Add (.var 1) (.var 2)] [] []) (enc := fun i : Nat => Pv.int i) (xs := List.range r.toNat) (ρ := [some (.ol s1.vs), some (.fz (.int a)), some (.fz (.int b)), some (.fz (.int n)), none])
      (fun s : PenS => [some (.ol s.vs), some (.fz (.int a)), some (.fz (.int b)), some (.fz (.int n)), none]) PenS.Ok Item.enc (fun _ it => it.Ok (a + b)) (s0 := s1) (fun x hx s hs => by
        obtain ⟨it, s2, e3, hi, hs2⟩ := c_item (Pr := Pr) (L := L) (k := k) hs (m := a + b) hp (by omega)
        exact ⟨it, s2, by simp_arith [e3], hi, hs2⟩) hs1 rfl (by simp; omega)
    refine ⟨its, s', ?_, fun i hi => (paired_mem hp2 i hi).elim fun x hx => hx.2, by rw [paired_len hp2, List.length_range], hs'⟩
    rw [e2]
    simp_arith []
  by_cases h : a + b = 0
  · obtain ⟨its, s', e2, h1, h2, h3⟩ := main 1 (by omega) (by omega) (by omega)
    refine ⟨⟨a, 1, its⟩, s', ?_, ⟨a0, a1, by show (0 : Int) ≤ 1; omega, by show (1 : Int) ≤ 5; omega, by show 0 < a + 1; omega, h1, by show its.length ≤ 64; omega⟩, rfl, fun z => (z h).elim, fun _ => rfl, by show (its.length : Int) ≤ n; omega, h3⟩
    simp_arith [f__law_program, eq_true h, e1, hr, e2, Prog.enc]
  · obtain ⟨its, s', e2, h1, h2, h3⟩ := main b b0 b1 (by omega)
    refine ⟨⟨a, b, its⟩, s', ?_, ⟨a0, a1, b0, b1, by show 0 < a + b; omega, h1, by show its.length ≤ 64; omega⟩, rfl, fun _ => rfl, fun z => (h z).elim, by show (its.length : Int) ≤ n; omega, h3⟩
    simp_arith [f__law_program, eq_false h, e1, hr, e2, Prog.enc]
theorem c_pen [C__law_pen Pr L] (ns : List Int) : ∃ s : PenS, pcallAt Pr L (k + 1) "_law_pen" [.fz (.rol (ns.map .int))] [] = some (.ol s.vs, [none]) ∧ s.Ok := by
  rw [pca__law_pen rfl]
  refine ⟨⟨(ns.take 63), 0, 0⟩, ?_, by show (ns.take 63).length ≤ 63; rw [List.length_take]; omega, Int.le_refl 0⟩
  have hsl : pslice (.rol (ns.map .int)) none (some 63) = some (.ol ((ns.take 63).map .int)) := by
    show some (P.ol (cut (ns.map Pv.int) none (some 63))) = _
    congr 2
    unfold cut
    rw [HT.sIx_none, show HT.sIx (ns.map Pv.int).length (ns.map Pv.int).length (some 63) = min 63 (ns.map Pv.int).length from HT.sIx_nat _ _ 63]
    rw [List.drop_zero, Nat.sub_zero, List.map_take, List.take_eq_take_iff]
    simp
  simp_arith [f__law_pen, hsl, PenS.vs]
end Mn
end -- Ct2
section -- Ct3
set_option linter.all false
set_option autoImplicit false
set_option maxRecDepth 100000
namespace Mn
open PySem L2
local macro_rules | `(tactic| simp_arith [$xs,*]) => `(tactic| simp only [↓PS.seq_nx, ↓PS.seq_rt, ↓PS.seq_bk, ↓PS.seq_ct, ↓ite_seq, ↓ite_bind, ↓ite_st, ↓bind_ok', ↓st_ok', ↓view_fz, ↓view_ol, ↓view_od, ↓view_oi, ↓rvar_fz, ↓rvar_ol, ↓rvar_od, ↓rvar_oi, ↓pv2_some, ↓pk_v, ↓pk_al, ↓pkF_v, ↓pkF_al, ↓pks_nil, ↓cons2_some, ↓pks_cons, ↓tk_v, ↓tk_al, ↓tk2_fz, ↓tk2_ol, ↓tk2_od, ↓tk2_oi, ↓tks_nil, ↓kTks2_eq, ↓kTks1_eq, ↓tks_cons, ↓mkP_some, ↓mkV_some, ↓mkB_some, ↓mk2_some, ↓tr1_t, ↓tr1_f, ↓tr1_e, ↓mkT_some, ↓obind_some, ↓pE_var, ↓pE_glob, ↓pE_non, ↓pE_bl, ↓pE_int, ↓pE_str, ↓pE_ty, ↓kTup2_eq, ↓kTup1_eq, ↓pE_tup, ↓kLst2_eq, ↓kLst1_eq, ↓pE_lst, ↓mkD_some, ↓kDct4_eq, ↓kDct3_eq, ↓kDct2_eq, ↓kDct1_eq, ↓pE_dct, ↓kBin2_eq, ↓kBin1_eq, ↓pE_bin, ↓kCmp2_eq, ↓kCmp1_eq, ↓pE_cmp, ↓kIdx2_eq, ↓kIdx1_eq, ↓pE_idx, ↓tFalse_eq, ↓chn_some, ↓kCh4_eq, ↓kCh3_eq, ↓kCh2_eq, ↓kCh1_eq, ↓pE_chain, ↓mkI_some, ↓kNeg_eq, ↓pE_neg, ↓notO_some, ↓kNot_eq, ↓pE_not, ↓tE_eq, ↓tR_eq, ↓kAnd_eq, ↓pE_and, ↓kOr_eq, ↓pE_or, ↓kIte_eq, ↓pE_ite, ↓bslice_some, ↓kSl3_eq, ↓kSl2_eq, ↓kSl1_eq, ↓pE_sl, ↓mkL_some, ↓kPart_eq, ↓ppart_t, ↓ppart_f, ↓kSlr_eq, ↓pE_slr, ↓mkA_ins, ↓kAttr_eq, ↓pE_attr, ↓kCall2_eq, ↓kCall1_eq, ↓pE_call, ↓kMake2_eq, ↓kMake1_eq, ↓pE_make, ↓mkM_ins, ↓kMeth3_eq, ↓kMeth2_eq, ↓tMeth_eq, ↓kMeth1_eq, ↓pE_meth, ↓kBc_eq, ↓pE_bcall, ↓guardT_t, ↓kBm2_eq, ↓tBm_eq, ↓kBm1_eq, ↓pE_bmeth, ↓brng_some, ↓kRng_eq, ↓pE_rng, ↓mkR_some, ↓kComp2_eq, ↓kComp1_eq, ↓pE_comp, ↓kDcomp2_eq, ↓kDcomp1_eq, ↓pE_dcomp, ↓kCons2_eq, ↓kCons1_eq, ↓pEs_nil, ↓pEs_cons, ↓tr2_t, ↓tr2_f, ↓tr2_e, ↓tC_eq, ↓tCf_eq, ↓kC1_eq, ↓pC_nil, ↓pC_cons, ↓kSs_eq, ↓pSs_nil, ↓pSs_cons, ↓mkN_some, ↓kPar2_eq, ↓kPar1_eq, ↓pS_par, ↓kAsg_eq, ↓asgR_v, ↓asgR_al, ↓pS_nm, ↓asgP_tup, ↓kAsgP_eq, ↓pS_tp, ↓bst_some, ↓kSet4_eq, ↓kSet3_eq, ↓kSet2_eq, ↓kSet1_eq, ↓pS_setI, ↓kSA3_eq, ↓kSA2_eq, ↓kSA1_eq, ↓pS_setA, ↓augR_int, ↓kAug_eq, ↓aug1_int, ↓pS_aug, ↓kExpr_eq, ↓pS_expr, ↓kRet_eq, ↓pS_ret, ↓iteS_t, ↓iteS_f, ↓iteS_e, ↓tS_eq, ↓kIf_eq, ↓pS_ite, ↓kT_eq, ↓pT_eq, ↓kFor2_eq, ↓kFor1_eq, ↓pS_for, ↓pS_while, ↓pS_brk, ↓pS_cnt, ↓pS_pass, ↓mkC_some, ↓fsts_nil, ↓fsts_cons, ↓kCall4_eq, ↓kCall3_eq, ↓pcallR_eq, ↓kMk4_eq, ↓kMk3_eq, ↓pmakeR_eq, ↓kL2_eq, ↓kL1_eq, ↓lendA_nil, ↓lendA_e, ↓lendA_f, ↓lendA_tv, ↓lendA_ta, ↓lend2_fz, ↓lend2_ol, ↓lend2_od, ↓lend2_oi, ↓giveB_nil, ↓giveB_n, ↓giveB_s, ↓giveB_o, ↓kApp_eq, ↓bm_append, ↓mAppend_ol, ↓kIns_eq, ↓bm_insert, ↓mInsert_ol, ↓bm_extend, ↓mExt0_l, ↓mExt0_t, ↓mExt_ol, ↓bm_pop, ↓mPop_last, ↓kGet_eq, ↓bm_get, ↓mGet_d, ↓kSetd_eq, ↓bm_setd, ↓bm_count, ↓isF_fz, ↓isF_ol, ↓isF_od, ↓isF_oi, ↓ret_nx, ↓ret_v, ↓ret_al, ↓ret2_fz, ↓ret2_o, ↓ret2_p, ↓ret_ite, ↓finL_eq, ↓omap_some, ↓omap_ite, ↓run_eq, ↓pgam_call, ↓mask_nil, ↓mask_e, ↓mask_t, ↓mask_f, ↓stI_al, ↓stI_od, ↓stA_al, ↓stA_oi, ↓pputP_eq, ↓pputPs_nil, ↓putK_some, ↓pputPs_cons, ↓pres_nil, ↓kPr_eq, ↓kPr1_eq, ↓pres_v, ↓pres_al, ↓asgT_nm, ↓asgT_tp, ↓asgK_some, ↓asgTs_cons, ↓pasgTs_nil, ↓pinL_nil, ↓pinL_z, ↓pinL_s, ↓wipe_nil', ↓wipe_cons', ↓rst1_fz, ↓rst1_none, ↓rst1_ol, ↓prst_nil, ↓prst_cons, ↓fgt_s, ↓fgt_n, ↓fgt_e, ↓b_add, ↓b_sub, ↓b_mul_r, ↓b_mul_l, ↓b_pow18, ↓b_mod, ↓b_div, ↓b_tup, ↓b_lst, ↓c_lt, ↓c_le, ↓c_gt, ↓c_ge, ↓c_ne, ↓c_in, ↓c_nin, ↓c_is, ↓c_isn, ↓is_non, ↓veq_int, ↓veq_str, ↓tr_bl, ↓sub_t, ↓prevs_l, ↓sub_l, ↓sub_d, ↓get0, ↓set0, ↓ix0, ↓get1, ↓set1, ↓ix1, ↓get2, ↓set2, ↓ix2, ↓get3, ↓set3, ↓ix3, ↓get4, ↓set4, ↓ix4, ↓get5, ↓set5, ↓ix5, ↓get6, ↓set6, ↓ix6, ↓get7, ↓set7, ↓ix7, ↓get8, ↓set8, ↓ix8, ↓get9, ↓set9, ↓ix9, ↓get10, ↓set10, ↓ix10, ↓get11, ↓set11, ↓ix11, ↓get12, ↓set12, ↓ix12, ↓get13, ↓set13, ↓ix13, ↓sti0, ↓sti1, ↓sti2, ↓sti3, ↓sti4, ↓sti5, ↓sti6, ↓sti7, ↓kturn_eq, ↓turnB_eq, ↓kTurn_eq, ↓tTurn_eq, ↓tNone_eq, ↓kTurn2_eq, ↓kTurn3_eq, ↓itO_t, ↓itO_f, ↓itO_e, ↓wipO_ok, ↓wipO_ite, ↓asgB_some, ↓lturn_eq, ↓asgS_some, ↓fgtS_nx, ↓fgtS_ct, ↓fgtS_bk, ↓fgtS_rt, ↓fgtS_ite, ↓srcR, ↓src_t, ↓src_l, ↓src_rev_t, ↓src_rev_l, ↓src_enum_t, ↓src_enum_l, ↓bs_tuple_l, ↓bs_tuple_t, ↓bs_list_l, ↓bs_list_t, ↓bs_list_d, ↓bs_int, ↓bs_len_l, ↓bs_len_r, ↓bs_len_t, ↓bs_len_d, ↓bs_min2, ↓bs_max2, ↓in_int_t, ↓in_int_l, tr1_d, tr2_d, iteS_d, itO_d, isNonV, notTup, eq_self, or_true, true_or, or_false, false_or, or_self, and_false, false_and, not_false_eq_true, ne_eq, List.length_map, Int.reduceLT, Int.reduceNeg, Int.reduceLE, Int.reduceAdd, Int.reduceSub, Int.reduceMul, Int.reduceToNat, Int.reduceEq, pinO_eq, List.contains_cons, List.contains_nil, beq_self_eq_true, Nat.reduceBEq, E.isNon, if_true, if_false, ite_true, ite_false, Bool.false_eq_true, decide_true, decide_false, decide_eq_true_eq, List.length_cons, List.length_nil, List.length_set, List.map_cons, List.map_nil, List.map_append, List.nil_append, List.cons_append, List.append_nil, List.replicate_succ, List.replicate_zero, List.take_succ_cons, List.take_zero, List.zip_cons_cons, List.zip_nil_left, List.zip_nil_right, precv, ofString_inj, Nat.sub_self, Nat.reduceAdd, Nat.reduceSub, Nat.reduceLT, Nat.reduceLeDiff, Bool.and_true, Bool.and_false, Bool.true_and, Bool.false_and, Bool.or_true, Bool.or_false, Bool.true_or, Bool.false_or, Bool.not_true, Bool.not_false, reduceCtorEq, String.reduceEq, not_true, not_false_iff, true_and, and_true, and_self, isNms, List.all_cons, List.all_nil, decide_not, lend_written_cell, pin_written_cell, lend_read_cells, pin_read_cells, lend__law_written, pin__law_written, lend__law_read, pin__law_read, lend_cell_count, pin_cell_count, lend_is_kept, pin_is_kept, $xs,*])
variable {Pr : Prg} {L : Str → List Bool} {k : Nat}
theorem strOk_of (s : String) : PyData.strOk (Str.ofString s) = true := by
  rw [Str.ofString_eq_toList]
  show (s.toList.map Char.toNat).toArray.all (· < 0x110000) = true
  rw [List.all_toArray, List.all_map, List.all_eq_true]
  intro c _
  have := c.valid
  show decide (c.toNat < 0x110000) = true
  rw [decide_eq_true_eq]
  have h : c.val.toNat.isValidChar := this
  unfold Nat.isValidChar at h
  show c.val.toNat < 0x110000
  omega
theorem ni_w (s : String) : Ni (.str (Str.ofString s)) := ni_str (strOk_of s)
theorem nd_w {c : Nat} (s : String) : Nd c (.str (Str.ofString s)) := nd_str (strOk_of s)
theorem in_words2 {a b c : String} : pcin (.str (Str.ofString a)) (.tup [.str (Str.ofString b), .str (Str.ofString c)]) = some (decide (a = b ∨ a = c)) := by
  rw [in_tup (ni_w a) (by intro w hw; simp only [List.mem_cons, List.not_mem_nil, or_false] at hw; rcases hw with rfl | rfl <;> exact ni_w _)]
  exact congrArg some (Bool.eq_iff_iff.mpr (by simp only [decide_eq_true_eq, List.mem_cons, List.not_mem_nil, or_false, pvstr_inj]))
/-- the cell that is written, the cells that are read -/
def Item.wr : Item → Option Int
  | .dod a _ => some a
  | .ask a => some a
  | _ => none
def oI : Option Int → Pv
  | some i => .int i
  | none => .non
def Item.rd : Item → List Int
  | .dod _ cs => cs
  | .snd cs => cs
  | _ => []
def Item.isMrk : Item → Bool
  | .mrk _ => true
  | _ => false
theorem c_written_cell [C_written_cell Pr L] (it : Item) : pcallAt Pr L (k + 1) "written_cell" [.fz it.enc] [] = some (.fz (oI it.wr), [none]) := by
  rw [pca_written_cell rfl]
  cases it <;> simp_arith [f_written_cell, Item.enc, in_words2, Item.wr, oI]
theorem c_read_cells [C_read_cells Pr L] (it : Item) : pcallAt Pr L (k + 1) "read_cells" [.fz it.enc] [] = some (.fz (tI it.rd), [none]) := by
  rw [pca_read_cells rfl]
  cases it <;> simp_arith [f_read_cells, Item.enc, Item.rd, tI]
theorem c__law_written [C__law_written Pr L] (it : Item) : pcallAt Pr L (k + 1) "_law_written" [.fz it.enc] [] = some (.fz (oI it.wr), [none]) := by
  rw [pca__law_written rfl]
  cases it <;> simp_arith [f__law_written, Item.enc, in_words2, Item.wr, oI]
theorem c__law_read [C__law_read Pr L] (it : Item) : pcallAt Pr L (k + 1) "_law_read" [.fz it.enc] [] = some (.fz (tI it.rd), [none]) := by
  rw [pca__law_read rfl]
  cases it <;> simp_arith [f__law_read, Item.enc, Item.rd, tI]
theorem c_cell_count [C_cell_count Pr L] (p : Prog) : pcallAt Pr L (k + 1) "cell_count" [.fz p.enc] [] = some (.fz (.int p.many), [none]) := by
  rw [pca_cell_count rfl]
  simp_arith [f_cell_count, Prog.enc, Prog.many]
theorem c_is_kept [C_is_kept Pr L] (p : Prog) (c : Int) : pcallAt Pr L (k + 1) "is_kept" [.fz p.enc, .fz (.int c)] [] = some (.fz (.bl (decide (c < p.kept))), [none, none]) := by
  rw [pca_is_kept rfl]
  simp_arith [f_is_kept, Prog.enc]
theorem ne_oI {x : Int} {o : Option Int} : pcmp .Eq (.int x) (oI o) = some (decide (o = some x)) := by
  cases o with
  | none => rw [oI, veq_ni (ni_int x) ni_non]; simp
  | some y => rw [oI, veq_int]; exact congrArg some (Bool.eq_iff_iff.mpr (by simp only [decide_eq_true_eq, Option.some.injEq]; exact eq_comm))
theorem ne_oI' {x : Int} {o : Option Int} : pcmp .Eq (oI o) (.int x) = some (decide (o = some x)) := by
  cases o with
  | none => rw [oI, veq_ni ni_non (ni_int x)]; simp
  | some y => rw [oI, veq_int]; exact congrArg some (Bool.eq_iff_iff.mpr (by simp only [decide_eq_true_eq, Option.some.injEq]))
theorem in_oI {o : Option Int} {xs : List Int} : pcin (oI o) (.tup (xs.map .int)) = some (match o with | some x => decide (x ∈ xs) | none => false) := by
  cases o with
  | none =>
    rw [oI, in_tup ni_non fun w hw => by obtain ⟨x, _, rfl⟩ := List.mem_map.mp hw; exact ni_int x]
    simp
  | some x => rw [oI, in_int_t]
end Mn
end -- Ct3
section -- Ct4
set_option linter.all false
set_option autoImplicit false
set_option maxRecDepth 100000
namespace Mn
open PySem L2
local macro_rules | `(tactic| simp_arith [$xs,*]) => `(tactic| simp only [↓PS.seq_nx, ↓PS.seq_rt, ↓PS.seq_bk, ↓PS.seq_ct, ↓ite_seq, ↓ite_bind, ↓ite_st, ↓bind_ok', ↓st_ok', ↓view_fz, ↓view_ol, ↓view_od, ↓view_oi, ↓rvar_fz, ↓rvar_ol, ↓rvar_od, ↓rvar_oi, ↓pv2_some, ↓pk_v, ↓pk_al, ↓pkF_v, ↓pkF_al, ↓pks_nil, ↓cons2_some, ↓pks_cons, ↓tk_v, ↓tk_al, ↓tk2_fz, ↓tk2_ol, ↓tk2_od, ↓tk2_oi, ↓tks_nil, ↓kTks2_eq, ↓kTks1_eq, ↓tks_cons, ↓mkP_some, ↓mkV_some, ↓mkB_some, ↓mk2_some, ↓tr1_t, ↓tr1_f, ↓tr1_e, ↓mkT_some, ↓obind_some, ↓pE_var, ↓pE_glob, ↓pE_non, ↓pE_bl, ↓pE_int, ↓pE_str, ↓pE_ty, ↓kTup2_eq, ↓kTup1_eq, ↓pE_tup, ↓kLst2_eq, ↓kLst1_eq, ↓pE_lst, ↓mkD_some, ↓kDct4_eq, ↓kDct3_eq, ↓kDct2_eq, ↓kDct1_eq, ↓pE_dct, ↓kBin2_eq, ↓kBin1_eq, ↓pE_bin, ↓kCmp2_eq, ↓kCmp1_eq, ↓pE_cmp, ↓kIdx2_eq, ↓kIdx1_eq, ↓pE_idx, ↓tFalse_eq, ↓chn_some, ↓kCh4_eq, ↓kCh3_eq, ↓kCh2_eq, ↓kCh1_eq, ↓pE_chain, ↓mkI_some, ↓kNeg_eq, ↓pE_neg, ↓notO_some, ↓kNot_eq, ↓pE_not, ↓tE_eq, ↓tR_eq, ↓kAnd_eq, ↓pE_and, ↓kOr_eq, ↓pE_or, ↓kIte_eq, ↓pE_ite, ↓bslice_some, ↓kSl3_eq, ↓kSl2_eq, ↓kSl1_eq, ↓pE_sl, ↓mkL_some, ↓kPart_eq, ↓ppart_t, ↓ppart_f, ↓kSlr_eq, ↓pE_slr, ↓mkA_ins, ↓kAttr_eq, ↓pE_attr, ↓kCall2_eq, ↓kCall1_eq, ↓pE_call, ↓kMake2_eq, ↓kMake1_eq, ↓pE_make, ↓mkM_ins, ↓kMeth3_eq, ↓kMeth2_eq, ↓tMeth_eq, ↓kMeth1_eq, ↓pE_meth, ↓kBc_eq, ↓pE_bcall, ↓guardT_t, ↓kBm2_eq, ↓tBm_eq, ↓kBm1_eq, ↓pE_bmeth, ↓brng_some, ↓kRng_eq, ↓pE_rng, ↓mkR_some, ↓kComp2_eq, ↓kComp1_eq, ↓pE_comp, ↓kDcomp2_eq, ↓kDcomp1_eq, ↓pE_dcomp, ↓kCons2_eq, ↓kCons1_eq, ↓pEs_nil, ↓pEs_cons, ↓tr2_t, ↓tr2_f, ↓tr2_e, ↓tC_eq, ↓tCf_eq, ↓kC1_eq, ↓pC_nil, ↓pC_cons, ↓kSs_eq, ↓pSs_nil, ↓pSs_cons, ↓mkN_some, ↓kPar2_eq, ↓kPar1_eq, ↓pS_par, ↓kAsg_eq, ↓asgR_v, ↓asgR_al, ↓pS_nm, ↓asgP_tup, ↓kAsgP_eq, ↓pS_tp, ↓bst_some, ↓kSet4_eq, ↓kSet3_eq, ↓kSet2_eq, ↓kSet1_eq, ↓pS_setI, ↓kSA3_eq, ↓kSA2_eq, ↓kSA1_eq, ↓pS_setA, ↓augR_int, ↓kAug_eq, ↓aug1_int, ↓pS_aug, ↓kExpr_eq, ↓pS_expr, ↓kRet_eq, ↓pS_ret, ↓iteS_t, ↓iteS_f, ↓iteS_e, ↓tS_eq, ↓kIf_eq, ↓pS_ite, ↓kT_eq, ↓pT_eq, ↓kFor2_eq, ↓kFor1_eq, ↓pS_for, ↓pS_while, ↓pS_brk, ↓pS_cnt, ↓pS_pass, ↓mkC_some, ↓fsts_nil, ↓fsts_cons, ↓kCall4_eq, ↓kCall3_eq, ↓pcallR_eq, ↓kMk4_eq, ↓kMk3_eq, ↓pmakeR_eq, ↓kL2_eq, ↓kL1_eq, ↓lendA_nil, ↓lendA_e, ↓lendA_f, ↓lendA_tv, ↓lendA_ta, ↓lend2_fz, ↓lend2_ol, ↓lend2_od, ↓lend2_oi, ↓giveB_nil, ↓giveB_n, ↓giveB_s, ↓giveB_o, ↓kApp_eq, ↓bm_append, ↓mAppend_ol, ↓kIns_eq, ↓bm_insert, ↓mInsert_ol, ↓bm_extend, ↓mExt0_l, ↓mExt0_t, ↓mExt_ol, ↓bm_pop, ↓mPop_last, ↓kGet_eq, ↓bm_get, ↓mGet_d, ↓kSetd_eq, ↓bm_setd, ↓bm_count, ↓isF_fz, ↓isF_ol, ↓isF_od, ↓isF_oi, ↓ret_nx, ↓ret_v, ↓ret_al, ↓ret2_fz, ↓ret2_o, ↓ret2_p, ↓ret_ite, ↓finL_eq, ↓omap_some, ↓omap_ite, ↓run_eq, ↓pgam_call, ↓mask_nil, ↓mask_e, ↓mask_t, ↓mask_f, ↓stI_al, ↓stI_od, ↓stA_al, ↓stA_oi, ↓pputP_eq, ↓pputPs_nil, ↓putK_some, ↓pputPs_cons, ↓pres_nil, ↓kPr_eq, ↓kPr1_eq, ↓pres_v, ↓pres_al, ↓asgT_nm, ↓asgT_tp, ↓asgK_some, ↓asgTs_cons, ↓pasgTs_nil, ↓pinL_nil, ↓pinL_z, ↓pinL_s, ↓wipe_nil', ↓wipe_cons', ↓rst1_fz, ↓rst1_none, ↓rst1_ol, ↓prst_nil, ↓prst_cons, ↓fgt_s, ↓fgt_n, ↓fgt_e, ↓b_add, ↓b_sub, ↓b_mul_r, ↓b_mul_l, ↓b_pow18, ↓b_mod, ↓b_div, ↓b_tup, ↓b_lst, ↓c_lt, ↓c_le, ↓c_gt, ↓c_ge, ↓c_ne, ↓c_in, ↓c_nin, ↓c_is, ↓c_isn, ↓is_non, ↓veq_int, ↓veq_str, ↓tr_bl, ↓sub_t, ↓prevs_l, ↓sub_l, ↓sub_d, ↓get0, ↓set0, ↓ix0, ↓get1, ↓set1, ↓ix1, ↓get2, ↓set2, ↓ix2, ↓get3, ↓set3, ↓ix3, ↓get4, ↓set4, ↓ix4, ↓get5, ↓set5, ↓ix5, ↓get6, ↓set6, ↓ix6, ↓get7, ↓set7, ↓ix7, ↓get8, ↓set8, ↓ix8, ↓get9, ↓set9, ↓ix9, ↓get10, ↓set10, ↓ix10, ↓get11, ↓set11, ↓ix11, ↓get12, ↓set12, ↓ix12, ↓get13, ↓set13, ↓ix13, ↓sti0, ↓sti1, ↓sti2, ↓sti3, ↓sti4, ↓sti5, ↓sti6, ↓sti7, ↓kturn_eq, ↓turnB_eq, ↓kTurn_eq, ↓tTurn_eq, ↓tNone_eq, ↓kTurn2_eq, ↓kTurn3_eq, ↓itO_t, ↓itO_f, ↓itO_e, ↓wipO_ok, ↓wipO_ite, ↓asgB_some, ↓lturn_eq, ↓asgS_some, ↓fgtS_nx, ↓fgtS_ct, ↓fgtS_bk, ↓fgtS_rt, ↓fgtS_ite, ↓srcR, ↓src_t, ↓src_l, ↓src_rev_t, ↓src_rev_l, ↓src_enum_t, ↓src_enum_l, ↓bs_tuple_l, ↓bs_tuple_t, ↓bs_list_l, ↓bs_list_t, ↓bs_list_d, ↓bs_int, ↓bs_len_l, ↓bs_len_r, ↓bs_len_t, ↓bs_len_d, ↓bs_min2, ↓bs_max2, ↓in_int_t, ↓in_int_l, tr1_d, tr2_d, iteS_d, itO_d, isNonV, notTup, eq_self, or_true, true_or, or_false, false_or, or_self, and_false, false_and, not_false_eq_true, ne_eq, List.length_map, Int.reduceLT, Int.reduceNeg, Int.reduceLE, Int.reduceAdd, Int.reduceSub, Int.reduceMul, Int.reduceToNat, Int.reduceEq, pinO_eq, List.contains_cons, List.contains_nil, beq_self_eq_true, Nat.reduceBEq, E.isNon, if_true, if_false, ite_true, ite_false, Bool.false_eq_true, decide_true, decide_false, decide_eq_true_eq, List.length_cons, List.length_nil, List.length_set, List.map_cons, List.map_nil, List.map_append, List.nil_append, List.cons_append, List.append_nil, List.replicate_succ, List.replicate_zero, List.take_succ_cons, List.take_zero, List.zip_cons_cons, List.zip_nil_left, List.zip_nil_right, precv, ofString_inj, Nat.sub_self, Nat.reduceAdd, Nat.reduceSub, Nat.reduceLT, Nat.reduceLeDiff, Bool.and_true, Bool.and_false, Bool.true_and, Bool.false_and, Bool.or_true, Bool.or_false, Bool.true_or, Bool.false_or, Bool.not_true, Bool.not_false, reduceCtorEq, String.reduceEq, not_true, not_false_iff, true_and, and_true, and_self, isNms, List.all_cons, List.all_nil, decide_not, lend__law_some_program, pin__law_some_program, lend__law_program, pin__law_program, lend__law_draw, pin__law_draw, $xs,*])
/-! small values: shown -/
mutual
theorem pvd_toVal : ∀ {v : Pv}, nice v = true → pvd v = dV (Pn.toVal v)
  | .non, _ => rfl
  | .int _, _ => rfl
  | .str _, _ => rfl
  | .tup vs, h => by
    obtain ⟨ds, a1, a2, _⟩ := nices_dat 0 (vs := vs) h
    have ev : pvd (.tup vs) = .tuple ds := by show ((vdats 0 vs).map PyData.tuple).getD .none = _; rw [a1]; rfl
    rw [ev, (Pn.vdats_mem a1).1, pvds_toVal h]
    rfl
  | .bl _, h => by cases h
  | .lst _, h => by cases h
  | .rol _, h => by cases h
  | .dct _, h => by cases h
  | .ins _ _, h => by cases h
  | .ty _, h => by cases h
  | .glo _, h => by cases h
theorem pvds_toVal : ∀ {vs : List Pv}, nices vs = true → vs.map pvd = dVs (Pn.toVals vs)
  | [], _ => rfl
  | v :: vs, h => by
    have h : (nice v && nices vs) = true := h
    rw [Bool.and_eq_true] at h
    show pvd v :: vs.map pvd = dV (Pn.toVal v) :: dVs (Pn.toVals vs)
    rw [pvd_toVal h.1, pvds_toVal h.2]
end
/-- small: of so many steps and parts -/
structure Sm (c d : Nat) (v : Pv) : Prop where
  n : nice v = true
  s : smV (Pn.toVal v) = true
  c : dpV (Pn.toVal v) ≤ c
  d : szV (Pn.toVal v) ≤ d
theorem sm_int {d : Nat} {i : Int} (h : i.natAbs < 1000000000000) : Sm d 1 (.int i) := ⟨rfl, decide_eq_true h, Nat.zero_le _, Nat.le_refl _⟩
theorem sm_non {d : Nat} : Sm d 1 .non := ⟨rfl, rfl, Nat.zero_le _, Nat.le_refl _⟩
theorem ofStr_len (s : String) : (Str.ofString s).length = s.length := by
  rw [Str.ofString_eq_toList]; show ((s.toList.map Char.toNat).toArray).size = _; simp [← String.length_toList]
theorem sm_w {d : Nat} {s : String} (h : s.length ≤ 12) : Sm d 1 (.str (Str.ofString s)) := ⟨strOk_of s, by
  show (PyData.strOk (Str.ofString s) && decide ((Str.ofString s).cps.size ≤ 12)) = true
  rw [strOk_of, decide_eq_true]; rfl
  show (Str.ofString s).length ≤ 12
  rw [ofStr_len]; exact h, Nat.zero_le _, Nat.le_refl _⟩
theorem Sm.mono {c d c' d' : Nat} {v : Pv} (h : Sm c d v) (hc : c ≤ c') (hd : d ≤ d') : Sm c' d' v := ⟨h.n, h.s, Nat.le_trans h.c hc, Nat.le_trans h.d hd⟩
theorem sm_tup {c d n : Nat} {vs : List Pv} (h : ∀ v ∈ vs, Sm c d v) (hn : vs.length ≤ n) : Sm (c + 1) (d * n + 1) (.tup vs) := by
  have e := Pn.toVals_map vs
  refine ⟨nices_all.mpr fun v hv => (h v hv).n, ?_, ?_, ?_⟩
  · show smVs (Pn.toVals vs) = true
    rw [e]
    exact smVs_all fun v hv => by obtain ⟨x, hx, rfl⟩ := List.mem_map.mp hv; exact (h x hx).s
  · show dpVs (Pn.toVals vs) + 1 ≤ c + 1
    rw [e]
    exact Nat.succ_le_succ (dpVs_le fun v hv => by obtain ⟨x, hx, rfl⟩ := List.mem_map.mp hv; exact (h x hx).c)
  · show szVs (Pn.toVals vs) + 1 ≤ d * n + 1
    rw [e]
    have := szVs_le (c := d) (vs := vs.map Pn.toVal) fun v hv => by obtain ⟨x, hx, rfl⟩ := List.mem_map.mp hv; exact (h x hx).d
    rw [List.length_map] at this
    exact Nat.succ_le_succ (Nat.le_trans this (Nat.mul_le_mul_left d hn))
theorem sm_map {α : Type} {c d : Nat} {f : α → Pv} {xs : List α} (h : ∀ x ∈ xs, Sm c d (f x)) : ∀ v ∈ xs.map f, Sm c d v := fun v hv => by
  obtain ⟨x, h1, rfl⟩ := List.mem_map.mp hv; exact h x h1
theorem sm_nil {c d : Nat} : ∀ v ∈ ([] : List Pv), Sm c d v := fun v hv => by cases hv
theorem sm_cons {c d : Nat} {v : Pv} {vs : List Pv} (h : Sm c d v) (hs : ∀ w ∈ vs, Sm c d w) : ∀ w ∈ v :: vs, Sm c d w := fun w hw => by
  rcases List.mem_cons.mp hw with rfl | hw
  · exact h
  · exact hs w hw
def shw (v : Pv) : Str := (pvd v).shown
theorem Sm.repr {c d : Nat} {v : Pv} (h : Sm c d v) (hc : c ≤ 60) (hd : d ≤ 25000) : pbcall .repr [v] = some (.fz (.str (shw v))) := by
  obtain ⟨x, a1, a2, a3, a4⟩ := nice_dat 6 h.n
  have ok : okV (Pn.toVal v) := ⟨h.s, Nat.le_trans h.c hc, Nat.le_trans h.d hd⟩
  have := ok.shown
  rw [← pvd_toVal h.n] at this
  show (match vdat 6 v with | some d => if shownOk d then some (P.fz (.str d.shown)) else none | none => none) = _
  rw [a1, a2]
  dsimp only
  rw [if_pos this]; rfl
theorem sm_tI {m : Int} {cs : List Int} (h : Cells m cs) (hm : m ≤ 1000) {n : Nat} (hn : cs.length ≤ n) : Sm 1 (n + 1) (tI cs) := by
  have := sm_tup (c := 0) (d := 1) (n := n) (vs := cs.map .int) (sm_map fun x hx => sm_int (by have := h.bd x hx; omega)) (by simpa using hn)
  rwa [Nat.one_mul] at this
theorem sm_item {m : Int} {it : Item} (h : it.Ok m) (h0 : 0 ≤ m) (hm : m ≤ 9) : Sm 2 31 it.enc := by
  have w : ∀ s : String, s.length ≤ 12 → Sm 1 10 (.str (Str.ofString s)) := fun s hs => (sm_w hs).mono (Nat.le_refl _) (by omega)
  have i : ∀ a : Int, 0 ≤ a ∧ a < m → Sm 1 10 (.int a) := fun a ha => (sm_int (by omega)).mono (Nat.le_refl _) (by omega)
  have t : ∀ cs : List Int, Cells m cs → Sm 1 10 (tI cs) := fun cs hc => sm_tI hc (by omega) (by have := cells_len hc h0; omega)
  cases it with
  | dod a cs => exact sm_tup (n := 3) (sm_cons (w "do" (by decide)) (sm_cons (i a h.1) (sm_cons (t cs h.2.1) sm_nil))) (by simp)
  | ask a => exact (sm_tup (n := 3) (sm_cons (w "ask" (by decide)) (sm_cons (i a h) sm_nil)) (by simp))
  | snd cs => exact (sm_tup (n := 3) (sm_cons (w "send" (by decide)) (sm_cons (t cs h.1) sm_nil)) (by simp))
  | mrk cs => exact (sm_tup (n := 3) (sm_cons (w "mark" (by decide)) (sm_cons (t cs h) sm_nil)) (by simp))
theorem sm_prog {p : Prog} (h : p.Ok) : Sm 4 6000 p.enc := by
  have h2 : p.many ≤ 9 := by have := h.k1; have := h.l1; show p.kept + p.loose ≤ 9; omega
  have h0 : 0 ≤ p.many := by have := h.pos; omega
  refine (sm_tup (c := 3) (d := 1985) (n := 3) (sm_cons ((sm_int (by have := h.k0; have := h.k1; omega)).mono (Nat.le_refl _) (by omega)) (sm_cons ((sm_int (by have := h.l0; have := h.l1; omega)).mono (Nat.le_refl _) (by omega)) (sm_cons ?_ sm_nil))) (by simp)).mono (by omega) (by omega)
  exact (sm_tup (c := 2) (d := 31) (n := 64) (sm_map fun it hi => sm_item (h.its it hi) h0 h2) (by simpa using h.len)).mono (by omega) (by omega)
theorem c_some_program {Pr : Prg} {L : Str → List Bool} {k : Nat} [C__law_some_program Pr L] {s : PenS} (hs : s.Ok) {n : Int} (n0 : 0 ≤ n) (n1 : n ≤ 64) :
    ∃ (p : Prog) (s' : PenS), pcallAt Pr L (k + 6) "_law_some_program" [.ol s.vs, .fz (.int n)] [] = some (.fz p.enc, [some (.ol s'.vs), none]) ∧ p.Ok ∧ (p.items.length : Int) ≤ n ∧ p.kept ≤ 3 ∧ p.loose ≤ 3 ∧ s'.Ok := by
  rw [pca__law_some_program rfl]
  obtain ⟨a, s1, e1, a0, a1, hs1⟩ := c_draw (Pr := Pr) (L := L) (k := k + 3) hs (m := 6) (by omega) (by omega)
  obtain ⟨b, s2, e2, b0, b1, hs2⟩ := c_draw (Pr := Pr) (L := L) (k := k + 3) hs1 (m := 6) (by omega) (by omega)
  have hx : ∀ a : Int, 0 ≤ a → a < 6 → ∃ x : Int, pixV [.int 0, .int 1, .int 1, .int 2, .int 2, .int 3] a = some (.int x) ∧ 0 ≤ x ∧ x ≤ 3 := fun a a0 a1 => by
    obtain ⟨n, rfl⟩ : ∃ n : Nat, a = n := ⟨a.toNat, by omega⟩
    have : n < 6 := by omega
    rcases n with _ | _ | _ | _ | _ | _ | n
    · exact ⟨0, ix0, by omega, by omega⟩
    · exact ⟨1, ix1, by omega, by omega⟩
    · exact ⟨1, ix2, by omega, by omega⟩
    · exact ⟨2, ix3, by omega, by omega⟩
    · exact ⟨2, ix4, by omega, by omega⟩
    · exact ⟨3, ix5, by omega, by omega⟩
    · omega
  obtain ⟨x, hx1, x0, x1⟩ := hx a a0 a1
  obtain ⟨y, hy1, y0, y1⟩ := hx b b0 b1
  obtain ⟨p, s3, e3, hp, hk, hl, hl0, hlen, hs3⟩ := c_program (Pr := Pr) (L := L) (k := k) hs2 (a := x) (b := y) (n := n) x0 (by omega) y0 (by omega) n0 n1
  refine ⟨p, s3, ?_, hp, hlen, by omega, ?_, hs3⟩
  · simp_arith [f__law_some_program, e1, e2, hx1, hy1, e3]
  · by_cases h : x + y = 0
    · rw [hl0 h]; omega
    · rw [hl h]; exact y1
end Mn
end -- Ct4
section -- Ct5
set_option linter.all false
set_option autoImplicit false
set_option maxRecDepth 100000
namespace Mn
open PySem L2
local macro_rules | `(tactic| simp_arith [$xs,*]) => `(tactic| simp only [↓PS.seq_nx, ↓PS.seq_rt, ↓PS.seq_bk, ↓PS.seq_ct, ↓ite_seq, ↓ite_bind, ↓ite_st, ↓bind_ok', ↓st_ok', ↓view_fz, ↓view_ol, ↓view_od, ↓view_oi, ↓rvar_fz, ↓rvar_ol, ↓rvar_od, ↓rvar_oi, ↓pv2_some, ↓pk_v, ↓pk_al, ↓pkF_v, ↓pkF_al, ↓pks_nil, ↓cons2_some, ↓pks_cons, ↓tk_v, ↓tk_al, ↓tk2_fz, ↓tk2_ol, ↓tk2_od, ↓tk2_oi, ↓tks_nil, ↓kTks2_eq, ↓kTks1_eq, ↓tks_cons, ↓mkP_some, ↓mkV_some, ↓mkB_some, ↓mk2_some, ↓tr1_t, ↓tr1_f, ↓tr1_e, ↓mkT_some, ↓obind_some, ↓pE_var, ↓pE_glob, ↓pE_non, ↓pE_bl, ↓pE_int, ↓pE_str, ↓pE_ty, ↓kTup2_eq, ↓kTup1_eq, ↓pE_tup, ↓kLst2_eq, ↓kLst1_eq, ↓pE_lst, ↓mkD_some, ↓kDct4_eq, ↓kDct3_eq, ↓kDct2_eq, ↓kDct1_eq, ↓pE_dct, ↓kBin2_eq, ↓kBin1_eq, ↓pE_bin, ↓kCmp2_eq, ↓kCmp1_eq, ↓pE_cmp, ↓kIdx2_eq, ↓kIdx1_eq, ↓pE_idx, ↓tFalse_eq, ↓chn_some, ↓kCh4_eq, ↓kCh3_eq, ↓kCh2_eq, ↓kCh1_eq, ↓pE_chain, ↓mkI_some, ↓kNeg_eq, ↓pE_neg, ↓notO_some, ↓kNot_eq, ↓pE_not, ↓tE_eq, ↓tR_eq, ↓kAnd_eq, ↓pE_and, ↓kOr_eq, ↓pE_or, ↓kIte_eq, ↓pE_ite, ↓bslice_some, ↓kSl3_eq, ↓kSl2_eq, ↓kSl1_eq, ↓pE_sl, ↓mkL_some, ↓kPart_eq, ↓ppart_t, ↓ppart_f, ↓kSlr_eq, ↓pE_slr, ↓mkA_ins, ↓kAttr_eq, ↓pE_attr, ↓kCall2_eq, ↓kCall1_eq, ↓pE_call, ↓kMake2_eq, ↓kMake1_eq, ↓pE_make, ↓mkM_ins, ↓kMeth3_eq, ↓kMeth2_eq, ↓tMeth_eq, ↓kMeth1_eq, ↓pE_meth, ↓kBc_eq, ↓pE_bcall, ↓guardT_t, ↓kBm2_eq, ↓tBm_eq, ↓kBm1_eq, ↓pE_bmeth, ↓brng_some, ↓kRng_eq, ↓pE_rng, ↓mkR_some, ↓kComp2_eq, ↓kComp1_eq, ↓pE_comp, ↓kDcomp2_eq, ↓kDcomp1_eq, ↓pE_dcomp, ↓kCons2_eq, ↓kCons1_eq, ↓pEs_nil, ↓pEs_cons, ↓tr2_t, ↓tr2_f, ↓tr2_e, ↓tC_eq, ↓tCf_eq, ↓kC1_eq, ↓pC_nil, ↓pC_cons, ↓kSs_eq, ↓pSs_nil, ↓pSs_cons, ↓mkN_some, ↓kPar2_eq, ↓kPar1_eq, ↓pS_par, ↓kAsg_eq, ↓asgR_v, ↓asgR_al, ↓pS_nm, ↓asgP_tup, ↓kAsgP_eq, ↓pS_tp, ↓bst_some, ↓kSet4_eq, ↓kSet3_eq, ↓kSet2_eq, ↓kSet1_eq, ↓pS_setI, ↓kSA3_eq, ↓kSA2_eq, ↓kSA1_eq, ↓pS_setA, ↓augR_int, ↓kAug_eq, ↓aug1_int, ↓pS_aug, ↓kExpr_eq, ↓pS_expr, ↓kRet_eq, ↓pS_ret, ↓iteS_t, ↓iteS_f, ↓iteS_e, ↓tS_eq, ↓kIf_eq, ↓pS_ite, ↓kT_eq, ↓pT_eq, ↓kFor2_eq, ↓kFor1_eq, ↓pS_for, ↓pS_while, ↓pS_brk, ↓pS_cnt, ↓pS_pass, ↓mkC_some, ↓fsts_nil, ↓fsts_cons, ↓kCall4_eq, ↓kCall3_eq, ↓pcallR_eq, ↓kMk4_eq, ↓kMk3_eq, ↓pmakeR_eq, ↓kL2_eq, ↓kL1_eq, ↓lendA_nil, ↓lendA_e, ↓lendA_f, ↓lendA_tv, ↓lendA_ta, ↓lend2_fz, ↓lend2_ol, ↓lend2_od, ↓lend2_oi, ↓giveB_nil, ↓giveB_n, ↓giveB_s, ↓giveB_o, ↓kApp_eq, ↓bm_append, ↓mAppend_ol, ↓kIns_eq, ↓bm_insert, ↓mInsert_ol, ↓bm_extend, ↓mExt0_l, ↓mExt0_t, ↓mExt_ol, ↓bm_pop, ↓mPop_last, ↓kGet_eq, ↓bm_get, ↓mGet_d, ↓kSetd_eq, ↓bm_setd, ↓bm_count, ↓isF_fz, ↓isF_ol, ↓isF_od, ↓isF_oi, ↓ret_nx, ↓ret_v, ↓ret_al, ↓ret2_fz, ↓ret2_o, ↓ret2_p, ↓ret_ite, ↓finL_eq, ↓omap_some, ↓omap_ite, ↓run_eq, ↓pgam_call, ↓mask_nil, ↓mask_e, ↓mask_t, ↓mask_f, ↓stI_al, ↓stI_od, ↓stA_al, ↓stA_oi, ↓pputP_eq, ↓pputPs_nil, ↓putK_some, ↓pputPs_cons, ↓pres_nil, ↓kPr_eq, ↓kPr1_eq, ↓pres_v, ↓pres_al, ↓asgT_nm, ↓asgT_tp, ↓asgK_some, ↓asgTs_cons, ↓pasgTs_nil, ↓pinL_nil, ↓pinL_z, ↓pinL_s, ↓wipe_nil', ↓wipe_cons', ↓rst1_fz, ↓rst1_none, ↓rst1_ol, ↓prst_nil, ↓prst_cons, ↓fgt_s, ↓fgt_n, ↓fgt_e, ↓b_add, ↓b_sub, ↓b_mul_r, ↓b_mul_l, ↓b_pow18, ↓b_mod, ↓b_div, ↓b_tup, ↓b_lst, ↓c_lt, ↓c_le, ↓c_gt, ↓c_ge, ↓c_ne, ↓c_in, ↓c_nin, ↓c_is, ↓c_isn, ↓is_non, ↓veq_int, ↓veq_str, ↓tr_bl, ↓sub_t, ↓prevs_l, ↓sub_l, ↓sub_d, ↓get0, ↓set0, ↓ix0, ↓get1, ↓set1, ↓ix1, ↓get2, ↓set2, ↓ix2, ↓get3, ↓set3, ↓ix3, ↓get4, ↓set4, ↓ix4, ↓get5, ↓set5, ↓ix5, ↓get6, ↓set6, ↓ix6, ↓get7, ↓set7, ↓ix7, ↓get8, ↓set8, ↓ix8, ↓get9, ↓set9, ↓ix9, ↓get10, ↓set10, ↓ix10, ↓get11, ↓set11, ↓ix11, ↓get12, ↓set12, ↓ix12, ↓get13, ↓set13, ↓ix13, ↓sti0, ↓sti1, ↓sti2, ↓sti3, ↓sti4, ↓sti5, ↓sti6, ↓sti7, ↓kturn_eq, ↓turnB_eq, ↓kTurn_eq, ↓tTurn_eq, ↓tNone_eq, ↓kTurn2_eq, ↓kTurn3_eq, ↓itO_t, ↓itO_f, ↓itO_e, ↓wipO_ok, ↓wipO_ite, ↓asgB_some, ↓lturn_eq, ↓asgS_some, ↓fgtS_nx, ↓fgtS_ct, ↓fgtS_bk, ↓fgtS_rt, ↓fgtS_ite, ↓srcR, ↓src_t, ↓src_l, ↓src_rev_t, ↓src_rev_l, ↓src_enum_t, ↓src_enum_l, ↓bs_tuple_l, ↓bs_tuple_t, ↓bs_list_l, ↓bs_list_t, ↓bs_list_d, ↓bs_int, ↓bs_len_l, ↓bs_len_r, ↓bs_len_t, ↓bs_len_d, ↓bs_min2, ↓bs_max2, ↓in_int_t, ↓in_int_l, tr1_d, tr2_d, iteS_d, itO_d, isNonV, notTup, eq_self, or_true, true_or, or_false, false_or, or_self, and_false, false_and, not_false_eq_true, ne_eq, List.length_map, Int.reduceLT, Int.reduceNeg, Int.reduceLE, Int.reduceAdd, Int.reduceSub, Int.reduceMul, Int.reduceToNat, Int.reduceEq, pinO_eq, List.contains_cons, List.contains_nil, beq_self_eq_true, Nat.reduceBEq, E.isNon, if_true, if_false, ite_true, ite_false, Bool.false_eq_true, decide_true, decide_false, decide_eq_true_eq, List.length_cons, List.length_nil, List.length_set, List.map_cons, List.map_nil, List.map_append, List.nil_append, List.cons_append, List.append_nil, List.replicate_succ, List.replicate_zero, List.take_succ_cons, List.take_zero, List.zip_cons_cons, List.zip_nil_left, List.zip_nil_right, precv, ofString_inj, Nat.sub_self, Nat.reduceAdd, Nat.reduceSub, Nat.reduceLT, Nat.reduceLeDiff, Bool.and_true, Bool.and_false, Bool.true_and, Bool.false_and, Bool.or_true, Bool.or_false, Bool.true_or, Bool.false_or, Bool.not_true, Bool.not_false, reduceCtorEq, String.reduceEq, not_true, not_false_iff, true_and, and_true, and_self, isNms, List.all_cons, List.all_nil, decide_not, $xs,*])
/-! ascending lists -/
theorem asc_ext : ∀ {xs ys : List Int}, xs.Pairwise (· < ·) → ys.Pairwise (· < ·) → (∀ a, a ∈ xs ↔ a ∈ ys) → xs = ys
  | [], [], _, _, _ => rfl
  | [], y :: ys, _, _, h => by have := (h y).mpr List.mem_cons_self; cases this
  | x :: xs, [], _, _, h => by have := (h x).mp List.mem_cons_self; cases this
  | x :: xs, y :: ys, hx, hy, h => by
    rw [List.pairwise_cons] at hx hy
    have e : x = y := by
      rcases List.mem_cons.mp ((h x).mp List.mem_cons_self) with e | h1
      · exact e
      · rcases List.mem_cons.mp ((h y).mpr List.mem_cons_self) with e | h2
        · exact e.symm
        · have := hx.1 y h2
          have := hy.1 x h1
          omega
    subst e
    congr 1
    refine asc_ext hx.2 hy.2 fun a => ⟨fun ha => ?_, fun ha => ?_⟩
    · rcases List.mem_cons.mp ((h a).mp (List.mem_cons_of_mem _ ha)) with e | h1
      · subst e; have := hx.1 a ha; omega
      · exact h1
    · rcases List.mem_cons.mp ((h a).mpr (List.mem_cons_of_mem _ ha)) with e | h1
      · subst e; have := hy.1 a ha; omega
      · exact h1
theorem rng_asc (n : Nat) (p : Nat → Bool) : (((List.range n).filter p).map fun i : Nat => (i : Int)).Pairwise (· < ·) := by
  refine List.pairwise_map.mpr ?_
  exact (List.pairwise_lt_range.filter p).imp fun h => by omega
theorem cells_rng {m : Int} {cs : List Int} (h : Cells m cs) : ((List.range m.toNat).filter fun i : Nat => decide ((i : Int) ∈ cs)).map (fun i : Nat => (i : Int)) = cs := by
  refine asc_ext (rng_asc _ _) h.st fun a => ?_
  rw [List.mem_map]
  constructor
  · rintro ⟨i, h1, rfl⟩
    simpa using (List.mem_filter.mp h1).2
  · intro ha
    have := h.bd a ha
    refine ⟨a.toNat, List.mem_filter.mpr ⟨List.mem_range.mpr (by omega), ?_⟩, by omega⟩
    rw [show ((a.toNat : Nat) : Int) = a by omega]
    exact decide_eq_true ha
theorem veq_ee : pcmp .Eq (.tup []) (.tup []) = some true := rfl
end Mn
end -- Ct5
section -- Cm1
set_option linter.all false
set_option autoImplicit false
set_option maxRecDepth 100000
namespace Mn
open PySem L2
local macro_rules | `(tactic| simp_arith [$xs,*]) => `(tactic| simp only [↓PS.seq_nx, ↓PS.seq_rt, ↓PS.seq_bk, ↓PS.seq_ct, ↓ite_seq, ↓ite_bind, ↓ite_st, ↓bind_ok', ↓st_ok', ↓view_fz, ↓view_ol, ↓view_od, ↓view_oi, ↓rvar_fz, ↓rvar_ol, ↓rvar_od, ↓rvar_oi, ↓pv2_some, ↓pk_v, ↓pk_al, ↓pkF_v, ↓pkF_al, ↓pks_nil, ↓cons2_some, ↓pks_cons, ↓tk_v, ↓tk_al, ↓tk2_fz, ↓tk2_ol, ↓tk2_od, ↓tk2_oi, ↓tks_nil, ↓kTks2_eq, ↓kTks1_eq, ↓tks_cons, ↓mkP_some, ↓mkV_some, ↓mkB_some, ↓mk2_some, ↓tr1_t, ↓tr1_f, ↓tr1_e, ↓mkT_some, ↓obind_some, ↓pE_var, ↓pE_glob, ↓pE_non, ↓pE_bl, ↓pE_int, ↓pE_str, ↓pE_ty, ↓kTup2_eq, ↓kTup1_eq, ↓pE_tup, ↓kLst2_eq, ↓kLst1_eq, ↓pE_lst, ↓mkD_some, ↓kDct4_eq, ↓kDct3_eq, ↓kDct2_eq, ↓kDct1_eq, ↓pE_dct, ↓kBin2_eq, ↓kBin1_eq, ↓pE_bin, ↓kCmp2_eq, ↓kCmp1_eq, ↓pE_cmp, ↓kIdx2_eq, ↓kIdx1_eq, ↓pE_idx, ↓tFalse_eq, ↓chn_some, ↓kCh4_eq, ↓kCh3_eq, ↓kCh2_eq, ↓kCh1_eq, ↓pE_chain, ↓mkI_some, ↓kNeg_eq, ↓pE_neg, ↓notO_some, ↓kNot_eq, ↓pE_not, ↓tE_eq, ↓tR_eq, ↓kAnd_eq, ↓pE_and, ↓kOr_eq, ↓pE_or, ↓kIte_eq, ↓pE_ite, ↓bslice_some, ↓kSl3_eq, ↓kSl2_eq, ↓kSl1_eq, ↓pE_sl, ↓mkL_some, ↓kPart_eq, ↓ppart_t, ↓ppart_f, ↓kSlr_eq, ↓pE_slr, ↓mkA_ins, ↓kAttr_eq, ↓pE_attr, ↓kCall2_eq, ↓kCall1_eq, ↓pE_call, ↓kMake2_eq, ↓kMake1_eq, ↓pE_make, ↓mkM_ins, ↓kMeth3_eq, ↓kMeth2_eq, ↓tMeth_eq, ↓kMeth1_eq, ↓pE_meth, ↓kBc_eq, ↓pE_bcall, ↓guardT_t, ↓kBm2_eq, ↓tBm_eq, ↓kBm1_eq, ↓pE_bmeth, ↓brng_some, ↓kRng_eq, ↓pE_rng, ↓mkR_some, ↓kComp2_eq, ↓kComp1_eq, ↓pE_comp, ↓kDcomp2_eq, ↓kDcomp1_eq, ↓pE_dcomp, ↓kCons2_eq, ↓kCons1_eq, ↓pEs_nil, ↓pEs_cons, ↓tr2_t, ↓tr2_f, ↓tr2_e, ↓tC_eq, ↓tCf_eq, ↓kC1_eq, ↓pC_nil, ↓pC_cons, ↓kSs_eq, ↓pSs_nil, ↓pSs_cons, ↓mkN_some, ↓kPar2_eq, ↓kPar1_eq, ↓pS_par, ↓kAsg_eq, ↓asgR_v, ↓asgR_al, ↓pS_nm, ↓asgP_tup, ↓kAsgP_eq, ↓pS_tp, ↓bst_some, ↓kSet4_eq, ↓kSet3_eq, ↓kSet2_eq, ↓kSet1_eq, ↓pS_setI, ↓kSA3_eq, ↓kSA2_eq, ↓kSA1_eq, ↓pS_setA, ↓augR_int, ↓kAug_eq, ↓aug1_int, ↓pS_aug, ↓kExpr_eq, ↓pS_expr, ↓kRet_eq, ↓pS_ret, ↓iteS_t, ↓iteS_f, ↓iteS_e, ↓tS_eq, ↓kIf_eq, ↓pS_ite, ↓kT_eq, ↓pT_eq, ↓kFor2_eq, ↓kFor1_eq, ↓pS_for, ↓pS_while, ↓pS_brk, ↓pS_cnt, ↓pS_pass, ↓mkC_some, ↓fsts_nil, ↓fsts_cons, ↓kCall4_eq, ↓kCall3_eq, ↓pcallR_eq, ↓kMk4_eq, ↓kMk3_eq, ↓pmakeR_eq, ↓kL2_eq, ↓kL1_eq, ↓lendA_nil, ↓lendA_e, ↓lendA_f, ↓lendA_tv, ↓lendA_ta, ↓lend2_fz, ↓lend2_ol, ↓lend2_od, ↓lend2_oi, ↓giveB_nil, ↓giveB_n, ↓giveB_s, ↓giveB_o, ↓kApp_eq, ↓bm_append, ↓mAppend_ol, ↓kIns_eq, ↓bm_insert, ↓mInsert_ol, ↓bm_extend, ↓mExt0_l, ↓mExt0_t, ↓mExt_ol, ↓bm_pop, ↓mPop_last, ↓kGet_eq, ↓bm_get, ↓mGet_d, ↓kSetd_eq, ↓bm_setd, ↓bm_count, ↓isF_fz, ↓isF_ol, ↓isF_od, ↓isF_oi, ↓ret_nx, ↓ret_v, ↓ret_al, ↓ret2_fz, ↓ret2_o, ↓ret2_p, ↓ret_ite, ↓finL_eq, ↓omap_some, ↓omap_ite, ↓run_eq, ↓pgam_call, ↓mask_nil, ↓mask_e, ↓mask_t, ↓mask_f, ↓stI_al, ↓stI_od, ↓stA_al, ↓stA_oi, ↓pputP_eq, ↓pputPs_nil, ↓putK_some, ↓pputPs_cons, ↓pres_nil, ↓kPr_eq, ↓kPr1_eq, ↓pres_v, ↓pres_al, ↓asgT_nm, ↓asgT_tp, ↓asgK_some, ↓asgTs_cons, ↓pasgTs_nil, ↓pinL_nil, ↓pinL_z, ↓pinL_s, ↓wipe_nil', ↓wipe_cons', ↓rst1_fz, ↓rst1_none, ↓rst1_ol, ↓prst_nil, ↓prst_cons, ↓fgt_s, ↓fgt_n, ↓fgt_e, ↓b_add, ↓b_sub, ↓b_mul_r, ↓b_mul_l, ↓b_pow18, ↓b_mod, ↓b_div, ↓b_tup, ↓b_lst, ↓c_lt, ↓c_le, ↓c_gt, ↓c_ge, ↓c_ne, ↓c_in, ↓c_nin, ↓c_is, ↓c_isn, ↓is_non, ↓veq_int, ↓veq_str, ↓tr_bl, ↓sub_t, ↓prevs_l, ↓sub_l, ↓sub_d, ↓get0, ↓set0, ↓ix0, ↓get1, ↓set1, ↓ix1, ↓get2, ↓set2, ↓ix2, ↓get3, ↓set3, ↓ix3, ↓get4, ↓set4, ↓ix4, ↓get5, ↓set5, ↓ix5, ↓get6, ↓set6, ↓ix6, ↓get7, ↓set7, ↓ix7, ↓get8, ↓set8, ↓ix8, ↓get9, ↓set9, ↓ix9, ↓get10, ↓set10, ↓ix10, ↓get11, ↓set11, ↓ix11, ↓get12, ↓set12, ↓ix12, ↓get13, ↓set13, ↓ix13, ↓sti0, ↓sti1, ↓sti2, ↓sti3, ↓sti4, ↓sti5, ↓sti6, ↓sti7, ↓kturn_eq, ↓turnB_eq, ↓kTurn_eq, ↓tTurn_eq, ↓tNone_eq, ↓kTurn2_eq, ↓kTurn3_eq, ↓itO_t, ↓itO_f, ↓itO_e, ↓wipO_ok, ↓wipO_ite, ↓asgB_some, ↓lturn_eq, ↓asgS_some, ↓fgtS_nx, ↓fgtS_ct, ↓fgtS_bk, ↓fgtS_rt, ↓fgtS_ite, ↓srcR, ↓src_t, ↓src_l, ↓src_rev_t, ↓src_rev_l, ↓src_enum_t, ↓src_enum_l, ↓bs_tuple_l, ↓bs_tuple_t, ↓bs_list_l, ↓bs_list_t, ↓bs_list_d, ↓bs_int, ↓bs_len_l, ↓bs_len_r, ↓bs_len_t, ↓bs_len_d, ↓bs_min2, ↓bs_max2, ↓in_int_t, ↓in_int_l, tr1_d, tr2_d, iteS_d, itO_d, isNonV, notTup, eq_self, or_true, true_or, or_false, false_or, or_self, and_false, false_and, not_false_eq_true, ne_eq, List.length_map, Int.reduceLT, Int.reduceNeg, Int.reduceLE, Int.reduceAdd, Int.reduceSub, Int.reduceMul, Int.reduceToNat, Int.reduceEq, pinO_eq, List.contains_cons, List.contains_nil, beq_self_eq_true, Nat.reduceBEq, E.isNon, if_true, if_false, ite_true, ite_false, Bool.false_eq_true, decide_true, decide_false, decide_eq_true_eq, List.length_cons, List.length_nil, List.length_set, List.map_cons, List.map_nil, List.map_append, List.nil_append, List.cons_append, List.append_nil, List.replicate_succ, List.replicate_zero, List.take_succ_cons, List.take_zero, List.zip_cons_cons, List.zip_nil_left, List.zip_nil_right, precv, ofString_inj, Nat.sub_self, Nat.reduceAdd, Nat.reduceSub, Nat.reduceLT, Nat.reduceLeDiff, Bool.and_true, Bool.and_false, Bool.true_and, Bool.false_and, Bool.or_true, Bool.or_false, Bool.true_or, Bool.false_or, Bool.not_true, Bool.not_false, reduceCtorEq, String.reduceEq, not_true, not_false_iff, true_and, and_true, and_self, isNms, List.all_cons, List.all_nil, decide_not, lend_matter_before, pin_matter_before, lend_written_cell, pin_written_cell, lend_read_cells, pin_read_cells, lend_matter_rows, pin_matter_rows, lend_matters, pin_matters, $xs,*])
variable {Pr : Prg} {L : Str → List Bool} {k : Nat}
/-- the cells that matter before an item -/
def mkept (it : Item) (as : List Int) : List Int := as.filter fun x => !decide (it.wr = some x)
def Item.more (it : Item) (as : List Int) : List Int := match it with
  | .snd cs => cs
  | .dod a cs => if a ∈ as then cs else []
  | _ => []
def mbefL (it : Item) (as : List Int) : List Int := mkept it as ++ (it.more as).filter fun x => !decide (x ∈ mkept it as)
def mbef (it : Item) (as : List Int) : List Int := sortI (mbefL it as)
theorem flt_int {xs : List Int} {p : Int → Bool} : (xs.filter p).map Pv.int = (xs.filter p).map .int := rfl
theorem c_matter_before [C_matter_before Pr L] (it : Item) (as : List Int) (h1 : as.length ≤ 1000) (h2 : it.rd.length ≤ 1000) : pcallAt Pr L (k + 2) "matter_before" [.fz it.enc, .fz (tI as)] [] = some (.fz (tI (mbef it as)), [none, none]) := by
  rw [pca_matter_before rfl]
  have l1 : (mkept it as).length ≤ 1000 := Nat.le_trans (List.length_filter_le _ _) h1
  have l2 : ∀ p : Int → Bool, (it.rd.filter p).length ≤ 1000 := fun p => Nat.le_trans (List.length_filter_le _ _) h2
  have l3 := length_sortI (xs := mbefL it as)
  simp_arith [f_matter_before, c_written_cell, c_read_cells, tI]
  rw [kcomp_pure (fun x => !decide (it.wr = some x)) .int (fun x hx => by simp_arith [ne_oI]; split <;> simp_arith [*]) (by omega)]
  have bl := List.length_append (as := mkept it as) (bs := (it.more as).filter fun x => !decide (x ∈ mkept it as))
  have l4 : ((it.more as).filter fun x => !decide (x ∈ mkept it as)).length ≤ 1000 := Nat.le_trans (List.length_filter_le _ _) (by
    cases it with
    | dod a cs => show (if a ∈ as then cs else []).length ≤ 1000; split <;> first | exact h2 | exact Nat.zero_le _
    | snd cs => exact h2
    | _ => exact Nat.zero_le _)
  have fin : (mbefL it as).length ≤ 1000000 := by unfold mbefL; omega
  have hs := sorted_int (xs := mbefL it as) fin
  unfold mbefL at hs
  rw [List.map_append] at hs
  have sk : (mkept it as).length ≤ 1000000 := by omega
  have none_ : it.more as = [] → mbef it as = sortI (mkept it as) := fun e => by unfold mbef mbefL; rw [e]; simp
  rw [show as.filter (fun x => !decide (it.wr = some x)) = mkept it as from rfl]
  cases it with
  | ask a =>
    rw [none_ rfl]
    simp_arith [Item.enc, sorted_int sk]
  | mrk cs =>
    rw [none_ rfl]
    simp_arith [Item.enc, sorted_int sk]
  | snd cs =>
    simp_arith [Item.enc, Item.rd]
    rw [kcomp_pure (fun x => !decide (x ∈ mkept (.snd cs) as)) .int (fun x hx => by simp_arith []; split <;> simp_arith [*]) (by exact Nat.le_trans h2 (by omega))]
    have ad : (mkept (.snd cs) as).length + (cs.filter fun x => !decide (x ∈ mkept (.snd cs) as)).length ≤ 1000000 := by have := l2 fun x => !decide (x ∈ mkept (.snd cs) as); simp only [Item.rd] at this; omega
    simp only [Item.more] at hs
    simp_arith [ad, hs, mbef, mbefL, Item.more]
  | dod a cs =>
    by_cases h : a ∈ as
    · simp_arith [Item.enc, Item.rd, in_oI, Item.wr, h]
      rw [kcomp_pure (fun x => !decide (x ∈ mkept (.dod a cs) as)) .int (fun x hx => by simp_arith []; split <;> simp_arith [*]) (by exact Nat.le_trans h2 (by omega))]
      have ad : (mkept (.dod a cs) as).length + (cs.filter fun x => !decide (x ∈ mkept (.dod a cs) as)).length ≤ 1000000 := by have := l2 fun x => !decide (x ∈ mkept (.dod a cs) as); simp only [Item.rd] at this; omega
      simp only [Item.more, if_pos h] at hs
      simp_arith [ad, hs, mbef, mbefL, Item.more, h]
    · rw [none_ (if_neg h)]
      simp_arith [Item.enc, Item.wr, sorted_int sk, in_oI, h]
theorem mem_mbef {it : Item} {as : List Int} {x : Int} : x ∈ mbef it as ↔ (x ∈ as ∧ it.wr ≠ some x) ∨ x ∈ it.more as := by
  unfold mbef
  rw [mem_sortI]
  unfold mbefL mkept
  rw [List.mem_append, List.mem_filter, List.mem_filter]
  constructor
  · rintro (⟨h1, h2⟩ | ⟨h1, _⟩)
    · exact .inl ⟨h1, by simpa using h2⟩
    · exact .inr h1
  · rintro (⟨h1, h2⟩ | h1)
    · exact .inl ⟨h1, by simp [h2]⟩
    · by_cases e : x ∈ as.filter fun x => !decide (it.wr = some x)
      · exact .inl (List.mem_filter.mp e)
      · exact .inr ⟨h1, by rw [decide_eq_false e]; rfl⟩
theorem cells_nil {m : Int} : Cells m [] := ⟨fun c hc => (by cases hc), .nil⟩
theorem Item.rd_cells {m : Int} {it : Item} (h : it.Ok m) : Cells m it.rd := by
  cases it with
  | dod a cs => exact h.2.1
  | snd cs => exact h.1
  | _ => exact cells_nil
theorem Item.more_cells {m : Int} {it : Item} (h : it.Ok m) (as : List Int) : Cells m (it.more as) := by
  cases it with
  | dod a cs => show Cells m (if a ∈ as then cs else []); split; exact h.2.1; exact cells_nil
  | snd cs => exact h.1
  | _ => exact cells_nil
theorem cells_nodup {m : Int} {cs : List Int} (h : Cells m cs) : cs.Nodup := h.st.imp fun h => by omega
theorem mbef_cells {m : Int} {it : Item} (h : it.Ok m) {as : List Int} (ha : Cells m as) : Cells m (mbef it as) := by
  refine ⟨fun c hc => ?_, sortI_strict ?_⟩
  · rcases mem_mbef.mp hc with ⟨h1, _⟩ | h1
    · exact ha.bd c h1
    · exact (Item.more_cells h as).bd c h1
  · unfold mbefL
    rw [List.nodup_append]
    refine ⟨(cells_nodup ha).filter _, (cells_nodup (Item.more_cells h as)).filter _, fun a h1 b h2 z => ?_⟩
    subst z
    have := (List.mem_filter.mp h2).2
    simp [h1] at this
/-- what matters before some items -/
def alive : List Item → List Int
  | [] => []
  | it :: r => mbef it (alive r)
theorem alive_cells {m : Int} : ∀ {l : List Item}, (∀ i ∈ l, i.Ok m) → Cells m (alive l)
  | [], _ => cells_nil
  | it :: r, h => mbef_cells (h it List.mem_cons_self) (alive_cells fun i hi => h i (List.mem_cons_of_mem _ hi))
theorem Prog.many_lt {p : Prog} (h : p.Ok) : 0 < p.many ∧ p.many ≤ 9 := ⟨h.pos, by have := h.k1; have := h.l1; show p.kept + p.loose ≤ 9; omega⟩
theorem Cells.len9 {p : Prog} (h : p.Ok) {cs : List Int} (hc : Cells p.many cs) : cs.length ≤ 9 := by
  have := cells_len hc (by have := h.pos; omega)
  have := (Prog.many_lt h).2
  omega
theorem c_matter_rows [C_matter_rows Pr L] {p : Prog} (hp : p.Ok) : pcallAt Pr L (k + 3) "matter_rows" [.fz p.enc] [] = some (.ol ((List.range (p.items.length + 1)).map fun j => tI (alive (p.items.drop j))), [none]) := by
  rw [pca_matter_rows rfl]
  simp_arith [f_matter_rows, Prog.enc]
  rw [← List.map_reverse]
  obtain ⟨q, e, hq⟩ := kfor_st (Γ := Pn.pgam Pr L "matter_rows" (k + 2)) (t := .nm 2) (body := forB f_matter_rows 1) (enc := Item.enc) (xs := p.items.reverse)
    (fun q : List (List Int) => [some (.fz p.enc), some (.ol (q.map tI)), none]) [[]] (fun i q => q = (List.range (i + 1)).map fun j => alive (p.items.drop (p.items.length - j))) (fun i it q hx hq => by
      have hi : i < p.items.length := by have := (List.getElem?_eq_some_iff.mp hx).1; simpa using this
      have hit : p.items[p.items.length - 1 - i]? = some it := by rw [List.getElem?_reverse hi] at hx; exact hx
      have hmem : it ∈ p.items := List.mem_of_getElem? hit
      have hr : alive (p.items.drop (p.items.length - (i + 1))) = mbef it (alive (p.items.drop (p.items.length - i))) := by
        have hlt : p.items.length - 1 - i < p.items.length := by omega
        have := List.drop_eq_getElem_cons hlt
        rw [List.getElem?_eq_getElem hlt] at hit
        cases hit
        rw [show p.items.length - (i + 1) = p.items.length - 1 - i by omega, this, show p.items.length - 1 - i + 1 = p.items.length - i by omega]
        rfl
      have ac := alive_cells (m := p.many) (l := p.items.drop (p.items.length - i)) fun j hj => hp.its j (List.mem_of_mem_drop hj)
      have la := Cells.len9 hp ac
      have lr := Cells.len9 hp (Item.rd_cells (hp.its it hmem))
      refine ⟨q ++ [alive (p.items.drop (p.items.length - (i + 1)))], ?_, by rw [hq, List.range_succ (n := i + 1), List.map_append]; rfl⟩
      have hlast : pixV (q.map tI) (-1) = some (tI (alive (p.items.drop (p.items.length - i)))) := by
        rw [hq, List.range_succ, List.map_append, List.map_append]
        exact pixV_last
      have hq1 : q.length < 1000000 := by have := hp.len; rw [hq]; simp; omega
      have mb := c_matter_before (Pr := Pr) (L := L) (k := k) it (alive (p.items.drop (p.items.length - i))) (by omega) (by omega)
      rw [hr]
      simp_arith [f_matter_rows, forB, forBody, List.getD_cons_succ, List.getD_cons_zero, hlast, mb, hq1]) (by simp [alive])
  simp only [f_matter_rows, forB, forBody, List.getD_cons_succ, List.getD_cons_zero, Prog.enc, List.map_cons, List.map_nil, tI] at e
  simp_arith [e]
  rw [hq]
  simp only [List.length_reverse, ← List.map_reverse, List.map_map]
  congr 3
  refine List.ext_getElem (by simp) fun j h1 h2 => ?_
  simp at h1 ⊢
  rw [show p.items.length - (p.items.length - j) = j by omega]
theorem c_matters [C_matters Pr L] {p : Prog} (hp : p.Ok) {n : Nat} (hn : n ≤ p.items.length) : pcallAt Pr L (k + 4) "matters" [.fz p.enc, .fz (.int n)] [] = some (.fz (tI (alive (p.items.drop n))), [none, none]) := by
  rw [pca_matters rfl]
  have e : pixV ((List.range (p.items.length + 1)).map fun j => tI (alive (p.items.drop j))) n = some (tI (alive (p.items.drop n))) := pixV_of rfl (by rw [List.getElem?_map, List.getElem?_range (by omega)]; rfl)
  simp_arith [f_matters, c_matter_rows (Pr := Pr) (L := L) (k := k) hp, e]
end Mn
end -- Cm1
section -- Cm2
set_option linter.all false
set_option autoImplicit false
set_option maxRecDepth 100000
namespace Mn
open PySem L2
local macro_rules | `(tactic| simp_arith [$xs,*]) => `(tactic| simp only [↓PS.seq_nx, ↓PS.seq_rt, ↓PS.seq_bk, ↓PS.seq_ct, ↓ite_seq, ↓ite_bind, ↓ite_st, ↓bind_ok', ↓st_ok', ↓view_fz, ↓view_ol, ↓view_od, ↓view_oi, ↓rvar_fz, ↓rvar_ol, ↓rvar_od, ↓rvar_oi, ↓pv2_some, ↓pk_v, ↓pk_al, ↓pkF_v, ↓pkF_al, ↓pks_nil, ↓cons2_some, ↓pks_cons, ↓tk_v, ↓tk_al, ↓tk2_fz, ↓tk2_ol, ↓tk2_od, ↓tk2_oi, ↓tks_nil, ↓kTks2_eq, ↓kTks1_eq, ↓tks_cons, ↓mkP_some, ↓mkV_some, ↓mkB_some, ↓mk2_some, ↓tr1_t, ↓tr1_f, ↓tr1_e, ↓mkT_some, ↓obind_some, ↓pE_var, ↓pE_glob, ↓pE_non, ↓pE_bl, ↓pE_int, ↓pE_str, ↓pE_ty, ↓kTup2_eq, ↓kTup1_eq, ↓pE_tup, ↓kLst2_eq, ↓kLst1_eq, ↓pE_lst, ↓mkD_some, ↓kDct4_eq, ↓kDct3_eq, ↓kDct2_eq, ↓kDct1_eq, ↓pE_dct, ↓kBin2_eq, ↓kBin1_eq, ↓pE_bin, ↓kCmp2_eq, ↓kCmp1_eq, ↓pE_cmp, ↓kIdx2_eq, ↓kIdx1_eq, ↓pE_idx, ↓tFalse_eq, ↓chn_some, ↓kCh4_eq, ↓kCh3_eq, ↓kCh2_eq, ↓kCh1_eq, ↓pE_chain, ↓mkI_some, ↓kNeg_eq, ↓pE_neg, ↓notO_some, ↓kNot_eq, ↓pE_not, ↓tE_eq, ↓tR_eq, ↓kAnd_eq, ↓pE_and, ↓kOr_eq, ↓pE_or, ↓kIte_eq, ↓pE_ite, ↓bslice_some, ↓kSl3_eq, ↓kSl2_eq, ↓kSl1_eq, ↓pE_sl, ↓mkL_some, ↓kPart_eq, ↓ppart_t, ↓ppart_f, ↓kSlr_eq, ↓pE_slr, ↓mkA_ins, ↓kAttr_eq, ↓pE_attr, ↓kCall2_eq, ↓kCall1_eq, ↓pE_call, ↓kMake2_eq, ↓kMake1_eq, ↓pE_make, ↓mkM_ins, ↓kMeth3_eq, ↓kMeth2_eq, ↓tMeth_eq, ↓kMeth1_eq, ↓pE_meth, ↓kBc_eq, ↓pE_bcall, ↓guardT_t, ↓kBm2_eq, ↓tBm_eq, ↓kBm1_eq, ↓pE_bmeth, ↓brng_some, ↓kRng_eq, ↓pE_rng, ↓mkR_some, ↓kComp2_eq, ↓kComp1_eq, ↓pE_comp, ↓kDcomp2_eq, ↓kDcomp1_eq, ↓pE_dcomp, ↓kCons2_eq, ↓kCons1_eq, ↓pEs_nil, ↓pEs_cons, ↓tr2_t, ↓tr2_f, ↓tr2_e, ↓tC_eq, ↓tCf_eq, ↓kC1_eq, ↓pC_nil, ↓pC_cons, ↓kSs_eq, ↓pSs_nil, ↓pSs_cons, ↓mkN_some, ↓kPar2_eq, ↓kPar1_eq, ↓pS_par, ↓kAsg_eq, ↓asgR_v, ↓asgR_al, ↓pS_nm, ↓asgP_tup, ↓kAsgP_eq, ↓pS_tp, ↓bst_some, ↓kSet4_eq, ↓kSet3_eq, ↓kSet2_eq, ↓kSet1_eq, ↓pS_setI, ↓kSA3_eq, ↓kSA2_eq, ↓kSA1_eq, ↓pS_setA, ↓augR_int, ↓kAug_eq, ↓aug1_int, ↓pS_aug, ↓kExpr_eq, ↓pS_expr, ↓kRet_eq, ↓pS_ret, ↓iteS_t, ↓iteS_f, ↓iteS_e, ↓tS_eq, ↓kIf_eq, ↓pS_ite, ↓kT_eq, ↓pT_eq, ↓kFor2_eq, ↓kFor1_eq, ↓pS_for, ↓pS_while, ↓pS_brk, ↓pS_cnt, ↓pS_pass, ↓mkC_some, ↓fsts_nil, ↓fsts_cons, ↓kCall4_eq, ↓kCall3_eq, ↓pcallR_eq, ↓kMk4_eq, ↓kMk3_eq, ↓pmakeR_eq, ↓kL2_eq, ↓kL1_eq, ↓lendA_nil, ↓lendA_e, ↓lendA_f, ↓lendA_tv, ↓lendA_ta, ↓lend2_fz, ↓lend2_ol, ↓lend2_od, ↓lend2_oi, ↓giveB_nil, ↓giveB_n, ↓giveB_s, ↓giveB_o, ↓kApp_eq, ↓bm_append, ↓mAppend_ol, ↓kIns_eq, ↓bm_insert, ↓mInsert_ol, ↓bm_extend, ↓mExt0_l, ↓mExt0_t, ↓mExt_ol, ↓bm_pop, ↓mPop_last, ↓kGet_eq, ↓bm_get, ↓mGet_d, ↓kSetd_eq, ↓bm_setd, ↓bm_count, ↓isF_fz, ↓isF_ol, ↓isF_od, ↓isF_oi, ↓ret_nx, ↓ret_v, ↓ret_al, ↓ret2_fz, ↓ret2_o, ↓ret2_p, ↓ret_ite, ↓finL_eq, ↓omap_some, ↓omap_ite, ↓run_eq, ↓pgam_call, ↓mask_nil, ↓mask_e, ↓mask_t, ↓mask_f, ↓stI_al, ↓stI_od, ↓stA_al, ↓stA_oi, ↓pputP_eq, ↓pputPs_nil, ↓putK_some, ↓pputPs_cons, ↓pres_nil, ↓kPr_eq, ↓kPr1_eq, ↓pres_v, ↓pres_al, ↓asgT_nm, ↓asgT_tp, ↓asgK_some, ↓asgTs_cons, ↓pasgTs_nil, ↓pinL_nil, ↓pinL_z, ↓pinL_s, ↓wipe_nil', ↓wipe_cons', ↓rst1_fz, ↓rst1_none, ↓rst1_ol, ↓prst_nil, ↓prst_cons, ↓fgt_s, ↓fgt_n, ↓fgt_e, ↓b_add, ↓b_sub, ↓b_mul_r, ↓b_mul_l, ↓b_pow18, ↓b_mod, ↓b_div, ↓b_tup, ↓b_lst, ↓c_lt, ↓c_le, ↓c_gt, ↓c_ge, ↓c_ne, ↓c_in, ↓c_nin, ↓c_is, ↓c_isn, ↓is_non, ↓veq_int, ↓veq_str, ↓tr_bl, ↓sub_t, ↓prevs_l, ↓sub_l, ↓sub_d, ↓get0, ↓set0, ↓ix0, ↓get1, ↓set1, ↓ix1, ↓get2, ↓set2, ↓ix2, ↓get3, ↓set3, ↓ix3, ↓get4, ↓set4, ↓ix4, ↓get5, ↓set5, ↓ix5, ↓get6, ↓set6, ↓ix6, ↓get7, ↓set7, ↓ix7, ↓get8, ↓set8, ↓ix8, ↓get9, ↓set9, ↓ix9, ↓get10, ↓set10, ↓ix10, ↓get11, ↓set11, ↓ix11, ↓get12, ↓set12, ↓ix12, ↓get13, ↓set13, ↓ix13, ↓sti0, ↓sti1, ↓sti2, ↓sti3, ↓sti4, ↓sti5, ↓sti6, ↓sti7, ↓kturn_eq, ↓turnB_eq, ↓kTurn_eq, ↓tTurn_eq, ↓tNone_eq, ↓kTurn2_eq, ↓kTurn3_eq, ↓itO_t, ↓itO_f, ↓itO_e, ↓wipO_ok, ↓wipO_ite, ↓asgB_some, ↓lturn_eq, ↓asgS_some, ↓fgtS_nx, ↓fgtS_ct, ↓fgtS_bk, ↓fgtS_rt, ↓fgtS_ite, ↓srcR, ↓src_t, ↓src_l, ↓src_rev_t, ↓src_rev_l, ↓src_enum_t, ↓src_enum_l, ↓bs_tuple_l, ↓bs_tuple_t, ↓bs_list_l, ↓bs_list_t, ↓bs_list_d, ↓bs_int, ↓bs_len_l, ↓bs_len_r, ↓bs_len_t, ↓bs_len_d, ↓bs_min2, ↓bs_max2, ↓in_int_t, ↓in_int_l, tr1_d, tr2_d, iteS_d, itO_d, isNonV, notTup, eq_self, or_true, true_or, or_false, false_or, or_self, and_false, false_and, not_false_eq_true, ne_eq, List.length_map, Int.reduceLT, Int.reduceNeg, Int.reduceLE, Int.reduceAdd, Int.reduceSub, Int.reduceMul, Int.reduceToNat, Int.reduceEq, pinO_eq, List.contains_cons, List.contains_nil, beq_self_eq_true, Nat.reduceBEq, E.isNon, if_true, if_false, ite_true, ite_false, Bool.false_eq_true, decide_true, decide_false, decide_eq_true_eq, List.length_cons, List.length_nil, List.length_set, List.map_cons, List.map_nil, List.map_append, List.nil_append, List.cons_append, List.append_nil, List.replicate_succ, List.replicate_zero, List.take_succ_cons, List.take_zero, List.zip_cons_cons, List.zip_nil_left, List.zip_nil_right, precv, ofString_inj, Nat.sub_self, Nat.reduceAdd, Nat.reduceSub, Nat.reduceLT, Nat.reduceLeDiff, Bool.and_true, Bool.and_false, Bool.true_and, Bool.false_and, Bool.or_true, Bool.or_false, Bool.true_or, Bool.false_or, Bool.not_true, Bool.not_false, reduceCtorEq, String.reduceEq, not_true, not_false_iff, true_and, and_true, and_self, isNms, List.all_cons, List.all_nil, decide_not, lend__law_tainted, pin__law_tainted, lend__law_read, pin__law_read, lend__law_written, pin__law_written, lend__law_matters, pin__law_matters, $xs,*])
variable {Pr : Prg} {L : Str → List Bool} {k : Nat}
def Item.isSnd : Item → Bool
  | .snd _ => true
  | _ => false
def Item.isDo : Item → Bool
  | .dod _ _ => true
  | _ => false
def Item.tgt : Item → Int
  | .dod a _ => a
  | .ask a => a
  | _ => 0
/-- is a cell of some read -/
def Item.hit (it : Item) (s : List Int) : Bool := it.rd.any fun x => decide (x ∈ s)
/-- what is carried behind an item -/
def carry (it : Item) (s : List Int) : List Int := (s.filter fun x => !decide (it.wr = some x)) ++ if it.isDo && it.hit s then [it.tgt] else []
/-- does one of these cells come to a send -/
def taint : List Item → List Int → Bool
  | [], _ => false
  | it :: r, s => if it.isSnd && it.hit s then true else taint r (carry it s)
theorem taint_alive : ∀ (items : List Item) (s : List Int), taint items s = true ↔ ∃ x ∈ s, x ∈ alive items
  | [], s => by simp [taint, alive]
  | it :: r, s => by
    have ih := taint_alive r
    show (if it.isSnd && it.hit s then true else taint r (carry it s)) = true ↔ ∃ x ∈ s, x ∈ mbef it (alive r)
    simp only [mem_mbef, Item.hit, carry]
    cases it with
    | snd cs =>
      simp only [Item.isSnd, Item.rd, Item.isDo, Item.wr, Item.more, Bool.true_and, Bool.false_and]
      by_cases e : (cs.any fun x => decide (x ∈ s)) = true
      · rw [if_pos e]
        simp only [List.any_eq_true, decide_eq_true_eq] at e
        obtain ⟨x, h1, h2⟩ := e
        exact ⟨fun _ => ⟨x, h2, .inr h1⟩, fun _ => rfl⟩
      · rw [if_neg e]
        simp only [List.any_eq_true, decide_eq_true_eq] at e
        rw [ih]
        simp
        constructor
        · rintro ⟨x, h1, h2⟩; exact ⟨x, h1, .inl h2⟩
        · rintro ⟨x, h1, h2 | h2⟩
          · exact ⟨x, h1, h2⟩
          · exact (e ⟨x, h2, h1⟩).elim
    | ask a =>
      simp only [Item.isSnd, Item.rd, Item.isDo, Item.wr, Item.more, Bool.false_and, Bool.false_eq_true, if_false, List.append_nil, ih]
      simp
      constructor
      · rintro ⟨x, ⟨h1, h2⟩, h3⟩; exact ⟨x, h1, h3, h2⟩
      · rintro ⟨x, h1, h3, h2⟩; exact ⟨x, ⟨h1, h2⟩, h3⟩
    | mrk cs =>
      simp only [Item.isSnd, Item.rd, Item.isDo, Item.wr, Item.more, Bool.false_and, Bool.false_eq_true, if_false, List.append_nil, ih]
      simp
    | dod a cs =>
      simp only [Item.isSnd, Item.rd, Item.isDo, Item.wr, Item.more, Item.tgt, Bool.true_and, Bool.false_and, Bool.false_eq_true, if_false, ih]
      constructor
      · rintro ⟨x, h1, h3⟩
        rcases List.mem_append.mp h1 with h1 | h1
        · obtain ⟨h1, h2⟩ := List.mem_filter.mp h1
          exact ⟨x, h1, .inl ⟨h3, by simpa using h2⟩⟩
        · split at h1
          · rename_i e
            rw [List.mem_singleton.mp h1] at h3
            simp only [List.any_eq_true, decide_eq_true_eq] at e
            obtain ⟨y, e1, e2⟩ := e
            exact ⟨y, e2, .inr (by rw [if_pos h3]; exact e1)⟩
          · cases h1
      · rintro ⟨x, h1, ⟨h3, h2⟩ | h2⟩
        · exact ⟨x, List.mem_append.mpr (.inl (List.mem_filter.mpr ⟨h1, by simp [h2]⟩)), h3⟩
        · split at h2
          · rename_i e
            refine ⟨a, List.mem_append.mpr (.inr ?_), e⟩
            rw [if_pos (by simp only [List.any_eq_true, decide_eq_true_eq]; exact ⟨x, h2, h1⟩)]
            exact List.mem_singleton.mpr rfl
          · cases h2
def lsI (cs : List Int) : Pv := .lst (cs.map .int)
theorem veq_lnil {cs : List Int} : pcmp .Eq (.lst (cs.map .int)) (.lst []) = some (decide (cs = [])) := veq_nil
theorem hit_flt {it : Item} {s : List Int} : decide (it.rd.filter (fun x => decide (x ∈ s)) = []) = !it.hit s := by
  unfold Item.hit
  rw [Bool.eq_iff_iff]
  simp [List.filter_eq_nil_iff, List.any_eq_true]
theorem slice_from {vs : List Pv} {n : Nat} (h : n ≤ vs.length) : pslice (.tup vs) (some n) none = some (.fz (.tup (vs.drop n))) := by
  show some (P.fz (.tup (cut vs (some (n : Int)) none))) = _
  unfold cut
  rw [HT.sIx_nat, HT.sIx_none, Nat.min_eq_left h, List.take_of_length_le (by rw [List.length_drop]; omega)]
def Item.word : Item → String
  | .dod _ _ => "do"
  | .ask _ => "ask"
  | .snd _ => "send"
  | .mrk _ => "mark"
theorem enc_word {it : Item} : psub it.enc (.int 0) = some (.str (Str.ofString it.word)) := by cases it <;> exact sub_t.trans ix0
theorem word_snd {it : Item} : (it.word = "send") = (it.isSnd = true) := by cases it <;> simp [Item.word, Item.isSnd]
theorem word_do {it : Item} : (it.word = "do") = (it.isDo = true) := by cases it <;> simp [Item.word, Item.isDo]
theorem enc_tgt {it : Item} (h : it.isDo = true) : psub it.enc (.int 1) = some (.int it.tgt) := by
  cases it with
  | dod a cs => exact sub_t.trans ix1
  | _ => cases h
theorem c_tainted [C__law_tainted Pr L] {m : Int} {items : List Item} (ho : ∀ i ∈ items, i.Ok m) (m0 : 0 ≤ m) (m1 : m ≤ 100) (hl : items.length ≤ 1000) {n : Nat} (hn : n ≤ items.length) {cs : List Int} (hc : cs.length ≤ 1000) :
    ∃ fd : List (List Int), pcallAt Pr L (k + 2) "_law_tainted" [.fz (.tup (items.map Item.enc)), .fz (.int n), .fz (lsI cs)] [] = some (.fz (.tup [.lst (fd.map lsI), .bl (taint (items.drop n) cs)]), [none, none, none]) := by
  rw [pca__law_tainted rfl]
  have sl := slice_from (vs := items.map Item.enc) (n := n) (by simpa using hn)
  rw [← List.map_drop] at sl
  have hw : ∀ (x : Int) (o : Option Int), pcmp .Eq (.int x) (oI o) = some (decide (o = some x)) := fun x o => ne_oI
  obtain ⟨q, e, hq1, hq2⟩ | ⟨r, ρ, e, fd, rfl, ht, x, y, z, l, rfl⟩ := kfor_ex (Γ := Pn.pgam Pr L "_law_tainted" (k + 1)) (t := .nm 5) (body := forB f__law_tainted 1) (enc := Item.enc) (xs := items.drop n)
    (fun q : Bool × List Int × List (List Int) => [some (.fz (.tup (items.map Item.enc))), some (.fz (.int n)), some (.fz (lsI cs)), some (if q.1 then .ol (q.2.1.map .int) else .fz (lsI q.2.1)), some (.ol (q.2.2.map lsI)), none, none, none]) (true, cs, [cs])
    (fun i q => taint (items.drop (n + i)) q.2.1 = taint (items.drop n) cs ∧ q.2.1.length ≤ 1000 + i ∧ q.2.2.length ≤ i + 1)
    (fun r ρ => ∃ fd : List (List Int), r = .v (.fz (.tup [.lst (fd.map lsI), .bl true])) ∧ taint (items.drop n) cs = true ∧ ∃ x y z l, ρ = x :: y :: z :: l)
    (fun i it q hx ⟨h1, h2, h3⟩ => by
      have hx' : items[n + i]? = some it := by rw [List.getElem?_drop] at hx; exact hx
      have hlt := (List.getElem?_eq_some_iff.mp hx').1
      have hd : items.drop (n + i) = it :: items.drop (n + i + 1) := by
        rw [List.drop_eq_getElem_cons hlt]; congr 1
        rw [List.getElem?_eq_getElem hlt] at hx'; cases hx'; rfl
      have io := ho it (List.mem_of_getElem? hx')
      have lr : it.rd.length ≤ 100 := by have := cells_len (Item.rd_cells io) m0; omega
      obtain ⟨b, s, f⟩ := q
      simp only at h1 h2 h3 ⊢
      rw [hd] at h1
      have hs : (some (if b then P.ol (s.map .int) else P.fz (lsI s)) : Option P) = some (if b then P.ol (s.map .int) else P.fz (.lst (s.map .int))) := rfl
      have cr : carry it s = (s.filter fun x => !decide (it.wr = some x)) ++ if it.isDo && it.hit s then [it.tgt] else [] := rfl
      have lf := List.length_filter_le (fun x => !decide (it.wr = some x)) s
      have lc : (carry it s).length ≤ s.length + 1 := by rw [cr, List.length_append]; split <;> simp <;> omega
      have l1 := List.length_filter_le (fun x => !decide (it.wr = some x)) s
      have fl : f.length < 1000000 := by have := (List.getElem?_eq_some_iff.mp hx).1; rw [List.length_drop] at this; omega
      have sl2 : s.length ≤ 1000000 := by have := (List.getElem?_eq_some_iff.mp hx).1; rw [List.length_drop] at this; omega
      have fs : (s.filter fun x => !decide (it.wr = some x)).length < 1000000 := by have := (List.getElem?_eq_some_iff.mp hx).1; rw [List.length_drop] at this; omega
      by_cases hh : (it.isSnd && it.hit s) = true
      · refine .inr ⟨_, [some (.fz (.tup (items.map Item.enc))), some (.fz (.int n)), some (.fz (lsI cs)), some (if b then .ol (s.map .int) else .fz (lsI s)), some (.fz (.lst (f.map lsI))), some (.fz it.enc), some (.fz (.bl true)), none], ?_, f, rfl, by rw [← h1]; show (if it.isSnd && it.hit s then true else _) = true; rw [if_pos hh], _, _, _, _, rfl⟩
        rw [Bool.and_eq_true] at hh
        cases b
        all_goals
          simp_arith [f__law_tainted, forB, forBody, List.getD_cons_succ, List.getD_cons_zero, c__law_read, tI, lsI]
          rw [kcomp_pure (fun x => decide (x ∈ s)) .int (fun x hx => by simp_arith []; split <;> simp_arith [*]) (by omega)]
          simp_arith [veq_lnil, hit_flt, hh.1, hh.2, enc_word, word_snd, lsI]
      · refine .inl ⟨(false, carry it s, f ++ [carry it s]), ?_, ?_, by simp only; omega, by simp; omega⟩
        · cases b
          all_goals
            simp_arith [f__law_tainted, forB, forBody, List.getD_cons_succ, List.getD_cons_zero, c__law_read, tI, lsI]
            rw [kcomp_pure (fun x => decide (x ∈ s)) .int (fun x hx => by simp_arith []; split <;> simp_arith [*]) (by omega)]
            cases hq : it.hit s
            all_goals
              cases hsn : it.isSnd
              all_goals
                cases hdo : it.isDo
                all_goals
                  first
                  | (simp [hsn, hq] at hh; done)
                  | (simp_arith [veq_lnil, hit_flt, hq, hsn, hdo, enc_word, word_snd]
                     rw [kcomp_pure (fun x => !decide (it.wr = some x)) .int (fun x hx => by simp_arith [c__law_written, hw]; split <;> simp_arith [*]) (by omega)]
                     simp_arith [carry, hq, hdo, enc_word, word_do, enc_tgt hdo, fl, fs, lsI]; done)
                  | (simp_arith [veq_lnil, hit_flt, hq, hsn, hdo, enc_word, word_snd]
                     rw [kcomp_pure (fun x => !decide (it.wr = some x)) .int (fun x hx => by simp_arith [c__law_written, hw]; split <;> simp_arith [*]) (by omega)]
                     simp_arith [carry, hq, hdo, enc_word, word_do, fl, fs, lsI]; done)
        · rw [show n + (i + 1) = n + i + 1 by omega, ← h1]
          show _ = (if it.isSnd && it.hit s then true else _)
          rw [if_neg hh])
    ⟨by simp, by simp; omega, by simp⟩
  · refine ⟨q.2.2, ?_⟩
    have ht : taint (items.drop n) cs = false := by
      rw [← hq1, List.length_drop, show n + (items.length - n) = items.length by omega, List.drop_length]; rfl
    simp only [f__law_tainted, forB, forBody, List.getD_cons_succ, List.getD_cons_zero, List.map_cons, List.map_nil, lsI, if_true] at e
    obtain ⟨b, s, f⟩ := q
    cases b
    all_goals
      simp_arith [f__law_tainted, lsI, sl, e, ht]
  · refine ⟨fd, ?_⟩
    simp only [f__law_tainted, forB, forBody, List.getD_cons_succ, List.getD_cons_zero, List.map_cons, List.map_nil, lsI, if_true] at e
    simp_arith [f__law_tainted, lsI, sl, e, ht]
theorem c_law_matters [C__law_matters Pr L] {m : Int} {items : List Item} (ho : ∀ i ∈ items, i.Ok m) (m0 : 0 ≤ m) (m1 : m ≤ 100) (hl : items.length ≤ 1000) {n : Nat} (hn : n ≤ items.length) (c : Int) :
    pcallAt Pr L (k + 3) "_law_matters" [.fz (.tup (items.map Item.enc)), .fz (.int n), .fz (.int c)] [] = some (.fz (.bl (decide (c ∈ alive (items.drop n)))), [none, none, none]) := by
  rw [pca__law_matters rfl]
  obtain ⟨fd, e⟩ := c_tainted (Pr := Pr) (L := L) (k := k) ho m0 m1 hl hn (cs := [c]) (by simp)
  simp only [lsI, List.map_cons, List.map_nil] at e
  have ht : taint (items.drop n) [c] = decide (c ∈ alive (items.drop n)) := by
    rw [Bool.eq_iff_iff, taint_alive, decide_eq_true_eq]
    simp
  simp_arith [f__law_matters, e, ht]
end Mn
end -- Cm2
section -- Cm3
set_option linter.all false
set_option autoImplicit false
set_option maxRecDepth 100000
namespace Mn
open PySem L2
local macro_rules | `(tactic| simp_arith [$xs,*]) => `(tactic| simp only [↓PS.seq_nx, ↓PS.seq_rt, ↓PS.seq_bk, ↓PS.seq_ct, ↓ite_seq, ↓ite_bind, ↓ite_st, ↓bind_ok', ↓st_ok', ↓view_fz, ↓view_ol, ↓view_od, ↓view_oi, ↓rvar_fz, ↓rvar_ol, ↓rvar_od, ↓rvar_oi, ↓pv2_some, ↓pk_v, ↓pk_al, ↓pkF_v, ↓pkF_al, ↓pks_nil, ↓cons2_some, ↓pks_cons, ↓tk_v, ↓tk_al, ↓tk2_fz, ↓tk2_ol, ↓tk2_od, ↓tk2_oi, ↓tks_nil, ↓kTks2_eq, ↓kTks1_eq, ↓tks_cons, ↓mkP_some, ↓mkV_some, ↓mkB_some, ↓mk2_some, ↓tr1_t, ↓tr1_f, ↓tr1_e, ↓mkT_some, ↓obind_some, ↓pE_var, ↓pE_glob, ↓pE_non, ↓pE_bl, ↓pE_int, ↓pE_str, ↓pE_ty, ↓kTup2_eq, ↓kTup1_eq, ↓pE_tup, ↓kLst2_eq, ↓kLst1_eq, ↓pE_lst, ↓mkD_some, ↓kDct4_eq, ↓kDct3_eq, ↓kDct2_eq, ↓kDct1_eq, ↓pE_dct, ↓kBin2_eq, ↓kBin1_eq, ↓pE_bin, ↓kCmp2_eq, ↓kCmp1_eq, ↓pE_cmp, ↓kIdx2_eq, ↓kIdx1_eq, ↓pE_idx, ↓tFalse_eq, ↓chn_some, ↓kCh4_eq, ↓kCh3_eq, ↓kCh2_eq, ↓kCh1_eq, ↓pE_chain, ↓mkI_some, ↓kNeg_eq, ↓pE_neg, ↓notO_some, ↓kNot_eq, ↓pE_not, ↓tE_eq, ↓tR_eq, ↓kAnd_eq, ↓pE_and, ↓kOr_eq, ↓pE_or, ↓kIte_eq, ↓pE_ite, ↓bslice_some, ↓kSl3_eq, ↓kSl2_eq, ↓kSl1_eq, ↓pE_sl, ↓mkL_some, ↓kPart_eq, ↓ppart_t, ↓ppart_f, ↓kSlr_eq, ↓pE_slr, ↓mkA_ins, ↓kAttr_eq, ↓pE_attr, ↓kCall2_eq, ↓kCall1_eq, ↓pE_call, ↓kMake2_eq, ↓kMake1_eq, ↓pE_make, ↓mkM_ins, ↓kMeth3_eq, ↓kMeth2_eq, ↓tMeth_eq, ↓kMeth1_eq, ↓pE_meth, ↓kBc_eq, ↓pE_bcall, ↓guardT_t, ↓kBm2_eq, ↓tBm_eq, ↓kBm1_eq, ↓pE_bmeth, ↓brng_some, ↓kRng_eq, ↓pE_rng, ↓mkR_some, ↓kComp2_eq, ↓kComp1_eq, ↓pE_comp, ↓kDcomp2_eq, ↓kDcomp1_eq, ↓pE_dcomp, ↓kCons2_eq, ↓kCons1_eq, ↓pEs_nil, ↓pEs_cons, ↓tr2_t, ↓tr2_f, ↓tr2_e, ↓tC_eq, ↓tCf_eq, ↓kC1_eq, ↓pC_nil, ↓pC_cons, ↓kSs_eq, ↓pSs_nil, ↓pSs_cons, ↓mkN_some, ↓kPar2_eq, ↓kPar1_eq, ↓pS_par, ↓kAsg_eq, ↓asgR_v, ↓asgR_al, ↓pS_nm, ↓asgP_tup, ↓kAsgP_eq, ↓pS_tp, ↓bst_some, ↓kSet4_eq, ↓kSet3_eq, ↓kSet2_eq, ↓kSet1_eq, ↓pS_setI, ↓kSA3_eq, ↓kSA2_eq, ↓kSA1_eq, ↓pS_setA, ↓augR_int, ↓kAug_eq, ↓aug1_int, ↓pS_aug, ↓kExpr_eq, ↓pS_expr, ↓kRet_eq, ↓pS_ret, ↓iteS_t, ↓iteS_f, ↓iteS_e, ↓tS_eq, ↓kIf_eq, ↓pS_ite, ↓kT_eq, ↓pT_eq, ↓kFor2_eq, ↓kFor1_eq, ↓pS_for, ↓pS_while, ↓pS_brk, ↓pS_cnt, ↓pS_pass, ↓mkC_some, ↓fsts_nil, ↓fsts_cons, ↓kCall4_eq, ↓kCall3_eq, ↓pcallR_eq, ↓kMk4_eq, ↓kMk3_eq, ↓pmakeR_eq, ↓kL2_eq, ↓kL1_eq, ↓lendA_nil, ↓lendA_e, ↓lendA_f, ↓lendA_tv, ↓lendA_ta, ↓lend2_fz, ↓lend2_ol, ↓lend2_od, ↓lend2_oi, ↓giveB_nil, ↓giveB_n, ↓giveB_s, ↓giveB_o, ↓kApp_eq, ↓bm_append, ↓mAppend_ol, ↓kIns_eq, ↓bm_insert, ↓mInsert_ol, ↓bm_extend, ↓mExt0_l, ↓mExt0_t, ↓mExt_ol, ↓bm_pop, ↓mPop_last, ↓kGet_eq, ↓bm_get, ↓mGet_d, ↓kSetd_eq, ↓bm_setd, ↓bm_count, ↓isF_fz, ↓isF_ol, ↓isF_od, ↓isF_oi, ↓ret_nx, ↓ret_v, ↓ret_al, ↓ret2_fz, ↓ret2_o, ↓ret2_p, ↓ret_ite, ↓finL_eq, ↓omap_some, ↓omap_ite, ↓run_eq, ↓pgam_call, ↓mask_nil, ↓mask_e, ↓mask_t, ↓mask_f, ↓stI_al, ↓stI_od, ↓stA_al, ↓stA_oi, ↓pputP_eq, ↓pputPs_nil, ↓putK_some, ↓pputPs_cons, ↓pres_nil, ↓kPr_eq, ↓kPr1_eq, ↓pres_v, ↓pres_al, ↓asgT_nm, ↓asgT_tp, ↓asgK_some, ↓asgTs_cons, ↓pasgTs_nil, ↓pinL_nil, ↓pinL_z, ↓pinL_s, ↓wipe_nil', ↓wipe_cons', ↓rst1_fz, ↓rst1_none, ↓rst1_ol, ↓prst_nil, ↓prst_cons, ↓fgt_s, ↓fgt_n, ↓fgt_e, ↓b_add, ↓b_sub, ↓b_mul_r, ↓b_mul_l, ↓b_pow18, ↓b_mod, ↓b_div, ↓b_tup, ↓b_lst, ↓c_lt, ↓c_le, ↓c_gt, ↓c_ge, ↓c_ne, ↓c_in, ↓c_nin, ↓c_is, ↓c_isn, ↓is_non, ↓veq_int, ↓veq_str, ↓tr_bl, ↓sub_t, ↓prevs_l, ↓sub_l, ↓sub_d, ↓get0, ↓set0, ↓ix0, ↓get1, ↓set1, ↓ix1, ↓get2, ↓set2, ↓ix2, ↓get3, ↓set3, ↓ix3, ↓get4, ↓set4, ↓ix4, ↓get5, ↓set5, ↓ix5, ↓get6, ↓set6, ↓ix6, ↓get7, ↓set7, ↓ix7, ↓get8, ↓set8, ↓ix8, ↓get9, ↓set9, ↓ix9, ↓get10, ↓set10, ↓ix10, ↓get11, ↓set11, ↓ix11, ↓get12, ↓set12, ↓ix12, ↓get13, ↓set13, ↓ix13, ↓sti0, ↓sti1, ↓sti2, ↓sti3, ↓sti4, ↓sti5, ↓sti6, ↓sti7, ↓kturn_eq, ↓turnB_eq, ↓kTurn_eq, ↓tTurn_eq, ↓tNone_eq, ↓kTurn2_eq, ↓kTurn3_eq, ↓itO_t, ↓itO_f, ↓itO_e, ↓wipO_ok, ↓wipO_ite, ↓asgB_some, ↓lturn_eq, ↓asgS_some, ↓fgtS_nx, ↓fgtS_ct, ↓fgtS_bk, ↓fgtS_rt, ↓fgtS_ite, ↓srcR, ↓src_t, ↓src_l, ↓src_rev_t, ↓src_rev_l, ↓src_enum_t, ↓src_enum_l, ↓bs_tuple_l, ↓bs_tuple_t, ↓bs_list_l, ↓bs_list_t, ↓bs_list_d, ↓bs_int, ↓bs_len_l, ↓bs_len_r, ↓bs_len_t, ↓bs_len_d, ↓bs_min2, ↓bs_max2, ↓in_int_t, ↓in_int_l, tr1_d, tr2_d, iteS_d, itO_d, isNonV, notTup, eq_self, or_true, true_or, or_false, false_or, or_self, and_false, false_and, not_false_eq_true, ne_eq, List.length_map, Int.reduceLT, Int.reduceNeg, Int.reduceLE, Int.reduceAdd, Int.reduceSub, Int.reduceMul, Int.reduceToNat, Int.reduceEq, pinO_eq, List.contains_cons, List.contains_nil, beq_self_eq_true, Nat.reduceBEq, E.isNon, if_true, if_false, ite_true, ite_false, Bool.false_eq_true, decide_true, decide_false, decide_eq_true_eq, List.length_cons, List.length_nil, List.length_set, List.map_cons, List.map_nil, List.map_append, List.nil_append, List.cons_append, List.append_nil, List.replicate_succ, List.replicate_zero, List.take_succ_cons, List.take_zero, List.zip_cons_cons, List.zip_nil_left, List.zip_nil_right, precv, ofString_inj, Nat.sub_self, Nat.reduceAdd, Nat.reduceSub, Nat.reduceLT, Nat.reduceLeDiff, Bool.and_true, Bool.and_false, Bool.true_and, Bool.false_and, Bool.or_true, Bool.or_false, Bool.true_or, Bool.false_or, Bool.not_true, Bool.not_false, reduceCtorEq, String.reduceEq, not_true, not_false_iff, true_and, and_true, and_self, isNms, List.all_cons, List.all_nil, decide_not, lend_way_out, pin_way_out, lend_matter_rows, pin_matter_rows, lend_read_cells, pin_read_cells, lend_written_cell, pin_written_cell, $xs,*])
variable {Pr : Prg} {L : Str → List Bool} {k : Nat}
/-- the way that is told for a cell -/
def wayI : List Item → Nat → Int → List Int
  | [], _, _ => []
  | it :: r, i, c => if it.isSnd && decide (c ∈ it.rd) then [(i : Int)] else if it.isDo && decide (c ∈ it.rd) && decide (it.tgt ∈ alive r) then (i : Int) :: wayI r (i + 1) it.tgt else wayI r (i + 1) c
theorem alive_step {it : Item} {r : List Item} {c : Int} (h : c ∈ alive (it :: r)) (h1 : (it.isSnd && decide (c ∈ it.rd)) = false) (h2 : (it.isDo && decide (c ∈ it.rd) && decide (it.tgt ∈ alive r)) = false) : c ∈ alive r ∧ it.wr ≠ some c := by
  rcases mem_mbef.mp (show c ∈ mbef it (alive r) from h) with h | h
  · exact h
  · cases it with
    | snd cs => have h : c ∈ cs := h; simp [Item.isSnd, Item.rd, h] at h1
    | dod a cs =>
      have h : c ∈ (if a ∈ alive r then cs else []) := h
      by_cases e : a ∈ alive r
      · rw [if_pos e] at h; simp [Item.isDo, Item.rd, Item.tgt, h, e] at h2
      · rw [if_neg e] at h; cases h
    | ask a => cases h
    | mrk cs => cases h
theorem wr_do {it : Item} (h : it.isDo = true) : it.wr = some it.tgt := by cases it <;> first | rfl | cases h
theorem c_way_out [C_way_out Pr L] {p : Prog} (hp : p.Ok) {n : Nat} (hn : n ≤ p.items.length) (c : Int) :
    pcallAt Pr L (k + 4) "way_out" [.fz p.enc, .fz (.int n), .fz (.int c)] [] = some (.fz (if c ∈ alive (p.items.drop n) then tI (wayI (p.items.drop n) n c) else .non), [none, none, none]) := by
  rw [pca_way_out rfl]
  have ea : ∀ j, j ≤ p.items.length → pixV ((List.range (p.items.length + 1)).map fun j => tI (alive (p.items.drop j))) j = some (tI (alive (p.items.drop j))) := fun j hj => pixV_of rfl (by rw [List.getElem?_map, List.getElem?_range (by omega)]; rfl)
  have hl := hp.len
  have rows := c_matter_rows (Pr := Pr) (L := L) (k := k) hp
  simp only [Prog.enc] at rows
  by_cases hc : c ∈ alive (p.items.drop n)
  · rw [if_pos hc]
    have hr : prangeOf [.int (n : Int), .int (p.items.length : Int)] = _ := rg2 (by omega) (by omega) (by omega) (by omega)
    obtain ⟨q, e, hq1, hq2, hq3⟩ | ⟨r, ρ, e, rfl, x, y, z, l, rfl⟩ := kfor_ex (Γ := Pn.pgam Pr L "way_out" (k + 3)) (t := .nm 5) (body := forB f_way_out 2) (enc := fun i : Nat => .int ((n : Int) + i)) (xs := List.range ((p.items.length : Int) - n).toNat)
      (fun q : List Int × Int => [some (.fz p.enc), some (.fz (.int n)), some (.fz (.int q.2)), some (.ol ((List.range (p.items.length + 1)).map fun j => tI (alive (p.items.drop j)))), some (.fz (tI q.1)), none, none]) ([], c)
      (fun i q => q.2 ∈ alive (p.items.drop (n + i)) ∧ q.1 ++ wayI (p.items.drop (n + i)) (n + i) q.2 = wayI (p.items.drop n) n c ∧ q.1.length ≤ i)
      (fun r ρ => r = .v (.fz (tI (wayI (p.items.drop n) n c))) ∧ ∃ x y z l, ρ = x :: y :: z :: l)
      (fun i x q hx ⟨h1, h2, h3⟩ => by
        have hi := (List.getElem?_eq_some_iff.mp hx).1
        have hx := (List.getElem?_eq_some_iff.mp hx).2
        rw [List.getElem_range] at hx
        subst hx
        rw [List.length_range] at hi
        have hlt : n + i < p.items.length := by omega
        have hd : p.items.drop (n + i) = p.items[n + i] :: p.items.drop (n + i + 1) := List.drop_eq_getElem_cons hlt
        have hit : pixV (p.items.map Item.enc) ((n : Int) + (i : Int)) = some p.items[n + i].enc := pixV_of (n := n + i) (by omega) (by rw [List.getElem?_map, List.getElem?_eq_getElem hlt]; rfl)
        have ha : pixV ((List.range (p.items.length + 1)).map fun j => tI (alive (p.items.drop j))) ((n : Int) + (i : Int) + 1) = some (tI (alive (p.items.drop (n + i + 1)))) := by
          have := ea (n + i + 1) hlt
          rwa [show ((n + i + 1 : Nat) : Int) = (n : Int) + (i : Int) + 1 by omega] at this
        generalize p.items[n + i] = it at hd hit
        rw [hd] at h1 h2
        obtain ⟨w, d⟩ := q
        simp only at h1 h2 h3 ⊢
        have rd := c_read_cells (Pr := Pr) (L := L) (k := k + 2) it
        have wr := c_written_cell (Pr := Pr) (L := L) (k := k + 2) it
        have lw : w.length < 999999 := by omega
        have lw' : w.length + 1 ≤ 1000000 := by omega
        simp only [tI] at rd ea ha
        by_cases h4 : (it.isSnd && decide (d ∈ it.rd)) = true
        · refine .inr ⟨_, [some (.fz p.enc), some (.fz (.int n)), some (.fz (.int d)), some (.ol ((List.range (p.items.length + 1)).map fun j => tI (alive (p.items.drop j)))), some (.fz (tI w)), some (.fz (.int ((n : Int) + i))), some (.fz it.enc)], ?_, rfl, _, _, _, _, rfl⟩
          have ew : wayI (it :: p.items.drop (n + i + 1)) (n + i) d = [((n + i : Nat) : Int)] := by unfold wayI; rw [if_pos h4]
          rw [← h2, ew]
          rw [Bool.and_eq_true, decide_eq_true_eq] at h4
          simp_arith [f_way_out, forB, forBody, List.getD_cons_succ, List.getD_cons_zero, Prog.enc, hit, rd, h4.1, h4.2, enc_word, word_snd, tI, lw', List.map_append, Int.natCast_add]
        · have h4 := Bool.eq_false_iff.mpr h4
          have hin : pcin (oI it.wr) (.tup ((alive (p.items.drop (n + i + 1))).map .int)) = some (match it.wr with | some x => decide (x ∈ alive (p.items.drop (n + i + 1))) | none => false) := in_oI
          by_cases h5 : (it.isDo && decide (d ∈ it.rd) && decide (it.tgt ∈ alive (p.items.drop (n + i + 1)))) = true
          · refine .inl ⟨(w ++ [((n + i : Nat) : Int)], it.tgt), ?_, ?_, ?_, by simp; omega⟩
            · rw [Bool.and_eq_true, Bool.and_eq_true, decide_eq_true_eq, decide_eq_true_eq] at h5
              have hs : it.isSnd = false := by cases it <;> first | rfl | cases h5.1.1
              have hw := wr_do h5.1.1
              simp_arith [f_way_out, forB, forBody, List.getD_cons_succ, List.getD_cons_zero, Prog.enc, hit, rd, wr, h5.1.2, enc_word, word_snd, hs, tI, lw', List.map_append, Int.natCast_add, hin, hw, h5.2, oI, ha]
            · rw [Bool.and_eq_true, decide_eq_true_eq] at h5; exact h5.2
            · rw [← h2]
              conv => rhs; rw [wayI, if_neg (by rw [h4]; exact Bool.false_ne_true), if_pos h5]
              rw [List.append_assoc]; rfl
          · have h5 := Bool.eq_false_iff.mpr h5
            obtain ⟨h6, h7⟩ := alive_step h1 h4 h5
            refine .inl ⟨(w, d), ?_, h6, ?_, by simp only; omega⟩
            · by_cases h8 : d ∈ it.rd
              · have hs : it.isSnd = false := by simpa [h8] using h4
                have h9 : (match it.wr with | some x => decide (x ∈ alive (p.items.drop (n + i + 1))) | none => false) = false := by
                  cases it with
                  | dod a cs => simp only [Item.isDo, h8, Item.tgt, decide_true, Bool.and_self, Bool.true_and] at h5; exact h5
                  | ask a => cases h8
                  | snd cs => rfl
                  | mrk cs => rfl
                simp_arith [f_way_out, forB, forBody, List.getD_cons_succ, List.getD_cons_zero, Prog.enc, hit, rd, wr, h8, enc_word, word_snd, hs, tI, ha, hin, h9]
              · simp_arith [f_way_out, forB, forBody, List.getD_cons_succ, List.getD_cons_zero, Prog.enc, hit, rd, h8, tI]
            · rw [← h2]
              conv => rhs; rw [wayI, if_neg (by rw [h4]; exact Bool.false_ne_true), if_neg (by rw [h5]; exact Bool.false_ne_true)]
              rfl)
      ⟨hc, rfl, Nat.le_refl _⟩
    · simp only [List.length_range] at hq1
      rw [show n + ((p.items.length : Int) - n).toNat = p.items.length by omega, List.drop_length] at hq1
      cases hq1
    · have hn' := ea n hn
      simp only [f_way_out, forB, forBody, List.getD_cons_succ, List.getD_cons_zero, Prog.enc, List.map_nil, tI] at e hn'
      simp_arith [f_way_out, Prog.enc, rows, tI, hn', hc, hr, e]
  · rw [if_neg hc]
    have hn' := ea n hn
    simp only [tI] at hn'
    simp_arith [f_way_out, Prog.enc, rows, tI, hn', hc]
end Mn
end -- Cm3
section -- Ct6
set_option linter.all false
set_option autoImplicit false
set_option maxRecDepth 100000
namespace Mn
open PySem L2
local macro_rules | `(tactic| simp_arith [$xs,*]) => `(tactic| simp only [↓PS.seq_nx, ↓PS.seq_rt, ↓PS.seq_bk, ↓PS.seq_ct, ↓ite_seq, ↓ite_bind, ↓ite_st, ↓bind_ok', ↓st_ok', ↓view_fz, ↓view_ol, ↓view_od, ↓view_oi, ↓rvar_fz, ↓rvar_ol, ↓rvar_od, ↓rvar_oi, ↓pv2_some, ↓pk_v, ↓pk_al, ↓pkF_v, ↓pkF_al, ↓pks_nil, ↓cons2_some, ↓pks_cons, ↓tk_v, ↓tk_al, ↓tk2_fz, ↓tk2_ol, ↓tk2_od, ↓tk2_oi, ↓tks_nil, ↓kTks2_eq, ↓kTks1_eq, ↓tks_cons, ↓mkP_some, ↓mkV_some, ↓mkB_some, ↓mk2_some, ↓tr1_t, ↓tr1_f, ↓tr1_e, ↓mkT_some, ↓obind_some, ↓pE_var, ↓pE_glob, ↓pE_non, ↓pE_bl, ↓pE_int, ↓pE_str, ↓pE_ty, ↓kTup2_eq, ↓kTup1_eq, ↓pE_tup, ↓kLst2_eq, ↓kLst1_eq, ↓pE_lst, ↓mkD_some, ↓kDct4_eq, ↓kDct3_eq, ↓kDct2_eq, ↓kDct1_eq, ↓pE_dct, ↓kBin2_eq, ↓kBin1_eq, ↓pE_bin, ↓kCmp2_eq, ↓kCmp1_eq, ↓pE_cmp, ↓kIdx2_eq, ↓kIdx1_eq, ↓pE_idx, ↓tFalse_eq, ↓chn_some, ↓kCh4_eq, ↓kCh3_eq, ↓kCh2_eq, ↓kCh1_eq, ↓pE_chain, ↓mkI_some, ↓kNeg_eq, ↓pE_neg, ↓notO_some, ↓kNot_eq, ↓pE_not, ↓tE_eq, ↓tR_eq, ↓kAnd_eq, ↓pE_and, ↓kOr_eq, ↓pE_or, ↓kIte_eq, ↓pE_ite, ↓bslice_some, ↓kSl3_eq, ↓kSl2_eq, ↓kSl1_eq, ↓pE_sl, ↓mkL_some, ↓kPart_eq, ↓ppart_t, ↓ppart_f, ↓kSlr_eq, ↓pE_slr, ↓mkA_ins, ↓kAttr_eq, ↓pE_attr, ↓kCall2_eq, ↓kCall1_eq, ↓pE_call, ↓kMake2_eq, ↓kMake1_eq, ↓pE_make, ↓mkM_ins, ↓kMeth3_eq, ↓kMeth2_eq, ↓tMeth_eq, ↓kMeth1_eq, ↓pE_meth, ↓kBc_eq, ↓pE_bcall, ↓guardT_t, ↓kBm2_eq, ↓tBm_eq, ↓kBm1_eq, ↓pE_bmeth, ↓brng_some, ↓kRng_eq, ↓pE_rng, ↓mkR_some, ↓kComp2_eq, ↓kComp1_eq, ↓pE_comp, ↓kDcomp2_eq, ↓kDcomp1_eq, ↓pE_dcomp, ↓kCons2_eq, ↓kCons1_eq, ↓pEs_nil, ↓pEs_cons, ↓tr2_t, ↓tr2_f, ↓tr2_e, ↓tC_eq, ↓tCf_eq, ↓kC1_eq, ↓pC_nil, ↓pC_cons, ↓kSs_eq, ↓pSs_nil, ↓pSs_cons, ↓mkN_some, ↓kPar2_eq, ↓kPar1_eq, ↓pS_par, ↓kAsg_eq, ↓asgR_v, ↓asgR_al, ↓pS_nm, ↓asgP_tup, ↓kAsgP_eq, ↓pS_tp, ↓bst_some, ↓kSet4_eq, ↓kSet3_eq, ↓kSet2_eq, ↓kSet1_eq, ↓pS_setI, ↓kSA3_eq, ↓kSA2_eq, ↓kSA1_eq, ↓pS_setA, ↓augR_int, ↓kAug_eq, ↓aug1_int, ↓pS_aug, ↓kExpr_eq, ↓pS_expr, ↓kRet_eq, ↓pS_ret, ↓iteS_t, ↓iteS_f, ↓iteS_e, ↓tS_eq, ↓kIf_eq, ↓pS_ite, ↓kT_eq, ↓pT_eq, ↓kFor2_eq, ↓kFor1_eq, ↓pS_for, ↓pS_while, ↓pS_brk, ↓pS_cnt, ↓pS_pass, ↓mkC_some, ↓fsts_nil, ↓fsts_cons, ↓kCall4_eq, ↓kCall3_eq, ↓pcallR_eq, ↓kMk4_eq, ↓kMk3_eq, ↓pmakeR_eq, ↓kL2_eq, ↓kL1_eq, ↓lendA_nil, ↓lendA_e, ↓lendA_f, ↓lendA_tv, ↓lendA_ta, ↓lend2_fz, ↓lend2_ol, ↓lend2_od, ↓lend2_oi, ↓giveB_nil, ↓giveB_n, ↓giveB_s, ↓giveB_o, ↓kApp_eq, ↓bm_append, ↓mAppend_ol, ↓kIns_eq, ↓bm_insert, ↓mInsert_ol, ↓bm_extend, ↓mExt0_l, ↓mExt0_t, ↓mExt_ol, ↓bm_pop, ↓mPop_last, ↓kGet_eq, ↓bm_get, ↓mGet_d, ↓kSetd_eq, ↓bm_setd, ↓bm_count, ↓isF_fz, ↓isF_ol, ↓isF_od, ↓isF_oi, ↓ret_nx, ↓ret_v, ↓ret_al, ↓ret2_fz, ↓ret2_o, ↓ret2_p, ↓ret_ite, ↓finL_eq, ↓omap_some, ↓omap_ite, ↓run_eq, ↓pgam_call, ↓mask_nil, ↓mask_e, ↓mask_t, ↓mask_f, ↓stI_al, ↓stI_od, ↓stA_al, ↓stA_oi, ↓pputP_eq, ↓pputPs_nil, ↓putK_some, ↓pputPs_cons, ↓pres_nil, ↓kPr_eq, ↓kPr1_eq, ↓pres_v, ↓pres_al, ↓asgT_nm, ↓asgT_tp, ↓asgK_some, ↓asgTs_cons, ↓pasgTs_nil, ↓pinL_nil, ↓pinL_z, ↓pinL_s, ↓wipe_nil', ↓wipe_cons', ↓rst1_fz, ↓rst1_none, ↓rst1_ol, ↓prst_nil, ↓prst_cons, ↓fgt_s, ↓fgt_n, ↓fgt_e, ↓b_add, ↓b_sub, ↓b_mul_r, ↓b_mul_l, ↓b_pow18, ↓b_mod, ↓b_div, ↓b_tup, ↓b_lst, ↓c_lt, ↓c_le, ↓c_gt, ↓c_ge, ↓c_ne, ↓c_in, ↓c_nin, ↓c_is, ↓c_isn, ↓is_non, ↓veq_int, ↓veq_str, ↓tr_bl, ↓sub_t, ↓prevs_l, ↓sub_l, ↓sub_d, ↓get0, ↓set0, ↓ix0, ↓get1, ↓set1, ↓ix1, ↓get2, ↓set2, ↓ix2, ↓get3, ↓set3, ↓ix3, ↓get4, ↓set4, ↓ix4, ↓get5, ↓set5, ↓ix5, ↓get6, ↓set6, ↓ix6, ↓get7, ↓set7, ↓ix7, ↓get8, ↓set8, ↓ix8, ↓get9, ↓set9, ↓ix9, ↓get10, ↓set10, ↓ix10, ↓get11, ↓set11, ↓ix11, ↓get12, ↓set12, ↓ix12, ↓get13, ↓set13, ↓ix13, ↓sti0, ↓sti1, ↓sti2, ↓sti3, ↓sti4, ↓sti5, ↓sti6, ↓sti7, ↓kturn_eq, ↓turnB_eq, ↓kTurn_eq, ↓tTurn_eq, ↓tNone_eq, ↓kTurn2_eq, ↓kTurn3_eq, ↓itO_t, ↓itO_f, ↓itO_e, ↓wipO_ok, ↓wipO_ite, ↓asgB_some, ↓lturn_eq, ↓asgS_some, ↓fgtS_nx, ↓fgtS_ct, ↓fgtS_bk, ↓fgtS_rt, ↓fgtS_ite, ↓srcR, ↓src_t, ↓src_l, ↓src_rev_t, ↓src_rev_l, ↓src_enum_t, ↓src_enum_l, ↓bs_tuple_l, ↓bs_tuple_t, ↓bs_list_l, ↓bs_list_t, ↓bs_list_d, ↓bs_int, ↓bs_len_l, ↓bs_len_r, ↓bs_len_t, ↓bs_len_d, ↓bs_min2, ↓bs_max2, ↓in_int_t, ↓in_int_l, tr1_d, tr2_d, iteS_d, itO_d, isNonV, notTup, eq_self, or_true, true_or, or_false, false_or, or_self, and_false, false_and, not_false_eq_true, ne_eq, List.length_map, Int.reduceLT, Int.reduceNeg, Int.reduceLE, Int.reduceAdd, Int.reduceSub, Int.reduceMul, Int.reduceToNat, Int.reduceEq, pinO_eq, List.contains_cons, List.contains_nil, beq_self_eq_true, Nat.reduceBEq, E.isNon, if_true, if_false, ite_true, ite_false, Bool.false_eq_true, decide_true, decide_false, decide_eq_true_eq, List.length_cons, List.length_nil, List.length_set, List.map_cons, List.map_nil, List.map_append, List.nil_append, List.cons_append, List.append_nil, List.replicate_succ, List.replicate_zero, List.take_succ_cons, List.take_zero, List.zip_cons_cons, List.zip_nil_left, List.zip_nil_right, precv, ofString_inj, Nat.sub_self, Nat.reduceAdd, Nat.reduceSub, Nat.reduceLT, Nat.reduceLeDiff, Bool.and_true, Bool.and_false, Bool.true_and, Bool.false_and, Bool.or_true, Bool.or_false, Bool.true_or, Bool.false_or, Bool.not_true, Bool.not_false, reduceCtorEq, String.reduceEq, not_true, not_false_iff, true_and, and_true, and_self, isNms, List.all_cons, List.all_nil, decide_not, $xs,*])
/-! kernel-computable sorts, checks of programs, comparisons -/
def sortK (xs : List Int) : List Int := msrt (fun a b => decide (a ≤ b)) xs.length xs
theorem sortI_K (xs : List Int) : sortI xs = sortK xs := (msrt_eq _ _ _ (Nat.le_refl _)).symm
def cellsB (m : Int) (cs : List Int) : Bool := cs.all (fun c => decide (0 ≤ c) && decide (c < m)) && ascB cs
where ascB : List Int → Bool
  | [] => true
  | [_] => true
  | a :: b :: r => decide (a < b) && ascB (b :: r)
theorem ascB_ok : ∀ {cs : List Int}, cellsB.ascB cs = true → cs.Pairwise (· < ·)
  | [], _ => .nil
  | [_], _ => List.pairwise_singleton _ _
  | a :: b :: r, h => by
    have h : (decide (a < b) && cellsB.ascB (b :: r)) = true := h
    rw [Bool.and_eq_true, decide_eq_true_eq] at h
    have ih := ascB_ok h.2
    refine List.pairwise_cons.mpr ⟨fun x hx => ?_, ih⟩
    rcases List.mem_cons.mp hx with rfl | hx
    · exact h.1
    · exact Int.lt_trans h.1 ((List.pairwise_cons.mp ih).1 x hx)
theorem cellsB_ok {m : Int} {cs : List Int} (h : cellsB m cs = true) : Cells m cs := by
  unfold cellsB at h
  rw [Bool.and_eq_true, List.all_eq_true] at h
  exact ⟨fun c hc => by simpa using h.1 c hc, ascB_ok h.2⟩
def Item.okB (m : Int) : Item → Bool
  | .dod a cs => decide (0 ≤ a) && decide (a < m) && cellsB m cs && decide (cs.length ≤ 3)
  | .ask a => decide (0 ≤ a) && decide (a < m)
  | .snd cs => cellsB m cs && decide (cs.length ≤ 3) && decide (cs ≠ [])
  | .mrk cs => cellsB m cs
theorem Item.okB_ok {m : Int} {it : Item} (h : it.okB m = true) : it.Ok m := by
  cases it with
  | dod a cs => simp only [Item.okB, Bool.and_eq_true, decide_eq_true_eq] at h; exact ⟨h.1.1, cellsB_ok h.1.2, h.2⟩
  | ask a => simp only [Item.okB, Bool.and_eq_true, decide_eq_true_eq] at h; exact h
  | snd cs => simp only [Item.okB, Bool.and_eq_true, decide_eq_true_eq] at h; exact ⟨cellsB_ok h.1.1, h.1.2, h.2⟩
  | mrk cs => exact cellsB_ok h
def Prog.okB (p : Prog) : Bool := decide (0 ≤ p.kept) && decide (p.kept ≤ 4) && decide (0 ≤ p.loose) && decide (p.loose ≤ 5) && decide (0 < p.many) && p.items.all (Item.okB p.many) && decide (p.items.length ≤ 64)
theorem Prog.okB_ok {p : Prog} (h : p.okB = true) : p.Ok := by
  simp only [Prog.okB, Bool.and_eq_true, decide_eq_true_eq, List.all_eq_true] at h
  obtain ⟨⟨⟨⟨⟨⟨h1, h2⟩, h3⟩, h4⟩, h5⟩, h6⟩, h7⟩ := h
  exact ⟨h1, h2, h3, h4, h5, fun i hi => Item.okB_ok (h6 i hi), h7⟩
theorem veq_lst_ni {vs ws : List Pv} (hv : ∀ v ∈ vs, Ni v) (hw : ∀ w ∈ ws, Ni w) : pcmp .Eq (.lst vs) (.lst ws) = some (decide (vs = ws)) := by
  have hn : nices vs = true := nices_all.mpr fun v h => (hv v h).n
  have hm : nices ws = true := nices_all.mpr fun v h => (hw v h).n
  have sh : ∀ {us : List Pv}, (∀ u ∈ us, Ni u) → ∃ ds, vdat 6 (.lst us) = some (.list ds) ∧ ds = us.map pvd ∧ SeqAt.shaped (.list ds) = true := fun {us} hu => by
    obtain ⟨ds, b1, b2, b3, b4⟩ := nices_dat 5 (nices_all.mpr fun v h => (hu v h).n)
    refine ⟨ds, by show (vdats 5 us).map _ = _; rw [b1]; rfl, (Pn.vdats_mem b2).1, ?_⟩
    show (PyData.canLayAll0 ds && decide (PyData.depthAll ds + 1 ≤ 64)) = true
    rw [b3, decide_eq_true (by rw [b4]; have := kdepths_le (c := 60) fun w h => (hu w h).d; omega)]; rfl
  obtain ⟨ds, d1, d2, d3⟩ := sh hv
  obtain ⟨es, e1, e2, e3⟩ := sh hw
  show pveqD _ _ = _
  unfold pveqD
  rw [d1, e1]
  dsimp only
  rw [d3, e3]
  show some (PyData.eqvAll ds es) = _
  refine congrArg some (Bool.eq_iff_iff.mpr ?_)
  rw [d2, e2, nices_eqv hn hm, decide_eq_true_eq]
theorem ni_tI (cs : List Int) : Ni (tI cs) := (nd_tup (c := 0) (nd_map fun x _ => nd_int x)).ni (by omega)
theorem ni_tup_int (cs : List Int) : Ni (.tup (cs.map .int)) := ni_tI cs
theorem map_int_inj {xs ys : List Int} : xs.map Pv.int = ys.map Pv.int ↔ xs = ys := by
  constructor
  · intro h
    have := congrArg (List.map fun v => match v with | Pv.int i => i | _ => 0) h
    simpa [List.map_map, Function.comp_def] using this
  · intro h; rw [h]
theorem tI_inj {xs ys : List Int} : tI xs = tI ys ↔ xs = ys := by
  unfold tI; rw [Pv.tup.injEq, map_int_inj]
theorem veq_tI {xs ys : List Int} : pcmp .Eq (tI xs) (tI ys) = some (decide (xs = ys)) := by
  rw [veq_ni (ni_tI xs) (ni_tI ys)]
  exact congrArg some (Bool.eq_iff_iff.mpr (by simp only [decide_eq_true_eq, tI_inj]))
theorem veq_tmap {xs ys : List Int} : pcmp .Eq (.tup (xs.map .int)) (.tup (ys.map .int)) = some (decide (xs = ys)) := veq_tI
theorem in_tIs {c : List Int} {xs : List (List Int)} : pcin (tI c) (.tup (xs.map tI)) = some (decide (c ∈ xs)) := by
  rw [in_tup (ni_tI c) fun w hw => by obtain ⟨x, _, rfl⟩ := List.mem_map.mp hw; exact ni_tI x]
  refine congrArg some (Bool.eq_iff_iff.mpr ?_)
  simp only [decide_eq_true_eq, List.mem_map]
  constructor
  · rintro ⟨x, h1, h2⟩; rw [← tI_inj.mp h2]; exact h1
  · intro h; exact ⟨c, h, rfl⟩
theorem veq_ltI {xs ys : List (List Int)} : pcmp .Eq (.lst (xs.map tI)) (.lst (ys.map tI)) = some (decide (xs = ys)) := by
  rw [veq_lst_ni (fun v hv => by obtain ⟨x, _, rfl⟩ := List.mem_map.mp hv; exact ni_tI x) (fun v hv => by obtain ⟨x, _, rfl⟩ := List.mem_map.mp hv; exact ni_tI x)]
  refine congrArg some (Bool.eq_iff_iff.mpr ?_)
  simp only [decide_eq_true_eq]
  constructor
  · intro h
    have inj : ∀ {xs ys : List (List Int)}, xs.map tI = ys.map tI → xs = ys := by
      intro xs
      induction xs with
      | nil => intro ys h; cases ys with
        | nil => rfl
        | cons _ _ => cases h
      | cons x xs ih => intro ys h; cases ys with
        | nil => cases h
        | cons y ys =>
          simp only [List.map_cons, List.cons.injEq] at h
          rw [tI_inj.mp h.1, ih h.2]
    exact inj h
  · intro h; rw [h]
theorem repr_bl {b : Bool} : pbcall .repr [.bl b] = some (.fz (.str (Str.ofString (if b then "True" else "False")))) := by cases b <;> rfl
theorem enc_dod {a : Int} {cs : List Int} : (Item.dod a cs).enc = .tup [.str "do", .int a, .tup (cs.map .int)] := rfl
theorem enc_ask {a : Int} : (Item.ask a).enc = .tup [.str "ask", .int a] := rfl
theorem enc_snd {cs : List Int} : (Item.snd cs).enc = .tup [.str "send", .tup (cs.map .int)] := rfl
theorem enc_mrk {cs : List Int} : (Item.mrk cs).enc = .tup [.str "mark", .tup (cs.map .int)] := rfl
theorem enc_prog {a b : Int} {its : List Item} : (Prog.mk a b its).enc = .tup [.int a, .int b, .tup (its.map Item.enc)] := rfl
end Mn
end -- Ct6
section -- L38
set_option linter.all false
set_option autoImplicit false
set_option maxRecDepth 100000
namespace Mn
open PySem L2
local macro_rules | `(tactic| simp_arith [$xs,*]) => `(tactic| simp only [↓PS.seq_nx, ↓PS.seq_rt, ↓PS.seq_bk, ↓PS.seq_ct, ↓ite_seq, ↓ite_bind, ↓ite_st, ↓bind_ok', ↓st_ok', ↓view_fz, ↓view_ol, ↓view_od, ↓view_oi, ↓rvar_fz, ↓rvar_ol, ↓rvar_od, ↓rvar_oi, ↓pv2_some, ↓pk_v, ↓pk_al, ↓pkF_v, ↓pkF_al, ↓pks_nil, ↓cons2_some, ↓pks_cons, ↓tk_v, ↓tk_al, ↓tk2_fz, ↓tk2_ol, ↓tk2_od, ↓tk2_oi, ↓tks_nil, ↓kTks2_eq, ↓kTks1_eq, ↓tks_cons, ↓mkP_some, ↓mkV_some, ↓mkB_some, ↓mk2_some, ↓tr1_t, ↓tr1_f, ↓tr1_e, ↓mkT_some, ↓obind_some, ↓pE_var, ↓pE_glob, ↓pE_non, ↓pE_bl, ↓pE_int, ↓pE_str, ↓pE_ty, ↓kTup2_eq, ↓kTup1_eq, ↓pE_tup, ↓kLst2_eq, ↓kLst1_eq, ↓pE_lst, ↓mkD_some, ↓kDct4_eq, ↓kDct3_eq, ↓kDct2_eq, ↓kDct1_eq, ↓pE_dct, ↓kBin2_eq, ↓kBin1_eq, ↓pE_bin, ↓kCmp2_eq, ↓kCmp1_eq, ↓pE_cmp, ↓kIdx2_eq, ↓kIdx1_eq, ↓pE_idx, ↓tFalse_eq, ↓chn_some, ↓kCh4_eq, ↓kCh3_eq, ↓kCh2_eq, ↓kCh1_eq, ↓pE_chain, ↓mkI_some, ↓kNeg_eq, ↓pE_neg, ↓notO_some, ↓kNot_eq, ↓pE_not, ↓tE_eq, ↓tR_eq, ↓kAnd_eq, ↓pE_and, ↓kOr_eq, ↓pE_or, ↓kIte_eq, ↓pE_ite, ↓bslice_some, ↓kSl3_eq, ↓kSl2_eq, ↓kSl1_eq, ↓pE_sl, ↓mkL_some, ↓kPart_eq, ↓ppart_t, ↓ppart_f, ↓kSlr_eq, ↓pE_slr, ↓mkA_ins, ↓kAttr_eq, ↓pE_attr, ↓kCall2_eq, ↓kCall1_eq, ↓pE_call, ↓kMake2_eq, ↓kMake1_eq, ↓pE_make, ↓mkM_ins, ↓kMeth3_eq, ↓kMeth2_eq, ↓tMeth_eq, ↓kMeth1_eq, ↓pE_meth, ↓kBc_eq, ↓pE_bcall, ↓guardT_t, ↓kBm2_eq, ↓tBm_eq, ↓kBm1_eq, ↓pE_bmeth, ↓brng_some, ↓kRng_eq, ↓pE_rng, ↓mkR_some, ↓kComp2_eq, ↓kComp1_eq, ↓pE_comp, ↓kDcomp2_eq, ↓kDcomp1_eq, ↓pE_dcomp, ↓kCons2_eq, ↓kCons1_eq, ↓pEs_nil, ↓pEs_cons, ↓tr2_t, ↓tr2_f, ↓tr2_e, ↓tC_eq, ↓tCf_eq, ↓kC1_eq, ↓pC_nil, ↓pC_cons, ↓kSs_eq, ↓pSs_nil, ↓pSs_cons, ↓mkN_some, ↓kPar2_eq, ↓kPar1_eq, ↓pS_par, ↓kAsg_eq, ↓asgR_v, ↓asgR_al, ↓pS_nm, ↓asgP_tup, ↓kAsgP_eq, ↓pS_tp, ↓bst_some, ↓kSet4_eq, ↓kSet3_eq, ↓kSet2_eq, ↓kSet1_eq, ↓pS_setI, ↓kSA3_eq, ↓kSA2_eq, ↓kSA1_eq, ↓pS_setA, ↓augR_int, ↓kAug_eq, ↓aug1_int, ↓pS_aug, ↓kExpr_eq, ↓pS_expr, ↓kRet_eq, ↓pS_ret, ↓iteS_t, ↓iteS_f, ↓iteS_e, ↓tS_eq, ↓kIf_eq, ↓pS_ite, ↓kT_eq, ↓pT_eq, ↓kFor2_eq, ↓kFor1_eq, ↓pS_for, ↓pS_while, ↓pS_brk, ↓pS_cnt, ↓pS_pass, ↓mkC_some, ↓fsts_nil, ↓fsts_cons, ↓kCall4_eq, ↓kCall3_eq, ↓pcallR_eq, ↓kMk4_eq, ↓kMk3_eq, ↓pmakeR_eq, ↓kL2_eq, ↓kL1_eq, ↓lendA_nil, ↓lendA_e, ↓lendA_f, ↓lendA_tv, ↓lendA_ta, ↓lend2_fz, ↓lend2_ol, ↓lend2_od, ↓lend2_oi, ↓giveB_nil, ↓giveB_n, ↓giveB_s, ↓giveB_o, ↓kApp_eq, ↓bm_append, ↓mAppend_ol, ↓kIns_eq, ↓bm_insert, ↓mInsert_ol, ↓bm_extend, ↓mExt0_l, ↓mExt0_t, ↓mExt_ol, ↓bm_pop, ↓mPop_last, ↓kGet_eq, ↓bm_get, ↓mGet_d, ↓kSetd_eq, ↓bm_setd, ↓bm_count, ↓isF_fz, ↓isF_ol, ↓isF_od, ↓isF_oi, ↓ret_nx, ↓ret_v, ↓ret_al, ↓ret2_fz, ↓ret2_o, ↓ret2_p, ↓ret_ite, ↓finL_eq, ↓omap_some, ↓omap_ite, ↓run_eq, ↓pgam_call, ↓mask_nil, ↓mask_e, ↓mask_t, ↓mask_f, ↓stI_al, ↓stI_od, ↓stA_al, ↓stA_oi, ↓pputP_eq, ↓pputPs_nil, ↓putK_some, ↓pputPs_cons, ↓pres_nil, ↓kPr_eq, ↓kPr1_eq, ↓pres_v, ↓pres_al, ↓asgT_nm, ↓asgT_tp, ↓asgK_some, ↓asgTs_cons, ↓pasgTs_nil, ↓pinL_nil, ↓pinL_z, ↓pinL_s, ↓wipe_nil', ↓wipe_cons', ↓rst1_fz, ↓rst1_none, ↓rst1_ol, ↓prst_nil, ↓prst_cons, ↓fgt_s, ↓fgt_n, ↓fgt_e, ↓b_add, ↓b_sub, ↓b_mul_r, ↓b_mul_l, ↓b_pow18, ↓b_mod, ↓b_div, ↓b_tup, ↓b_lst, ↓c_lt, ↓c_le, ↓c_gt, ↓c_ge, ↓c_ne, ↓c_in, ↓c_nin, ↓c_is, ↓c_isn, ↓is_non, ↓veq_int, ↓veq_str, ↓tr_bl, ↓sub_t, ↓prevs_l, ↓sub_l, ↓sub_d, ↓get0, ↓set0, ↓ix0, ↓get1, ↓set1, ↓ix1, ↓get2, ↓set2, ↓ix2, ↓get3, ↓set3, ↓ix3, ↓get4, ↓set4, ↓ix4, ↓get5, ↓set5, ↓ix5, ↓get6, ↓set6, ↓ix6, ↓get7, ↓set7, ↓ix7, ↓get8, ↓set8, ↓ix8, ↓get9, ↓set9, ↓ix9, ↓get10, ↓set10, ↓ix10, ↓get11, ↓set11, ↓ix11, ↓get12, ↓set12, ↓ix12, ↓get13, ↓set13, ↓ix13, ↓sti0, ↓sti1, ↓sti2, ↓sti3, ↓sti4, ↓sti5, ↓sti6, ↓sti7, ↓kturn_eq, ↓turnB_eq, ↓kTurn_eq, ↓tTurn_eq, ↓tNone_eq, ↓kTurn2_eq, ↓kTurn3_eq, ↓itO_t, ↓itO_f, ↓itO_e, ↓wipO_ok, ↓wipO_ite, ↓asgB_some, ↓lturn_eq, ↓asgS_some, ↓fgtS_nx, ↓fgtS_ct, ↓fgtS_bk, ↓fgtS_rt, ↓fgtS_ite, ↓srcR, ↓src_t, ↓src_l, ↓src_rev_t, ↓src_rev_l, ↓src_enum_t, ↓src_enum_l, ↓bs_tuple_l, ↓bs_tuple_t, ↓bs_list_l, ↓bs_list_t, ↓bs_list_d, ↓bs_int, ↓bs_len_l, ↓bs_len_r, ↓bs_len_t, ↓bs_len_d, ↓bs_min2, ↓bs_max2, ↓in_int_t, ↓in_int_l, tr1_d, tr2_d, iteS_d, itO_d, isNonV, notTup, eq_self, or_true, true_or, or_false, false_or, or_self, and_false, false_and, not_false_eq_true, ne_eq, List.length_map, Int.reduceLT, Int.reduceNeg, Int.reduceLE, Int.reduceAdd, Int.reduceSub, Int.reduceMul, Int.reduceToNat, Int.reduceEq, pinO_eq, List.contains_cons, List.contains_nil, beq_self_eq_true, Nat.reduceBEq, E.isNon, if_true, if_false, ite_true, ite_false, Bool.false_eq_true, decide_true, decide_false, decide_eq_true_eq, List.length_cons, List.length_nil, List.length_set, List.map_cons, List.map_nil, List.map_append, List.nil_append, List.cons_append, List.append_nil, List.replicate_succ, List.replicate_zero, List.take_succ_cons, List.take_zero, List.zip_cons_cons, List.zip_nil_left, List.zip_nil_right, precv, ofString_inj, Nat.sub_self, Nat.reduceAdd, Nat.reduceSub, Nat.reduceLT, Nat.reduceLeDiff, Bool.and_true, Bool.and_false, Bool.true_and, Bool.false_and, Bool.or_true, Bool.or_false, Bool.true_or, Bool.false_or, Bool.not_true, Bool.not_false, reduceCtorEq, String.reduceEq, not_true, not_false_iff, true_and, and_true, and_self, isNms, List.all_cons, List.all_nil, decide_not, lend_way_out, pin_way_out, lend_matter_rows, pin_matter_rows, lend_read_cells, pin_read_cells, lend_written_cell, pin_written_cell, lend_law_v34, pin_law_v34, lend__law_pen, pin__law_pen, lend__law_draw, pin__law_draw, lend_matters, pin_matters, $xs,*])
variable {Pr : Prg} {L : Str → List Bool} {k : Nat}
def mbefK (it : Item) (as : List Int) : List Int := sortK (mbefL it as)
def aliveK : List Item → List Int
  | [] => []
  | it :: r => mbefK it (aliveK r)
theorem alive_K : ∀ l : List Item, alive l = aliveK l
  | [] => rfl
  | it :: r => by
    show sortI (mbefL it (alive r)) = sortK (mbefL it (aliveK r))
    rw [sortI_K, alive_K r]
def wayK : List Item → Nat → Int → List Int
  | [], _, _ => []
  | it :: r, i, c => if it.isSnd && decide (c ∈ it.rd) then [(i : Int)] else if it.isDo && decide (c ∈ it.rd) && decide (it.tgt ∈ aliveK r) then (i : Int) :: wayK r (i + 1) it.tgt else wayK r (i + 1) c
theorem wayI_K : ∀ (l : List Item) (i : Nat) (c : Int), wayI l i c = wayK l i c
  | [], _, _ => rfl
  | it :: r, i, c => by
    unfold wayI wayK
    rw [alive_K r, wayI_K r, wayI_K r]
def rows38 (it : Item) : List (List Item × List (List Int)) :=
  let send := Item.snd [0]; let own := Item.dod 0 [0, 1]
  [([it, send], [[0], [0], []]), ([.dod 0 [], it, send], [[], [0], [0], []]), ([.ask 0, send, it], [[], [0], [], []]), ([own, it, send], [[0, 1], [0], [0], []]),
   ([.dod 1 [0], .dod 0 [2], it, .snd [0, 1]], [[0, 2], [1, 2], [0, 1], [0, 1], []]), ([.dod 1 [0], .dod 1 [], it, .snd [1]], [[], [], [1], [1], []]), ([send, own, own, it], [[0], [], [], [], []]),
   ([.dod 2 [0, 1], own, .snd [2], it], [[0, 1], [2], [2], [], []])]
def encR (q : List Item × List (List Int)) : Pv := .tup [.tup (q.1.map Item.enc), .lst (q.2.map tI)]
def idle4 : List Item := [.mrk [], .mrk [0, 2], .dod 3 [0, 1, 2], .ask 3]
theorem rows38_ok : ∀ it ∈ idle4, ∀ q ∈ rows38 it, (Prog.okB ⟨2, 2, q.1⟩ = true) ∧ ((List.range (q.1.length + 1)).map fun j => aliveK (q.1.drop j)) = q.2 := by decide +kernel
theorem prog38a : ∀ it ∈ idle4, (Prog.okB ⟨2, 2, [.dod 1 [0], .dod 0 [2], it, .snd [0, 1]]⟩ = true) ∧ (0 ∈ aliveK [.dod 1 [0], .dod 0 [2], it, .snd [0, 1]]) ∧ (2 ∈ aliveK [.dod 1 [0], .dod 0 [2], it, .snd [0, 1]]) ∧ (0 ∉ aliveK [.dod 0 [2], it, .snd [0, 1]]) ∧ wayK [.dod 1 [0], .dod 0 [2], it, .snd [0, 1]] 0 0 = [0, 3] ∧ wayK [.dod 1 [0], .dod 0 [2], it, .snd [0, 1]] 0 2 = [1, 3] := by decide +kernel
theorem prog38b : ∀ it ∈ idle4, (Prog.okB ⟨2, 2, [.dod 0 [0, 1], it, .dod 0 [0, 1], .snd [0]]⟩ = true) ∧ (1 ∈ aliveK [.dod 0 [0, 1], it, .dod 0 [0, 1], .snd [0]]) ∧ (0 ∈ aliveK [.dod 0 [0, 1], it, .dod 0 [0, 1], .snd [0]]) ∧ (0 ∈ aliveK [.snd [0]]) ∧ (0 ∉ aliveK []) ∧ (3 ∉ aliveK [.dod 0 [0, 1], it, .dod 0 [0, 1], .snd [0]])
   ∧ wayK [.dod 0 [0, 1], it, .dod 0 [0, 1], .snd [0]] 0 1 ∈ [[0, 2, 3], [2, 3]] ∧ wayK [.dod 0 [0, 1], it, .dod 0 [0, 1], .snd [0]] 0 0 = [0, 2, 3] ∧ wayK [.snd [0]] 3 0 = [3] := by decide +kernel
theorem c_way_in [C_way_out Pr L] {p : Prog} (hb : p.okB = true) (n : Nat) {i : Int} (hi : i = n) (hn : n ≤ p.items.length) {c : Int} {w : List Int} (h1 : c ∈ aliveK (p.items.drop n)) (h2 : wayK (p.items.drop n) n c = w) :
    pcallAt Pr L (k + 4) "way_out" [.fz p.enc, .fz (.int i), .fz (.int c)] [] = some (.fz (.tup (w.map .int)), [none, none, none]) := by
  rw [hi, c_way_out (Prog.okB_ok hb) hn, alive_K, if_pos h1, wayI_K, h2]; rfl
theorem c_way_not [C_way_out Pr L] {p : Prog} (hb : p.okB = true) (n : Nat) {i : Int} (hi : i = n) (hn : n ≤ p.items.length) {c : Int} (h1 : c ∉ aliveK (p.items.drop n)) :
    pcallAt Pr L (k + 4) "way_out" [.fz p.enc, .fz (.int i), .fz (.int c)] [] = some (.fz .non, [none, none, none]) := by
  rw [hi, c_way_out (Prog.okB_ok hb) hn, alive_K, if_neg h1]
theorem law_k38 [C_law_v34 Pr L] (ns : List Int) (hn : ns.length ≤ 63) : ∃ fs, prunB (Pn.pgam Pr L "law" (k + 10)) f_law_v34 [.fz (.rol (ns.map .int))] = some (.fz (.bl true), fs) := by
  obtain ⟨s0, e0, hs0⟩ := c_pen (Pr := Pr) (L := L) (k := k + 9) ns
  obtain ⟨r, s1, e1, r0, r1, hs1⟩ := c_draw (Pr := Pr) (L := L) (k := k + 8) hs0 (m := 4) (by omega) (by omega)
  obtain ⟨it, hit, hx⟩ : ∃ it ∈ idle4, pixV [.tup [.str "mark", .tup []], .tup [.str "mark", .tup [.int 0, .int 2]], .tup [.str "do", .int 3, .tup [.int 0, .int 1, .int 2]], .tup [.str "ask", .int 3]] r = some it.enc := by
    obtain ⟨n, rfl⟩ : ∃ n : Nat, r = n := ⟨r.toNat, by omega⟩
    rcases n with _ | _ | _ | _ | n
    · exact ⟨.mrk [], by decide, ix0⟩
    · exact ⟨.mrk [0, 2], by decide, ix1⟩
    · exact ⟨.dod 3 [0, 1, 2], by decide, ix2⟩
    · exact ⟨.ask 3, by decide, ix3⟩
    · omega
  obtain ⟨_, e2, _⟩ := kfor_st (Γ := Pn.pgam Pr L "law" (k + 10)) (t := .tp [.nm 6, .nm 7]) (body := forB f_law_v34 10) (enc := encR) (xs := rows38 it)
    (fun _ : Unit => [some (.fz (.rol (ns.map .int))), some (.ol s1.vs), some (.fz it.enc), some (.fz (Item.enc (.snd [0]))), some (.fz (Item.enc (.dod 0 [0, 1]))), some (.fz (.lst ((rows38 it).map encR))), none, none, none, none]) () (fun _ _ => True) (fun j q _ hq _ => by
      obtain ⟨h1, h2⟩ := rows38_ok it hit q (List.mem_of_getElem? hq)
      have hp := Prog.okB_ok h1
      have hl := hp.len
      simp only at hl
      have hr : prangeOf [.int ((q.1.length : Int) + 1)] = some ((List.range ((q.1.length : Int) + 1).toNat).map fun i : Nat => .int i) := rg1 (by omega) (by omega)
      have hm : ∀ j, j ≤ q.1.length → _ := fun j hj => c_matters (Pr := Pr) (L := L) (k := k + 6) hp (n := j) hj
      simp only [Prog.enc] at hm
      refine ⟨(), ?_, trivial⟩
      simp_arith [f_law_v34, forB, forBody, List.getD_cons_succ, List.getD_cons_zero, encR, hr]
      rw [kcomp_map (fun j : Nat => tI (alive (q.1.drop j))) (fun j hj => by
        have hj := List.mem_range.mp hj
        simp_arith [hm j (by omega)]) (by simp; omega)]
      have hd : ((List.range ((q.1.length : Int) + 1).toNat).map fun j => tI (alive (q.1.drop j))) = q.2.map tI := by
        rw [← h2, List.map_map]
        refine List.map_congr_left fun j _ => ?_
        show _ = tI (aliveK _)
        rw [alive_K]
      simp_arith [hd, veq_ltI]) trivial
  simp only [rows38, List.map_cons, List.map_nil, encR, enc_dod, enc_ask, enc_snd, tI, f_law_v34, forB, forBody, List.getD_cons_succ, List.getD_cons_zero] at e2
  obtain ⟨a1, a2, a3, a4, a5, a6⟩ := prog38a it hit
  obtain ⟨b1, b2, b3, b4, b5, b6, b7, b8, b9⟩ := prog38b it hit
  have p1 := c_way_in (Pr := Pr) (L := L) (k := k + 6) a1 0 rfl (Nat.zero_le _) a2 a5
  have p2 := c_way_in (Pr := Pr) (L := L) (k := k + 6) a1 0 rfl (Nat.zero_le _) a3 a6
  have p3 := c_way_not (Pr := Pr) (L := L) (k := k + 6) a1 1 rfl (by simp) a4
  have p4 := c_way_in (Pr := Pr) (L := L) (k := k + 6) b1 0 rfl (Nat.zero_le _) b2 rfl
  have p5 := c_way_in (Pr := Pr) (L := L) (k := k + 6) b1 0 rfl (Nat.zero_le _) b3 b8
  have p6 := c_way_in (Pr := Pr) (L := L) (k := k + 6) b1 3 rfl (by simp) b4 b9
  have p7 := c_way_not (Pr := Pr) (L := L) (k := k + 6) b1 4 rfl (by simp) b5
  have p8 := c_way_not (Pr := Pr) (L := L) (k := k + 6) b1 0 rfl (Nat.zero_le _) b6
  have h4 := in_tIs (c := wayK [.dod 0 [0, 1], it, .dod 0 [0, 1], .snd [0]] 0 1) (xs := [[0, 2, 3], [2, 3]])
  simp only [b7, tI, decide_true, List.map_cons, List.map_nil] at h4
  simp only [List.drop_zero] at p4
  generalize wayK [.dod 0 [0, 1], it, .dod 0 [0, 1], .snd [0]] 0 1 = w at p4 h4
  simp only [enc_prog, enc_dod, enc_snd, List.map_cons, List.map_nil, show ((0 : Nat) : Int) = 0 from rfl, show ((1 : Nat) : Int) = 1 from rfl, show ((3 : Nat) : Int) = 3 from rfl, show ((4 : Nat) : Int) = 4 from rfl] at p1 p2 p3 p4 p5 p6 p7 p8
  have v1 := veq_tmap (xs := [0, 3]) (ys := [0, 3])
  have v2 := veq_tmap (xs := [1, 3]) (ys := [1, 3])
  have v3 := veq_tmap (xs := [0, 2, 3]) (ys := [0, 2, 3])
  have v4 := veq_tmap (xs := [3]) (ys := [3])
  simp only [List.map_cons, List.map_nil, decide_true] at v1 v2 v3 v4
  exact ⟨_, by simp_arith [f_law_v34, e0, e1, hx, e2, p1, p2, p3, p4, p5, p6, p7, p8, h4, v1, v2, v3, v4]; rfl⟩
end Mn
end -- L38
section -- D_k38
set_option linter.all false
set_option maxRecDepth 100000
namespace Mn
open PySem L2
def prg : Prg := ⟨[(Str.ofString "written_cell", f_written_cell), (Str.ofString "read_cells", f_read_cells), (Str.ofString "matter_before", f_matter_before), (Str.ofString "matter_rows", f_matter_rows), (Str.ofString "matters", f_matters), (Str.ofString "way_out", f_way_out), (Str.ofString "_law_pen", f__law_pen), (Str.ofString "_law_fresh", f__law_fresh), (Str.ofString "_law_draw", f__law_draw), (Str.ofString "law", f_law_v34)],
  [],
  [], 1000000⟩
def gt : GT := ⟨[(Str.ofString "written_cell", .fn), (Str.ofString "read_cells", .fn), (Str.ofString "matter_before", .fn), (Str.ofString "matter_rows", .fn), (Str.ofString "matters", .fn), (Str.ofString "way_out", .fn), (Str.ofString "_law_pen", .fn), (Str.ofString "_law_fresh", .fn), (Str.ofString "_law_draw", .fn), (Str.ofString "law", .fn)], [],
  [(Str.ofString "written_cell", 1, []), (Str.ofString "read_cells", 1, []), (Str.ofString "matter_before", 2, []), (Str.ofString "matter_rows", 1, []), (Str.ofString "_law_fresh", 1, []), (Str.ofString "_law_pen", 1, []), (Str.ofString "_law_draw", 2, []), (Str.ofString "way_out", 3, []), (Str.ofString "matters", 2, [])],
  [],
  [], ["tuple", "sorted", "reversed", "range", "len", "list", "int"]⟩
def lnd : Str → List Bool := fun f => (([(Str.ofString "_law_fresh", [true]), (Str.ofString "_law_draw", [true])] : List (Str × List Bool)).lookup f).getD []
instance : C__law_pen prg lnd where
  fn__law_pen := by kernel_rfl
  ln__law_pen := by kernel_rfl
instance : C__law_fresh prg lnd where
  fn__law_fresh := by kernel_rfl
  ln__law_fresh := by kernel_rfl
instance : C__law_draw prg lnd where
  fn__law_draw := by kernel_rfl
  ln__law_draw := by kernel_rfl
instance : C_written_cell prg lnd where
  fn_written_cell := by kernel_rfl
  ln_written_cell := by kernel_rfl
instance : C_read_cells prg lnd where
  fn_read_cells := by kernel_rfl
  ln_read_cells := by kernel_rfl
instance : C_matter_before prg lnd where
  fn_matter_before := by kernel_rfl
  ln_matter_before := by kernel_rfl
instance : C_matter_rows prg lnd where
  fn_matter_rows := by kernel_rfl
  ln_matter_rows := by kernel_rfl
instance : C_matters prg lnd where
  fn_matters := by kernel_rfl
  ln_matters := by kernel_rfl
instance : C_way_out prg lnd where
  fn_way_out := by kernel_rfl
  ln_way_out := by kernel_rfl
instance : C_law_v34 prg lnd where
  fn_law_v34 := by kernel_rfl
  ln_law_v34 := by kernel_rfl
theorem prun (ns : List Int) (hn : ns.length ≤ 63) : ∃ M', runB (gam prg 20) f_law_v34 [.ref 0] [.rol (ns.map .int)] = .ok (.bl true) M' := by
  obtain ⟨fs, e⟩ := law_k38 (Pr := prg) (L := lnd) (k := 10) ns hn
  exact law_pn rfl e
end Mn
end -- D_k38
section -- C_k38
set_option linter.all false
set_option maxRecDepth 100000
namespace Mn
open PySem L2
def top (i : Nat) : Stmt := PySem.Challenge.pw_cutrows_k38_matters_by_hand.main.body.getD i (.Pass ⟨0, 0, 0, 0⟩)
abbrev s_written_cell : Stmt := top 1
theorem sc_written_cell : FnScope n_written_cell f_written_cell.ps (defScope s_written_cell) := ⟨rfl, rfl, rfl, by decide +kernel, rfl, by decide +kernel, by decide +kernel⟩
theorem cv_written_cell : convB gt ⟨defScope s_written_cell, n_written_cell, fun _ => true⟩ (defBody s_written_cell) = some f_written_cell.body := by kernel_rfl
abbrev s_read_cells : Stmt := top 2
theorem sc_read_cells : FnScope n_read_cells f_read_cells.ps (defScope s_read_cells) := ⟨rfl, rfl, rfl, by decide +kernel, rfl, by decide +kernel, by decide +kernel⟩
theorem cv_read_cells : convB gt ⟨defScope s_read_cells, n_read_cells, fun _ => true⟩ (defBody s_read_cells) = some f_read_cells.body := by kernel_rfl
abbrev s_matter_before : Stmt := top 4
theorem sc_matter_before : FnScope n_matter_before f_matter_before.ps (defScope s_matter_before) := ⟨rfl, rfl, rfl, by decide +kernel, rfl, by decide +kernel, by decide +kernel⟩
theorem cv_matter_before : convB gt ⟨defScope s_matter_before, n_matter_before, fun _ => true⟩ (defBody s_matter_before) = some f_matter_before.body := by kernel_rfl
abbrev s_matter_rows : Stmt := top 5
theorem sc_matter_rows : FnScope n_matter_rows f_matter_rows.ps (defScope s_matter_rows) := ⟨rfl, rfl, rfl, by decide +kernel, rfl, by decide +kernel, by decide +kernel⟩
theorem cv_matter_rows : convB gt ⟨defScope s_matter_rows, n_matter_rows, fun _ => true⟩ (defBody s_matter_rows) = some f_matter_rows.body := by kernel_rfl
abbrev s_matters : Stmt := top 6
theorem sc_matters : FnScope n_matters f_matters.ps (defScope s_matters) := ⟨rfl, rfl, rfl, by decide +kernel, rfl, by decide +kernel, by decide +kernel⟩
theorem cv_matters : convB gt ⟨defScope s_matters, n_matters, fun _ => true⟩ (defBody s_matters) = some f_matters.body := by kernel_rfl
abbrev s_way_out : Stmt := top 7
theorem sc_way_out : FnScope n_way_out f_way_out.ps (defScope s_way_out) := ⟨rfl, rfl, rfl, by decide +kernel, rfl, by decide +kernel, by decide +kernel⟩
theorem cv_way_out : convB gt ⟨defScope s_way_out, n_way_out, fun _ => true⟩ (defBody s_way_out) = some f_way_out.body := by kernel_rfl
abbrev s__law_pen : Stmt := top 9
theorem sc__law_pen : FnScope n__law_pen f__law_pen.ps (defScope s__law_pen) := ⟨rfl, rfl, rfl, by decide +kernel, rfl, by decide +kernel, by decide +kernel⟩
theorem cv__law_pen : convB gt ⟨defScope s__law_pen, n__law_pen, fun _ => true⟩ (defBody s__law_pen) = some f__law_pen.body := by kernel_rfl
abbrev s__law_fresh : Stmt := top 10
theorem sc__law_fresh : FnScope n__law_fresh f__law_fresh.ps (defScope s__law_fresh) := ⟨rfl, rfl, rfl, by decide +kernel, rfl, by decide +kernel, by decide +kernel⟩
theorem cv__law_fresh : convB gt ⟨defScope s__law_fresh, n__law_fresh, fun _ => true⟩ (defBody s__law_fresh) = some f__law_fresh.body := by kernel_rfl
abbrev s__law_draw : Stmt := top 11
theorem sc__law_draw : FnScope n__law_draw f__law_draw.ps (defScope s__law_draw) := ⟨rfl, rfl, rfl, by decide +kernel, rfl, by decide +kernel, by decide +kernel⟩
theorem cv__law_draw : convB gt ⟨defScope s__law_draw, n__law_draw, fun _ => true⟩ (defBody s__law_draw) = some f__law_draw.body := by kernel_rfl
abbrev s_law_v34 : Stmt := top 12
theorem sc_law_v34 : FnScope n_law_v34 f_law_v34.ps (defScope s_law_v34) := ⟨rfl, rfl, rfl, by decide +kernel, rfl, by decide +kernel, by decide +kernel⟩
theorem cv_law_v34 : convB gt ⟨defScope s_law_v34, n_law_v34, fun _ => true⟩ (defBody s_law_v34) = some f_law_v34.body := by kernel_rfl
end Mn
end -- C_k38
section -- H_k38
set_option linter.all false
set_option maxRecDepth 100000
namespace Mn
open PySem L2
section
variable {l : PySem.W.OpenLaw} {w : World} {K : PySem.W.Frag} {h : Heap} {mg : Str → Option Value} {fa g0 g1 g2 g3 g4 g5 g6 g7 g8 g9 : Addr}
  {od0 an0 od1 an1 od2 an2 od3 an3 od4 an4 od5 an5 od6 an6 od7 an7 od8 an8 od9 an9 : Option Addr} {sl0 sl1 sl2 sl3 sl4 sl5 sl6 sl7 sl8 sl9 : Array (Option Value)} {oc0 kV0 dc0 pm0 cd0 ct0 oc1 kV1 dc1 pm1 cd1 ct1 oc2 kV2 dc2 pm2 cd2 ct2 oc3 kV3 dc3 pm3 cd3 ct3 oc4 kV4 dc4 pm4 cd4 ct4 oc5 kV5 dc5 pm5 cd5 ct5 oc6 kV6 dc6 pm6 cd6 ct6 oc7 kV7 dc7 pm7 cd7 ct7 oc8 kV8 dc8 pm8 cd8 ct8 oc9 kV9 dc9 pm9 cd9 ct9 : Value}
theorem all_mk (X : K.In h) (Gm : h.Ns mainGlobals mg) (hfa : mg "law" = some (.ref fa))
    (a0 : PySem.W.nsIn K mainGlobals "written_cell" = some (some (.ref g0))) (l0 : K.lookup g0 = some ⟨oc0, od0, .func (PySem.W.fnOf "written_cell" "written_cell" (defArgs s_written_cell) (defBody s_written_cell) (defScope s_written_cell) .none kV0 dc0 pm0 an0 cd0 ct0), sl0⟩) (c0 : PySem.W.codeIn K cd0 "written_cell" = true) (k0 : PySem.W.keepIn K (.ref g0) = true)
    (a1 : PySem.W.nsIn K mainGlobals "read_cells" = some (some (.ref g1))) (l1 : K.lookup g1 = some ⟨oc1, od1, .func (PySem.W.fnOf "read_cells" "read_cells" (defArgs s_read_cells) (defBody s_read_cells) (defScope s_read_cells) .none kV1 dc1 pm1 an1 cd1 ct1), sl1⟩) (c1 : PySem.W.codeIn K cd1 "read_cells" = true) (k1 : PySem.W.keepIn K (.ref g1) = true)
    (a2 : PySem.W.nsIn K mainGlobals "matter_before" = some (some (.ref g2))) (l2 : K.lookup g2 = some ⟨oc2, od2, .func (PySem.W.fnOf "matter_before" "matter_before" (defArgs s_matter_before) (defBody s_matter_before) (defScope s_matter_before) .none kV2 dc2 pm2 an2 cd2 ct2), sl2⟩) (c2 : PySem.W.codeIn K cd2 "matter_before" = true) (k2 : PySem.W.keepIn K (.ref g2) = true)
    (a3 : PySem.W.nsIn K mainGlobals "matter_rows" = some (some (.ref g3))) (l3 : K.lookup g3 = some ⟨oc3, od3, .func (PySem.W.fnOf "matter_rows" "matter_rows" (defArgs s_matter_rows) (defBody s_matter_rows) (defScope s_matter_rows) .none kV3 dc3 pm3 an3 cd3 ct3), sl3⟩) (c3 : PySem.W.codeIn K cd3 "matter_rows" = true) (k3 : PySem.W.keepIn K (.ref g3) = true)
    (a4 : PySem.W.nsIn K mainGlobals "matters" = some (some (.ref g4))) (l4 : K.lookup g4 = some ⟨oc4, od4, .func (PySem.W.fnOf "matters" "matters" (defArgs s_matters) (defBody s_matters) (defScope s_matters) .none kV4 dc4 pm4 an4 cd4 ct4), sl4⟩) (c4 : PySem.W.codeIn K cd4 "matters" = true) (k4 : PySem.W.keepIn K (.ref g4) = true)
    (a5 : PySem.W.nsIn K mainGlobals "way_out" = some (some (.ref g5))) (l5 : K.lookup g5 = some ⟨oc5, od5, .func (PySem.W.fnOf "way_out" "way_out" (defArgs s_way_out) (defBody s_way_out) (defScope s_way_out) .none kV5 dc5 pm5 an5 cd5 ct5), sl5⟩) (c5 : PySem.W.codeIn K cd5 "way_out" = true) (k5 : PySem.W.keepIn K (.ref g5) = true)
    (a6 : PySem.W.nsIn K mainGlobals "_law_pen" = some (some (.ref g6))) (l6 : K.lookup g6 = some ⟨oc6, od6, .func (PySem.W.fnOf "_law_pen" "_law_pen" (defArgs s__law_pen) (defBody s__law_pen) (defScope s__law_pen) .none kV6 dc6 pm6 an6 cd6 ct6), sl6⟩) (c6 : PySem.W.codeIn K cd6 "_law_pen" = true) (k6 : PySem.W.keepIn K (.ref g6) = true)
    (a7 : PySem.W.nsIn K mainGlobals "_law_fresh" = some (some (.ref g7))) (l7 : K.lookup g7 = some ⟨oc7, od7, .func (PySem.W.fnOf "_law_fresh" "_law_fresh" (defArgs s__law_fresh) (defBody s__law_fresh) (defScope s__law_fresh) .none kV7 dc7 pm7 an7 cd7 ct7), sl7⟩) (c7 : PySem.W.codeIn K cd7 "_law_fresh" = true) (k7 : PySem.W.keepIn K (.ref g7) = true)
    (a8 : PySem.W.nsIn K mainGlobals "_law_draw" = some (some (.ref g8))) (l8 : K.lookup g8 = some ⟨oc8, od8, .func (PySem.W.fnOf "_law_draw" "_law_draw" (defArgs s__law_draw) (defBody s__law_draw) (defScope s__law_draw) .none kV8 dc8 pm8 an8 cd8 ct8), sl8⟩) (c8 : PySem.W.codeIn K cd8 "_law_draw" = true) (k8 : PySem.W.keepIn K (.ref g8) = true)
    (a9 : PySem.W.nsIn K mainGlobals "law" = some (some (.ref g9))) (l9 : K.lookup g9 = some ⟨oc9, od9, .func (PySem.W.fnOf "law" "law" (defArgs s_law_v34) (defBody s_law_v34) (defScope s_law_v34) .none kV9 dc9 pm9 an9 cd9 ct9), sl9⟩) (c9 : PySem.W.codeIn K cd9 "law" = true) (k9 : PySem.W.keepIn K (.ref g9) = true)
    (z0 : PySem.W.nsIn K mainGlobals "tuple" = some none)
    (z1 : PySem.W.nsIn K mainGlobals "sorted" = some none)
    (z2 : PySem.W.nsIn K mainGlobals "reversed" = some none)
    (z3 : PySem.W.nsIn K mainGlobals "range" = some none)
    (z4 : PySem.W.nsIn K mainGlobals "len" = some none)
    (z5 : PySem.W.nsIn K mainGlobals "list" = some none)
    (z6 : PySem.W.nsIn K mainGlobals "int" = some none) :
    Top ⟨l.prog, w, K, mg⟩ gt prg ∧ ∃ fdat : FuncData, DefOk ⟨l.prog, w, K, mg⟩ gt f_law_v34 fa fdat ∧ ∀ (s : Shared) (u : Value), BindsTo s fdat ⟨[u], []⟩ (f_law_v34.ps.zip [u]) := by
  have e := hfa.symm.trans (PySem.W.mg_of X Gm a9)
  cases e
  have d0 : DefOk ⟨l.prog, w, K, mg⟩ gt f_written_cell g0 _ := def_mk n_written_cell l0 c0 sc_written_cell cv_written_cell rfl
  have d1 : DefOk ⟨l.prog, w, K, mg⟩ gt f_read_cells g1 _ := def_mk n_read_cells l1 c1 sc_read_cells cv_read_cells rfl
  have d2 : DefOk ⟨l.prog, w, K, mg⟩ gt f_matter_before g2 _ := def_mk n_matter_before l2 c2 sc_matter_before cv_matter_before rfl
  have d3 : DefOk ⟨l.prog, w, K, mg⟩ gt f_matter_rows g3 _ := def_mk n_matter_rows l3 c3 sc_matter_rows cv_matter_rows rfl
  have d4 : DefOk ⟨l.prog, w, K, mg⟩ gt f_matters g4 _ := def_mk n_matters l4 c4 sc_matters cv_matters rfl
  have d5 : DefOk ⟨l.prog, w, K, mg⟩ gt f_way_out g5 _ := def_mk n_way_out l5 c5 sc_way_out cv_way_out rfl
  have d6 : DefOk ⟨l.prog, w, K, mg⟩ gt f__law_pen g6 _ := def_mk n__law_pen l6 c6 sc__law_pen cv__law_pen rfl
  have d7 : DefOk ⟨l.prog, w, K, mg⟩ gt f__law_fresh g7 _ := def_mk n__law_fresh l7 c7 sc__law_fresh cv__law_fresh rfl
  have d8 : DefOk ⟨l.prog, w, K, mg⟩ gt f__law_draw g8 _ := def_mk n__law_draw l8 c8 sc__law_draw cv__law_draw rfl
  have d9 : DefOk ⟨l.prog, w, K, mg⟩ gt f_law_v34 fa _ := def_mk n_law_v34 l9 c9 sc_law_v34 cv_law_v34 rfl
  have tb : ∀ x, gt.blt.contains x = true → mg x = none := fun x hx => by
    have hx : x ∈ gt.blt := List.contains_iff_mem.mp hx
    rcases List.mem_cons.mp hx with rfl | hx
    · exact PySem.W.mg_none_of X Gm z0
    rcases List.mem_cons.mp hx with rfl | hx
    · exact PySem.W.mg_none_of X Gm z1
    rcases List.mem_cons.mp hx with rfl | hx
    · exact PySem.W.mg_none_of X Gm z2
    rcases List.mem_cons.mp hx with rfl | hx
    · exact PySem.W.mg_none_of X Gm z3
    rcases List.mem_cons.mp hx with rfl | hx
    · exact PySem.W.mg_none_of X Gm z4
    rcases List.mem_cons.mp hx with rfl | hx
    · exact PySem.W.mg_none_of X Gm z5
    rcases List.mem_cons.mp hx with rfl | hx
    · exact PySem.W.mg_none_of X Gm z6
    cases hx
  have tf : ∀ e ∈ gt.fsg, ∃ fd fa F, prg.fns.lookup e.1 = some fd ∧ DefOk ⟨l.prog, w, K, mg⟩ gt fd fa F ∧ BindOk ⟨l.prog, w, K, mg⟩ fd F e.2.1 e.2.2 ∧ mg e.1 = some (.ref fa) ∧ PySem.W.keepIn K (.ref fa) = true := fun e he => by
    have he : e ∈ gt.fsg := he
    rcases List.mem_cons.mp he with rfl | he
    · exact ⟨f_written_cell, g0, _, rfl, d0, bind_all (fd := f_written_cell) fun us hl => (match us, hl with | [_], _ => rfl), PySem.W.mg_of X Gm a0, k0⟩
    rcases List.mem_cons.mp he with rfl | he
    · exact ⟨f_read_cells, g1, _, rfl, d1, bind_all (fd := f_read_cells) fun us hl => (match us, hl with | [_], _ => rfl), PySem.W.mg_of X Gm a1, k1⟩
    rcases List.mem_cons.mp he with rfl | he
    · exact ⟨f_matter_before, g2, _, rfl, d2, bind_all (fd := f_matter_before) fun us hl => (match us, hl with | [_, _], _ => rfl), PySem.W.mg_of X Gm a2, k2⟩
    rcases List.mem_cons.mp he with rfl | he
    · exact ⟨f_matter_rows, g3, _, rfl, d3, bind_all (fd := f_matter_rows) fun us hl => (match us, hl with | [_], _ => rfl), PySem.W.mg_of X Gm a3, k3⟩
    rcases List.mem_cons.mp he with rfl | he
    · exact ⟨f__law_fresh, g7, _, rfl, d7, bind_all (fd := f__law_fresh) fun us hl => (match us, hl with | [_], _ => rfl), PySem.W.mg_of X Gm a7, k7⟩
    rcases List.mem_cons.mp he with rfl | he
    · exact ⟨f__law_pen, g6, _, rfl, d6, bind_all (fd := f__law_pen) fun us hl => (match us, hl with | [_], _ => rfl), PySem.W.mg_of X Gm a6, k6⟩
    rcases List.mem_cons.mp he with rfl | he
    · exact ⟨f__law_draw, g8, _, rfl, d8, bind_all (fd := f__law_draw) fun us hl => (match us, hl with | [_, _], _ => rfl), PySem.W.mg_of X Gm a8, k8⟩
    rcases List.mem_cons.mp he with rfl | he
    · exact ⟨f_way_out, g5, _, rfl, d5, bind_all (fd := f_way_out) fun us hl => (match us, hl with | [_, _, _], _ => rfl), PySem.W.mg_of X Gm a5, k5⟩
    rcases List.mem_cons.mp he with rfl | he
    · exact ⟨f_matters, g4, _, rfl, d4, bind_all (fd := f_matters) fun us hl => (match us, hl with | [_, _], _ => rfl), PySem.W.mg_of X Gm a4, k4⟩
    cases he
  have tg : ∀ x v, prg.glb.lookup x = some v → ∃ u uv, mg x = some uv ∧ RelV u uv ∧ ∀ φ H, RV ⟨l.prog, w, K, mg⟩ φ H v u := fun x v e => by
    cases (show (none : Option Val) = some v from e)
  have tl : ∀ C f, fldIn prg C f = true → ∃ Ca, mg C = some (.ref Ca) ∧ Cls K Ca ∧ NoAttr K Ca f := fun C f e => by
    cases (show false = true from e)
  exact ⟨⟨tb, tg, tl, tf, fun e he => (List.not_mem_nil he).elim, fun e he => (List.not_mem_nil he).elim⟩, _, d9, fun s u => .of_eq rfl⟩
end
end Mn
open PySem PySem.W PyProof.Rows
set_option maxRecDepth 100000 in
set_option maxHeartbeats 0 in
theorem PySem.Challenge.cw_cutrows_k38_matters_by_hand_holds : PySem.Challenge.rw_cutrows_k38_matters_by_hand.Holds := by
  w_on; o_law; k_head; (case hw => w_witness2)
  k_fill
  refine Mn.walk_mn (l := PySem.Challenge.rw_cutrows_k38_matters_by_hand) (k := 20) (G := Mn.gt) (P := Mn.prg) (fd := Mn.f_law_v34) rfl rfl ⟨rfl, by decide, by decide⟩ rfl (fun w h Y => PySem.W.kIn_of Y) ?F Mn.prun
  case F =>
    intro w mg fa h KX Gm hmg
    refine' Mn.all_mk KX Gm hmg ?a0 ?l0 ?c0 ?k0 ?a1 ?l1 ?c1 ?k1 ?a2 ?l2 ?c2 ?k2 ?a3 ?l3 ?c3 ?k3 ?a4 ?l4 ?c4 ?k4 ?a5 ?l5 ?c5 ?k5 ?a6 ?l6 ?c6 ?k6 ?a7 ?l7 ?c7 ?k7 ?a8 ?l8 ?c8 ?k8 ?a9 ?l9 ?c9 ?k9 ?z0 ?z1 ?z2 ?z3 ?z4 ?z5 ?z6
    (case a0 => k_is); (case l0 => k_is); (case c0 => k_is); (case k0 => k_is); (case a1 => k_is); (case l1 => k_is); (case c1 => k_is); (case k1 => k_is); (case a2 => k_is); (case l2 => k_is); (case c2 => k_is); (case k2 => k_is); (case a3 => k_is); (case l3 => k_is); (case c3 => k_is); (case k3 => k_is); (case a4 => k_is); (case l4 => k_is); (case c4 => k_is); (case k4 => k_is); (case a5 => k_is); (case l5 => k_is); (case c5 => k_is); (case k5 => k_is); (case a6 => k_is); (case l6 => k_is); (case c6 => k_is); (case k6 => k_is); (case a7 => k_is); (case l7 => k_is); (case c7 => k_is); (case k7 => k_is); (case a8 => k_is); (case l8 => k_is); (case c8 => k_is); (case k8 => k_is); (case a9 => k_is); (case l9 => k_is); (case c9 => k_is); (case k9 => k_is); (case z0 => k_is); (case z1 => k_is); (case z2 => k_is); (case z3 => k_is); (case z4 => k_is); (case z5 => k_is); (case z6 => k_is)
end -- H_k38
