import PyProof.Rows.All
import Wide.All
import OpenK.AllK
import Wide.FinOn
import HandS.ForMost
import KE.SortData
import KE.KDictKeyed
import KE.KeyNested
import HandS.TupAny
import HandS.TupMul
import HandS.Deep
import HandS.Style
import HandS.Flow
import HandS.Rev
import HandS.RevRange
import HandS.Zip
import HandS.Conv
import HandS.TupLe
import HandS.IsInst
import HandS.SortInts
import HandS.TupLen
import HandS.More
import HandS.SetFor
import HandS.SetKeys
import KE.DataMinMax
import KE.GoesEnum
import PyProof.DictStraight
import HandS.Words
import HandS.Ends
import PySem.Challenge.RW_cutrows_k24_facts_led_to
section -- Mn1
set_option linter.all false
set_option maxRecDepth 100000
/-! A small evaluator for the part of Python that the program uses: values, store, expressions, statements. -/
namespace Mn
open PySem

inductive Val where
  | non | bl (b : Bool) | int (i : Int) | str (s : Str) | tup (vs : List Val) | ref (n : Nat) | ty (n : String) | glo (x : Str)

inductive Obj where
  | lst (vs : List Val) | rol (vs : List Val) | dct (kvs : List (Val × Val)) | ins (C : Str) (fs : List (Str × Val))

abbrev Mem := List Obj
abbrev Env := List (Option Val)

inductive Res (α : Type) where
  | ok (a : α) (M : Mem) | exc (C : Str) (fs : List (Str × Val)) (M : Mem) | stuck

def Res.bind {α β : Type} (r : Res α) (f : α → Mem → Res β) : Res β :=
  match r with
  | .ok a M => f a M
  | .exc C fs M => .exc C fs M
  | .stuck => .stuck

/-! ### data -/
mutual
/-- a value as data, its references read by rd -/
def dat (rd : Nat → Option PyData) : Val → Option PyData
  | .non => some .none
  | .bl b => some (.bool b)
  | .int i => some (.int i)
  | .str s => some (.str s)
  | .tup vs => (dats rd vs).map .tuple
  | .ref n => rd n
  | .ty _ => none
  | .glo _ => none
def dats (rd : Nat → Option PyData) : List Val → Option (List PyData)
  | [] => some []
  | v :: vs => match dat rd v, dats rd vs with
    | some d, some ds => some (d :: ds)
    | _, _ => none
end
/-- a reference read in the store: lists, to some depth -/
def rdM (M : Mem) : Nat → Nat → Option PyData
  | 0, _ => none
  | k + 1, n => match M[n]? with
    | some (.lst vs) => (dats (rdM M k) vs).map .list
    | some (.rol vs) => (dats (rdM M k) vs).map .list
    | _ => none
def datM (M : Mem) (v : Val) : Option PyData := dat (rdM M 6) v
def datsM (M : Mem) (vs : List Val) : Option (List PyData) := dats (rdM M 6) vs

/-- x == y, by data -/
def veqD (M : Mem) (x y : Val) : Option Bool :=
  match datM M x, datM M y with
  | some d, some e => if SeqAt.shaped d && SeqAt.shaped e then some (PyData.eqv d e) else none
  | _, _ => none
/-- x == y -/
def veq (M : Mem) (x y : Val) : Option Bool :=
  match x, y with
  | .str a, .str b => some (decide (a = b))
  | x, y => veqD M x y
/-- x < y for what isn't two intsOf -/
def vlt (M : Mem) (x y : Val) : Option Bool :=
  match datM M x, datM M y with
  | some (.tuple ds), some (.tuple es) => if PySem.W.alike (.tuple ds) (.tuple es) && SeqAt.shaped (.tuple ds) && SeqAt.shaped (.tuple es) then some (PySem.W.dataLt (.tuple ds) (.tuple es)) else none
  | some (.str a), some (.str b) => some (PySem.W.dataLt (.str a) (.str b))
  | _, _ => none

/-- the items of a list or tuple -/
def seqOf (M : Mem) : Val → Option (List Val)
  | .tup vs => some vs
  | .ref n => match M[n]? with
    | some (.lst vs) => some vs
    | some (.rol vs) => some vs
    | _ => none
  | _ => none
/-! ### dicts -/
mutual
def isKey : Val → Bool
  | .non => true
  | .int _ => true
  | .str _ => true
  | .tup vs => areKeys vs
  | _ => false
def areKeys : List Val → Bool
  | [] => true
  | v :: vs => isKey v && areKeys vs
end
mutual
def kdepth : Val → Nat
  | .tup vs => kdepths vs + 1
  | _ => 0
def kdepths : List Val → Nat
  | [] => 0
  | v :: vs => max (kdepth v) (kdepths vs)
end
mutual
/-- equality of keys (no truth values, no references) -/
def keq : Val → Val → Bool
  | .non, .non => true
  | .int i, .int j => decide (i = j)
  | .str a, .str b => decide (a = b)
  | .tup vs, .tup ws => keqs vs ws
  | _, _ => false
def keqs : List Val → List Val → Bool
  | [], [] => true
  | v :: vs, w :: ws => keq v w && keqs vs ws
  | _, _ => false
end
/-- a key that a dict with the keys of kvs takes: an int or a text, or a tuple, as those that are there -/
def leafK : Val → Bool
  | .int _ => true
  | .str _ => true
  | _ => false
def tupK : Val → Bool
  | .tup vs => areKeys vs && decide (kdepths vs < 8)
  | _ => false
def fits (kvs : List (Val × Val)) (k : Val) : Bool :=
  (leafK k && kvs.all fun p => leafK p.1) || (tupK k && kvs.all fun p => tupK p.1)
def dget (kvs : List (Val × Val)) (k : Val) : Option Val := (kvs.find? fun p => keq p.1 k).map (·.2)
def dput : List (Val × Val) → Val → Val → List (Val × Val)
  | [], k, v => [(k, v)]
  | p :: r, k, v => if keq p.1 k then (p.1, v) :: r else p :: dput r k v

/-- the items of a list -/
def lstOf (M : Mem) : Val → Option (List Val)
  | .ref n => match M[n]? with
    | some (.lst vs) => some vs
    | some (.rol vs) => some vs
    | _ => none
  | _ => none
/-- truth -/
def truth (M : Mem) : Val → Option Bool
  | .non => some false
  | .bl b => some b
  | .int i => some (i != 0)
  | .str s => if s.length ≤ sizeLine then some ((s.length : Int) != 0) else none
  | .tup vs => some (!vs.isEmpty)
  | .ref n => match M[n]? with
    | some (.lst vs) => some (!vs.isEmpty)
    | some (.rol vs) => some (!vs.isEmpty)
    | some (.dct kvs) => if kvs.all fun p => leafK p.1 then some (!kvs.isEmpty) else none
    | _ => none
  | _ => none

def new (o : Obj) (M : Mem) : Res Val := .ok (.ref M.length) (M ++ [o])
def ofO {α : Type} (o : Option α) (M : Mem) : Res α := match o with | some a => .ok a M | none => .stuck
def chk {α : Type} (b : Bool) (r : Res α) : Res α := if b then r else .stuck

/-! ### operators -/
def binop (op : Operator) (x y : Val) (M : Mem) : Res Val :=
  match op, x, y with
  | .Add, .int i, .int j => .ok (.int (i + j)) M
  | .Add, .str a, .str b => chk (decide (a.length + b.length ≤ sizeLine)) (.ok (.str (a ++ b)) M)
  | .Add, .tup a, .tup b => chk (decide (a.length + b.length ≤ sizeLine)) (.ok (.tup (a ++ b)) M)
  | .Add, .ref a, .ref b => match M[a]?, M[b]? with
    | some (.lst xs), some (.lst ys) => chk (decide (xs.length + ys.length ≤ sizeLine)) (new (.lst (xs ++ ys)) M)
    | _, _ => .stuck
  | .Sub, .int i, .int j => .ok (.int (i - j)) M
  | .Mult, .int i, .int j => chk (decide ((-(2 ^ 64) < i ∧ i < 2 ^ 64) ∨ (-(2 ^ 64) < j ∧ j < 2 ^ 64))) (.ok (.int (i * j)) M)
  | .Mult, .ref a, .int j => match M[a]? with
    | some (.lst xs) => chk (decide (-(2 ^ 63) ≤ j ∧ j < 2 ^ 63 ∧ xs.length * j.toNat ≤ sizeLine)) (new (.lst (List.replicate j.toNat xs).flatten) M)
    | _ => .stuck
  | .Mult, .tup xs, .int j => chk (decide (xs.length ≠ 0 ∧ 2 ≤ j ∧ j ≤ 1000 ∧ xs.length ≤ 1000)) (.ok (.tup (List.replicate j.toNat xs).flatten) M)
  | .FloorDiv, .int i, .int j => chk (decide (0 < j ∧ j < 1073741824)) (.ok (.int (i / j)) M)
  | .Mod, .int i, .int j => chk (decide (0 < j)) (.ok (.int (i % j)) M)
  | .Pow, .int i, .int j => chk (decide (0 ≤ j ∧ j ≤ 1000000 ∧ i.natAbs < 2 ^ 64)) (.ok (.int (i ^ j.toNat)) M)
  | _, _, _ => .stuck

/-- x in ys -/
def vin (M : Mem) (x : Val) (ys : List Val) : Option Bool :=
  match datM M x, datsM M ys with
  | some d, some ds => if SeqAt.shaped d && SeqAt.shaped (.list ds) then some (ds.any fun z => PyData.eqv z d) else none
  | _, _ => none
def cin (x y : Val) (M : Mem) : Option Bool :=
  match y with
  | .tup ys => vin M x ys
  | .str b => match x with
    | .str a => some (!(Builtin.Str.occurrences b a 0 b.length 1).isEmpty)
    | _ => none
  | .ref n => match M[n]? with
    | some (.lst ys) => vin M x ys
    | some (.rol ys) => vin M x ys
    | some (.dct kvs) => if fits kvs x then some (dget kvs x).isSome else none
    | _ => none
  | _ => none
def cis : Val → Val → Option Bool
  | x, .non => some (match x with | .non => true | _ => false)
  | .bl a, .bl b => some (a == b)
  | _, _ => none
def cmpop (op : CmpOp) (x y : Val) (M : Mem) : Option Bool :=
  match op with
  | .Eq => veq M x y
  | .NotEq => (veq M x y).map (!·)
  | .Lt => match x, y with
    | .int i, .int j => some (decide (i < j))
    | _, _ => vlt M x y
  | .LtE => match x, y with
    | .int i, .int j => some (decide (i ≤ j))
    | _, _ => none
  | .Gt => match x, y with
    | .int i, .int j => some (decide (j < i))
    | _, _ => none
  | .GtE => match x, y with
    | .int i, .int j => some (decide (j ≤ i))
    | _, _ => none
  | .Is => cis x y
  | .IsNot => (cis x y).map (!·)
  | .In => cin x y M
  | .NotIn => (cin x y M).map (!·)

/-- the place of an index -/
def ixOf (i : Int) (n : Nat) : Option Nat := if 0 ≤ i then (if i < n then some i.toNat else none) else (if -(n : Int) ≤ i then some (i + n).toNat else none)
def ixV (vs : List Val) (j : Int) (M : Mem) : Res Val := match ixOf j vs.length with
  | some k => ofO vs[k]? M
  | none => .stuck
def subs (x i : Val) (M : Mem) : Res Val :=
  match x, i with
  | .tup vs, .int j => ixV vs j M
  | .str s, .int j => match if s.length ≤ sizeLine then ixOf j s.length else none with | some k => ofO (s.cps[k]?.map fun c => .str ⟨#[c]⟩) M | none => .stuck
  | .ref n, i => match M[n]? with
    | some (.lst vs) => match i with | .int j => ixV vs j M | _ => .stuck
    | some (.rol vs) => match i with | .int j => ixV vs j M | _ => .stuck
    | some (.dct kvs) => chk (fits kvs i) (ofO (dget kvs i) M)
    | _ => .stuck
  | _, _ => .stuck
def cut {α : Type} (xs : List α) (lo hi : Option Int) : List α := (xs.drop (HT.sIx xs.length 0 lo)).take (HT.sIx xs.length xs.length hi - HT.sIx xs.length 0 lo)

/-- x[lo:hi], its bounds known -/
def sliceB (x : Val) (l h : Option Int) (M : Mem) : Res Val :=
  match x with
  | .tup vs => .ok (.tup (cut vs l h)) M
  | .ref n => match M[n]? with
    | some (.lst vs) => new (.lst (cut vs l h)) M
    | some (.rol vs) => new (.lst (cut vs l h)) M
    | _ => .stuck
  | _ => .stuck
def sliceRev (x : Val) (M : Mem) : Res Val :=
  match x with
  | .ref n => match M[n]? with
    | some (.lst vs) => new (.lst vs.reverse) M
    | _ => .stuck
  | _ => .stuck

/-! ### built-in functions, by values -/
def intsOf : List Val → Option (List Int)
  | [] => some []
  | .int i :: vs => (intsOf vs).map (i :: ·)
  | _ => none
def boolsOf : List Val → Option (List Bool)
  | [] => some []
  | .bl b :: vs => (boolsOf vs).map (b :: ·)
  | _ => none
/-- data of which every two are alike, tuples or none of them -/
def sortable (ds : List PyData) : Bool :=
  (ds.all fun d => ds.all fun e => PySem.W.alike d e) && ds.all SeqAt.shaped &&
  ((ds.all fun d => match d with | .tuple (_ :: _) => true | _ => false) || ds.all fun d => match d with | .none => false | .tuple _ => false | .list _ => false | _ => true)
def pd (v : Val) : PyData := (dat (fun _ => none) v).getD .none
/-- the order of values by their data -/
def vle (x y : Val) : Bool := PySem.W.dataLe false pd x y
section
variable {α : Type}
def mrg (le : α → α → Bool) : Nat → List α → List α → List α
  | _, [], ys => ys
  | _, xs, [] => xs
  | 0, xs, ys => xs ++ ys
  | n + 1, x :: xs, y :: ys => if le x y then x :: mrg le n xs (y :: ys) else y :: mrg le n (x :: xs) ys
theorem mrg_eq (le : α → α → Bool) : ∀ (n : Nat) (xs ys : List α), xs.length + ys.length ≤ n → mrg le n xs ys = List.merge xs ys le
  | n, [], ys, _ => by cases n <;> simp [mrg]
  | n, x :: xs, [], _ => by cases n <;> simp [mrg]
  | 0, x :: xs, y :: ys, h => by simp at h
  | n + 1, x :: xs, y :: ys, h => by
    simp only [List.length_cons] at h
    rw [mrg, List.cons_merge_cons]
    rw [mrg_eq le n xs (y :: ys) (by simp only [List.length_cons]; omega), mrg_eq le n (x :: xs) ys (by simp only [List.length_cons]; omega)]
def msrt (le : α → α → Bool) : Nat → List α → List α
  | _, [] => []
  | _, [a] => [a]
  | 0, xs => xs
  | n + 1, a :: b :: xs => mrg le (xs.length + 2) (msrt le n ((a :: b :: xs).take ((xs.length + 2 + 1) / 2))) (msrt le n ((a :: b :: xs).drop ((xs.length + 2 + 1) / 2)))
theorem msrt_eq (le : α → α → Bool) : ∀ (n : Nat) (xs : List α), xs.length ≤ n → msrt le n xs = xs.mergeSort le
  | n, [], _ => by cases n <;> simp [msrt]
  | n, [a], _ => by cases n <;> simp [msrt]
  | 0, a :: b :: xs, h => by simp at h
  | n + 1, a :: b :: xs, h => by
    simp only [List.length_cons] at h
    rw [msrt, List.mergeSort]
    rw [msrt_eq le n _ (by rw [List.length_take]; simp only [List.length_cons]; omega), msrt_eq le n _ (by rw [List.length_drop]; simp only [List.length_cons]; omega)]
    rw [mrg_eq]
    · simp [List.MergeSort.Internal.splitInTwo, List.splitAt_eq]
    · rw [List.length_mergeSort, List.length_mergeSort, List.length_take, List.length_drop]
      simp only [List.length_cons]
      omega
end
def vsort (vs : List Val) : Option (List Val) :=
  match dats (fun _ => none) vs with
  | some ds => if sortable ds && decide (vs.length ≤ sizeLine) then some (msrt vle vs.length vs) else none
  | none => none
theorem vsort_def (vs : List Val) : vsort vs = match dats (fun _ => none) vs with
  | some ds => if sortable ds && decide (vs.length ≤ sizeLine) then some (vs.mergeSort vle) else none
  | none => none := by
  unfold vsort
  rw [msrt_eq vle _ vs (Nat.le_refl _)]
/-- the first of the least -/
def vmin : List Val → Option Val
  | [] => none
  | v :: vs => some (vs.foldl (fun m x => if PySem.W.dataLt (pd x) (pd m) then x else m) v)
def vmax : List Val → Option Val
  | [] => none
  | v :: vs => some (vs.foldl (fun m x => if PySem.W.dataLt (pd m) (pd x) then x else m) v)
def alikes (vs : List Val) : Bool :=
  match dats (fun _ => none) vs with
  | some ds => sortable ds
  | none => false
/-- the items that list(x), tuple(x) take -/
def itemsOf (M : Mem) : Val → Option (List Val)
  | .tup vs => some vs
  | .ref n => match M[n]? with
    | some (.lst vs) => some vs
    | some (.rol vs) => some vs
    | some (.dct kvs) => some (kvs.map (·.1))
    | _ => none
  | _ => none
/-- a list or a tuple (no dict) -/
def lenOf (M : Mem) : Val → Option Nat
  | .tup vs => some vs.length
  | .str s => if s.length ≤ sizeLine then some s.length else none
  | .ref n => match M[n]? with
    | some (.lst vs) => some vs.length
    | some (.rol vs) => some vs.length
    | some (.dct kvs) => some kvs.length
    | _ => none
  | _ => none
def shownOk (d : PyData) : Bool := d.showable && decide (d.shown.length + 64 ≤ sizeLine) && SeqAt.shaped d
def tyName (M : Mem) (v : Val) : Option String :=
  match v with
  | .non => some "NoneType"
  | .bl _ => some "bool"
  | .int _ => some "int"
  | .str _ => some "str"
  | .tup _ => some "tuple"
  | .ref n => match M[n]? with
    | some (.lst _) => some "list"
    | some (.rol _) => some "list"
    | some (.dct _) => some "dict"
    | _ => none
  | _ => none
def isTy (a t : String) : Option Bool :=
  if t = "int" then some (a == "int" || a == "bool") else if t = "bool" then some (a == "bool") else if t = "str" then some (a == "str") else
  if t = "tuple" then some (a == "tuple") else if t = "list" then some (a == "list") else if t = "dict" then some (a == "dict") else none
def isA (M : Mem) (v : Val) (t : String) : Option Bool := (tyName M v).bind fun a => isTy a t
def pairsOf : List Val → Option (List (Val × Val))
  | [] => some []
  | .tup [k, v] :: r => (pairsOf r).map ((k, v) :: ·)
  | _ => none
def dputs : List (Val × Val) → List (Val × Val) → Option (List (Val × Val))
  | kvs, [] => some kvs
  | kvs, (k, v) :: r => if fits kvs k then dputs (dput kvs k v) r else none
inductive BF where
  | len | min | max | sum | all | any | sorted | list | tuple | int | str | repr | abs | dict | isinstance
  deriving DecidableEq
def bmin (xs : List Val) (M : Mem) : Res Val :=
  match xs with
  | [x] => match seqOf M x with
    | some vs => chk (alikes vs) (ofO (vmin vs) M)
    | none => .stuck
  | [x, y] => match x, y with
    | .int i, .int j => .ok (.int (if j < i then j else i)) M
    | _, _ => .stuck
  | _ => .stuck
def bmax (xs : List Val) (M : Mem) : Res Val :=
  match xs with
  | [x] => match seqOf M x with
    | some vs => chk (alikes vs) (ofO (vmax vs) M)
    | none => .stuck
  | [x, y] => match x, y with
    | .int i, .int j => .ok (.int (if j > i then j else i)) M
    | _, _ => .stuck
  | _ => .stuck
def bcall (f : BF) (xs : List Val) (M : Mem) : Res Val :=
  match f, xs with
  | .len, [x] => ofO ((lenOf M x).map fun n => .int n) M
  | .abs, [.int i] => .ok (.int (if i < 0 then -i else i)) M
  | .int, [.int i] => .ok (.int i) M
  | .int, [.bl b] => .ok (.int (if b then 1 else 0)) M
  | .min, xs => bmin xs M
  | .max, xs => bmax xs M
  | .sum, [x] => match lstOf M x with
    | some vs => ofO ((intsOf vs).map fun is => .int is.sum) M
    | none => .stuck
  | .all, [x] => match lstOf M x with
    | some vs => ofO ((boolsOf vs).map fun bs => .bl (bs.all id)) M
    | none => .stuck
  | .any, [x] => match lstOf M x with
    | some vs => ofO ((boolsOf vs).map fun bs => .bl (bs.any id)) M
    | none => .stuck
  | .sorted, [x] => match lstOf M x with
    | some vs => match vsort vs with | some ws => new (.lst ws) M | none => .stuck
    | none => .stuck
  | .list, [x] => match itemsOf M x with
    | some vs => new (.lst vs) M
    | none => .stuck
  | .tuple, [x] => match seqOf M x with
    | some vs => .ok (.tup vs) M
    | none => .stuck
  | .str, [.int i] => chk (decide (i.natAbs.log2 < 1920)) (.ok (.str (toString i)) M)
  | .repr, [x] => match datM M x with
    | some d => chk (shownOk d) (.ok (.str d.shown) M)
    | none => .stuck
  | .dict, [x] => match seqOf M x with
    | some vs => match (pairsOf vs).bind (dputs []) with | some kvs => new (.dct kvs) M | none => .stuck
    | none => .stuck
  | .isinstance, xs => match xs with
    | [x, y] => match y with | .ty t => ofO ((isA M x t).map .bl) M | _ => .stuck
    | _ => .stuck
  | _, _ => .stuck

/-! ### methods of built-in types -/
inductive BM where
  | append | extend | pop | insert | count | get | setdefault | index | values | items | update | clear | join | split
  deriving DecidableEq
def setO (n : Nat) (o : Obj) (v : Val) (M : Mem) : Res Val := .ok v (M.set n o)
/-- the list that a method changes; the dict -/
def ownL (M : Mem) : Val → Option (Nat × List Val)
  | .ref n => match M[n]? with
    | some (.lst vs) => some (n, vs)
    | _ => none
  | _ => none
def ownD (M : Mem) : Val → Option (Nat × List (Val × Val))
  | .ref n => match M[n]? with
    | some (.dct kvs) => some (n, kvs)
    | _ => none
  | _ => none
/-- is the receiver of the type that has the method -/
def recvOk (m : BM) (M : Mem) (x : Val) : Bool :=
  match m with
  | .append => (ownL M x).isSome
  | .extend => (ownL M x).isSome
  | .pop => (ownL M x).isSome
  | .insert => (ownL M x).isSome
  | .count => (lstOf M x).isSome
  | .index => (lstOf M x).isSome
  | .get => (ownD M x).isSome
  | .setdefault => (ownD M x).isSome
  | _ => false
def mList (m : BM) (n : Nat) (vs : List Val) (xs : List Val) (M : Mem) : Res Val :=
  match m with
  | .append => match xs with
    | [v] => chk (decide (vs.length < sizeLine)) (setO n (.lst (vs ++ [v])) .non M)
    | _ => .stuck
  | .extend => match xs with
    | [y] => match ownL M y with
      | some q => chk (decide (vs.length + q.2.length ≤ sizeLine)) (setO n (.lst (vs ++ q.2)) .non M)
      | none => match y with
        | .tup ws => chk (decide (vs.length + ws.length ≤ sizeLine)) (setO n (.lst (vs ++ ws)) .non M)
        | _ => .stuck
    | _ => .stuck
  | .pop => match xs with
    | [] => match vs[vs.length - 1]? with | some v => setO n (.lst vs.dropLast) v M | none => .stuck
    | [y] => match y with
      | .int j => match ixOf j vs.length with
        | some k => match vs[k]? with | some v => setO n (.lst (vs.eraseIdx k)) v M | none => .stuck
        | none => .stuck
      | _ => .stuck
    | _ => .stuck
  | .insert => match xs with
    | [y, v] => match y with
      | .int j => chk (decide (j = 0) && decide (vs.length < sizeLine)) (setO n (.lst (v :: vs)) .non M)
      | _ => .stuck
    | _ => .stuck
  | _ => .stuck
def mDict (m : BM) (n : Nat) (kvs : List (Val × Val)) (xs : List Val) (M : Mem) : Res Val :=
  match m with
  | .get => match xs with
    | [k, d] => chk (fits kvs k) (.ok ((dget kvs k).getD d) M)
    | _ => .stuck
  | .setdefault => match xs with
    | [k, d] => chk (fits kvs k && decide (kvs.length < sizeLine)) (match dget kvs k with
        | some v => .ok v M
        | none => setO n (.dct (dput kvs k d)) d M)
    | _ => .stuck
  | _ => .stuck
def mRead (m : BM) (vs : List Val) (xs : List Val) (M : Mem) : Res Val :=
  match m with
  | .count => match xs with
    | [y] => match intsOf vs, y with
      | some is, .int i => .ok (.int (is.count i)) M
      | _, _ => .stuck
    | _ => .stuck
  | _ => .stuck
def bmeth (m : BM) (x : Val) (xs : List Val) (M : Mem) : Res Val :=
  match m with
  | .append => match ownL M x with | some p => mList .append p.1 p.2 xs M | none => .stuck
  | .extend => match ownL M x with | some p => mList .extend p.1 p.2 xs M | none => .stuck
  | .pop => match ownL M x with | some p => mList .pop p.1 p.2 xs M | none => .stuck
  | .insert => match ownL M x with | some p => mList .insert p.1 p.2 xs M | none => .stuck
  | .count => match lstOf M x with | some vs => mRead .count vs xs M | none => .stuck
  | .get => match ownD M x with | some p => mDict .get p.1 p.2 xs M | none => .stuck
  | .setdefault => match ownD M x with | some p => mDict .setdefault p.1 p.2 xs M | none => .stuck
  | _ => .stuck
end Mn
end -- Mn1
section -- Mn2
set_option linter.all false
set_option maxRecDepth 100000
namespace Mn
open PySem

/-- what a for walks -/
inductive IK where | ex | range | rev | enum | zip
  deriving DecidableEq
/-- a target -/
inductive T where
  | nm (i : Nat) | tp (ts : List T)
inductive E where
  | var (i : Nat) | glob (x : Str) | non | bl (b : Bool) | int (i : Int) | str (s : Str) | ty (t : String)
  | tup (es : List E) | lst (es : List E) | dct (ks vs : List E)
  | bin (op : Operator) (a b : E) | neg (a : E) | not (a : E) | and (a b : E) | or (a b : E) | ite (c a b : E)
  | cmp (op : CmpOp) (a b : E) | chain (o1 o2 : CmpOp) (a b c : E)
  | idx (a i : E) | sl (a lo hi : E) | slr (a : E)
  | attr (o : E) (f : Str)
  | call (f : Str) (es : List E) (kns : List Str) (kes : List E)
  | make (C : Str) (es : List E) (kns : List Str) (kes : List E)
  | meth (C m : Str) (o : E) (es : List E) (kns : List Str) (kes : List E)
  | bcall (f : BF) (es : List E)
  | bmeth (m : BM) (o : E) (es : List E)
  | rng (es : List E)      -- list(range(..)), tuple(range(..)): the items, wrapped
  | comp (k : IK) (its : List E) (tg : T) (own : List Nat) (cond : List E) (elt : E)
  | dcomp (k : IK) (its : List E) (tg : T) (own : List Nat) (cond : List E) (ke ve : E)
inductive S where
  | asg (t : T) (e : E) | setIdx (o i e : E) | setAttr (o : E) (f : Str) (e : E) | aug (i : Nat) (e : E)
  | expr (e : E) | ret (e : E) | ite (c : E) (a b : List S) | for (k : IK) (its : List E) (t : T) (body : List S)
  | while (c : E) (body : List S) | raise (C : Str) (es : List E) | brk | cnt | pass

/-- what calls do, and the module's names -/
structure Gam where
  glob : Str → Option Val
  call : Str → List Val → List (Str × Val) → Mem → Res Val
  make : Str → List Val → List (Str × Val) → Mem → Res Val
  fld : Str → Str → Bool
  fuel : Nat

/-! ### sources of loops -/
inductive Sq where | im (vs : List Val) | mu (n : Nat)
def Sq.get (M : Mem) : Sq → Option (List Val)
  | .im vs => some vs
  | .mu n => match M[n]? with
    | some (.lst vs) => some vs
    | some (.rol vs) => some vs
    | _ => none
inductive Src where | sq (s : Sq) | enum (s : Sq) | zip (s t : Sq) | rev (s : Sq)
def sqOf (M : Mem) : Val → Option Sq
  | .tup vs => some (.im vs)
  | .ref n => match M[n]? with
    | some (.lst _) => some (.mu n)
    | some (.rol _) => some (.mu n)
    | _ => none
  | _ => none
def irange (lo : Int) : Nat → List Val
  | 0 => []
  | n + 1 => .int lo :: irange (lo + 1) n
def irangeC (lo c : Int) : Nat → List Val
  | 0 => []
  | n + 1 => .int lo :: irangeC (lo + c) c n
def smallI (i : Int) : Bool := decide (-(2 ^ 62) ≤ i ∧ i < 2 ^ 62)
def rangeOf : List Val → Option (List Val)
  | [.int j] => if smallI j then some (irange 0 j.toNat) else none
  | [.int i, .int j] => if smallI i && smallI j then some (irange i (j - i).toNat) else none
  | [.int i, .int j, .int c] => if smallI i && smallI j && decide (c = -1) then some (irangeC i c (i - j).toNat) else none
  | _ => none
def srcOf (k : IK) (vs : List Val) (M : Mem) : Option Src :=
  match k, vs with
  | .ex, [.str s] => some (.sq (.im (s.cps.toList.map fun c => .str ⟨#[c]⟩)))
  | .ex, [v] => (sqOf M v).map .sq
  | .range, vs => (rangeOf vs).map fun l => .sq (.im l)
  | .rev, [v] => (sqOf M v).map .rev
  | .enum, [v] => (sqOf M v).map .enum
  | .zip, [v, w] => match sqOf M v, sqOf M w with
    | some (.im s), some (.im t) => some (.zip (.im s) (.im t))
    | some (.mu s), some (.mu t) => some (.zip (.mu s) (.mu t))
    | _, _ => none
  | _, _ => none
def Src.len (M : Mem) : Src → Option Nat
  | .sq s => (s.get M).map (·.length)
  | .enum s => (s.get M).map (·.length)
  | .rev s => (s.get M).map (·.length)
  | .zip s t => match s.get M, t.get M with | some a, some b => if a.length = b.length then some a.length else none | _, _ => none
def Src.at (M : Mem) (len i : Nat) : Src → Option Val
  | .sq s => (s.get M).bind (·[i]?)
  | .enum s => ((s.get M).bind (·[i]?)).map fun v => .tup [.int i, v]
  | .rev s => (s.get M).bind (·[len - 1 - i]?)
  | .zip s t => match (s.get M).bind (·[i]?), (t.get M).bind (·[i]?) with | some a, some b => some (.tup [a, b]) | _, _ => none

/-! ### targets -/
mutual
def asgT (M : Mem) : T → Val → Env → Option Env
  | .nm i, v, ρ => if i < ρ.length then some (ρ.set i (some v)) else none
  | .tp ts, v, ρ => match v with
    | .tup vs => asgTs M ts vs ρ
    | _ => none
def asgTs (M : Mem) : List T → List Val → Env → Option Env
  | [], [], ρ => some ρ
  | t :: ts, v :: vs, ρ => match asgT M t v ρ with
    | some ρ' => asgTs M ts vs ρ'
    | none => none
  | _, _, _ => none
end
def wipeE (ρ : Env) : List Nat → Env
  | [] => ρ
  | v :: vs => (wipeE ρ vs).set v none

/-- the turns of a comprehension: f gives a turn's item, or none -/
def compL (f : Env → Mem → Res (Option Val)) (src : Src) (tg : T) (ρ : Env) (len : Nat) : Nat → List Val → Mem → Res (List Val)
  | 0, acc, M => if src.len M = some len then .ok acc.reverse M else .stuck
  | n + 1, acc, M => match src.at M len (len - (n + 1)) with
    | none => .stuck
    | some v => match asgT M tg v ρ with
      | none => .stuck
      | some ρ' => match f ρ' M with
        | .ok none M' => compL f src tg ρ len n acc M'
        | .ok (some w) M' => compL f src tg ρ len n (w :: acc) M'
        | _ => .stuck
def dcompL (f : Env → Mem → Res (Option (Val × Val))) (src : Src) (tg : T) (ρ : Env) (len : Nat) : Nat → List (Val × Val) → Mem → Res (List (Val × Val))
  | 0, acc, M => if src.len M = some len then .ok acc M else .stuck
  | n + 1, acc, M => match src.at M len (len - (n + 1)) with
    | none => .stuck
    | some v => match asgT M tg v ρ with
      | none => .stuck
      | some ρ' => match f ρ' M with
        | .ok none M' => dcompL f src tg ρ len n acc M'
        | .ok (some (k, w)) M' => if fits acc k then dcompL f src tg ρ len n (dput acc k w) M' else .stuck
        | _ => .stuck

def E.isNon : E → Bool
  | .non => true
  | _ => false
/-- a part of a slice: left out, or an int -/
def part (b : Bool) (r : Res Val) (M : Mem) : Res (Option Int) := if b then .ok none M else r.bind fun v M => match v with | .int i => .ok (some i) M | _ => .stuck
mutual
def evE (Γ : Gam) : E → Env → Mem → Res Val
  | .var i, ρ, M => match ρ[i]? with | some (some v) => .ok v M | _ => .stuck
  | .glob x, _, M => ofO (Γ.glob x) M
  | .non, _, M => .ok .non M
  | .bl b, _, M => .ok (.bl b) M
  | .int i, _, M => .ok (.int i) M
  | .str s, _, M => .ok (.str s) M
  | .ty t, _, M => .ok (.ty t) M
  | .tup es, ρ, M => (evEs Γ es ρ M).bind fun vs M => .ok (.tup vs) M
  | .lst es, ρ, M => (evEs Γ es ρ M).bind fun vs M => new (.lst vs) M
  | .dct ks vs, ρ, M => (evEs Γ ks ρ M).bind fun ks M => (evEs Γ vs ρ M).bind fun vs M => match dputs [] (ks.zip vs) with | some kvs => new (.dct kvs) M | none => .stuck
  | .bin op a b, ρ, M => (evE Γ a ρ M).bind fun x M => (evE Γ b ρ M).bind fun y M => binop op x y M
  | .neg a, ρ, M => (evE Γ a ρ M).bind fun x M => match x with | .int i => .ok (.int (-i)) M | _ => .stuck
  | .not a, ρ, M => (evE Γ a ρ M).bind fun x M => ofO ((truth M x).map fun b => .bl (!b)) M
  | .and a b, ρ, M => (evE Γ a ρ M).bind fun x M => match truth M x with | some true => evE Γ b ρ M | some false => .ok x M | none => .stuck
  | .or a b, ρ, M => (evE Γ a ρ M).bind fun x M => match truth M x with | some false => evE Γ b ρ M | some true => .ok x M | none => .stuck
  | .ite c a b, ρ, M => (evE Γ c ρ M).bind fun x M => match truth M x with | some true => evE Γ a ρ M | some false => evE Γ b ρ M | none => .stuck
  | .cmp op a b, ρ, M => (evE Γ a ρ M).bind fun x M => (evE Γ b ρ M).bind fun y M => ofO ((cmpop op x y M).map .bl) M
  | .chain o1 o2 a b c, ρ, M => (evE Γ a ρ M).bind fun x M => (evE Γ b ρ M).bind fun y M => match cmpop o1 x y M with
    | some true => (evE Γ c ρ M).bind fun z M => ofO ((cmpop o2 y z M).map .bl) M
    | some false => .ok (.bl false) M
    | none => .stuck
  | .idx a i, ρ, M => (evE Γ a ρ M).bind fun x M => (evE Γ i ρ M).bind fun y M => subs x y M
  | .sl a lo hi, ρ, M => (evE Γ a ρ M).bind fun x M => (part lo.isNon (evE Γ lo ρ M) M).bind fun l M => (part hi.isNon (evE Γ hi ρ M) M).bind fun h M => sliceB x l h M
  | .slr a, ρ, M => (evE Γ a ρ M).bind fun x M => sliceRev x M
  | .attr o f, ρ, M => (evE Γ o ρ M).bind fun x M => match x with
    | .ref n => match M[n]? with
      | some (.ins C fs) => if Γ.fld C f then ofO (fs.lookup f) M else .stuck
      | _ => .stuck
    | _ => .stuck
  | .call f es kns kes, ρ, M => (evEs Γ es ρ M).bind fun vs M => (evEs Γ kes ρ M).bind fun ws M => Γ.call f vs (kns.zip ws) M
  | .make C es kns kes, ρ, M => (evEs Γ es ρ M).bind fun vs M => (evEs Γ kes ρ M).bind fun ws M => Γ.make C vs (kns.zip ws) M
  | .meth C m o es kns kes, ρ, M => (evE Γ o ρ M).bind fun x M => match x with
    | .ref n => match M[n]? with
      | some (.ins D fs) => if D = C ∧ fs.lookup m = none then (evEs Γ es ρ M).bind fun vs M => (evEs Γ kes ρ M).bind fun ws M => Γ.call (C ++ Str.ofString "." ++ m) (.ref n :: vs) (kns.zip ws) M else .stuck
      | _ => .stuck
    | _ => .stuck
  | .bcall f es, ρ, M => (evEs Γ es ρ M).bind fun vs M => bcall f vs M
  | .bmeth m o es, ρ, M => (evE Γ o ρ M).bind fun x M => if recvOk m M x then (evEs Γ es ρ M).bind fun vs M => bmeth m x vs M else .stuck
  | .rng es, ρ, M => (evEs Γ es ρ M).bind fun vs M => match rangeOf vs with | some l => chk (decide (vs.length ≤ 2 ∧ l.length ≤ sizeLine)) (.ok (.tup l) M) | none => .stuck
  | .comp k its tg own cond elt, ρ, M => (evEs Γ its ρ M).bind fun vs M => match srcOf k vs M with
    | none => .stuck
    | some src => match src.len M with
      | none => .stuck
      | some len => if len ≤ sizeLine then
          (compL (fun ρ M => (evC Γ cond ρ M).bind fun b M => if b then (evE Γ elt ρ M).bind fun v M => .ok (some v) M else .ok none M) src tg (wipeE ρ own) len len [] M).bind fun l M => new (.lst l) M
        else .stuck
  | .dcomp k its tg own cond ke ve, ρ, M => (evEs Γ its ρ M).bind fun vs M => match srcOf k vs M with
    | none => .stuck
    | some src => match src.len M with
      | none => .stuck
      | some len => if len ≤ sizeLine then
          (dcompL (fun ρ M => (evC Γ cond ρ M).bind fun b M => if b then (evE Γ ke ρ M).bind fun k M => (evE Γ ve ρ M).bind fun v M => .ok (some (k, v)) M else .ok none M) src tg (wipeE ρ own) len len [] M).bind fun l M => new (.dct l) M
        else .stuck
def evEs (Γ : Gam) : List E → Env → Mem → Res (List Val)
  | [], _, M => .ok [] M
  | e :: es, ρ, M => (evE Γ e ρ M).bind fun v M => (evEs Γ es ρ M).bind fun vs M => .ok (v :: vs) M
/-- the tests of a comprehension -/
def evC (Γ : Gam) : List E → Env → Mem → Res Bool
  | [], _, M => .ok true M
  | e :: es, ρ, M => (evE Γ e ρ M).bind fun v M => match truth M v with | some true => evC Γ es ρ M | some false => .ok false M | none => .stuck
end

/-! ### statements -/
inductive Fl where | nx | rt (v : Val) | bk | ct
/-- a statement's end: what comes, the names, the store -/
inductive SR where | ok (f : Fl) (ρ : Env) (M : Mem) | exc (C : Str) (fs : List (Str × Val)) (M : Mem) | stuck
def Res.st {α : Type} (r : Res α) (f : α → Mem → SR) : SR :=
  match r with
  | .ok a M => f a M
  | .exc C fs M => .exc C fs M
  | .stuck => .stuck
def forL (f : Env → Mem → SR) (src : Src) (tg : T) (len : Nat) : Nat → Env → Mem → SR
  | 0, ρ, M => if src.len M = some len then .ok .nx ρ M else .stuck
  | n + 1, ρ, M => match src.at M len (len - (n + 1)) with
    | none => .stuck
    | some v => match asgT M tg v ρ with
      | none => .stuck
      | some ρ' => match f ρ' M with
        | .ok .nx ρ2 M2 => forL f src tg len n ρ2 M2
        | .ok .ct ρ2 M2 => forL f src tg len n ρ2 M2
        | .ok .bk ρ2 M2 => .ok .nx ρ2 M2
        | r => r
def whileL (c : Env → Mem → Res Bool) (f : Env → Mem → SR) : Nat → Env → Mem → SR
  | 0, _, _ => .stuck
  | n + 1, ρ, M => (c ρ M).st fun b M => if b then
      (match f ρ M with
        | .ok .nx ρ2 M2 => whileL c f n ρ2 M2
        | .ok .ct ρ2 M2 => whileL c f n ρ2 M2
        | .ok .bk ρ2 M2 => .ok .nx ρ2 M2
        | r => r) else .ok .nx ρ M
def evT (Γ : Gam) (e : E) (ρ : Env) (M : Mem) : Res Bool := (evE Γ e ρ M).bind fun x M => ofO (truth M x) M
def SR.seq (r : SR) (f : Env → Mem → SR) : SR :=
  match r with
  | .ok .nx ρ M => f ρ M
  | r => r
/-- o[i] = v -/
def storeI (o i v : Val) (M : Mem) : Option Mem :=
  match o with
  | .ref n => match M[n]? with
    | some (.lst vs) => match i with | .int j => (match ixOf j vs.length with | some k => some (M.set n (.lst (vs.set k v))) | none => none) | _ => none
    | some (.dct kvs) => if fits kvs i && decide (kvs.length < sizeLine) then some (M.set n (.dct (dput kvs i v))) else none
    | _ => none
  | _ => none
def putFd (f : Str) (v : Val) : List (Str × Val) → List (Str × Val)
  | [] => [(f, v)]
  | (g, w) :: r => if g = f then (g, v) :: r else (g, w) :: putFd f v r
def storeA (fld : Str → Str → Bool) (o : Val) (f : Str) (v : Val) (M : Mem) : Option Mem :=
  match o with
  | .ref n => match M[n]? with
    | some (.ins C fs) => if fld C f && decide (fs.length < 1000) then some (M.set n (.ins C (putFd f v fs))) else none
    | _ => none
  | _ => none
mutual
def evS (Γ : Gam) : S → Env → Mem → SR
  | .asg t e, ρ, M => (evE Γ e ρ M).st fun v M => match asgT M t v ρ with | some ρ' => .ok .nx ρ' M | none => .stuck
  | .setIdx o i e, ρ, M => (evE Γ e ρ M).st fun v M => (evE Γ o ρ M).st fun x M => (evE Γ i ρ M).st fun y M => match storeI x y v M with | some M' => .ok .nx ρ M' | none => .stuck
  | .setAttr o f e, ρ, M => (evE Γ e ρ M).st fun v M => (evE Γ o ρ M).st fun x M => match storeA Γ.fld x f v M with | some M' => .ok .nx ρ M' | none => .stuck
  | .aug i e, ρ, M => match ρ[i]? with
    | some (some (.int a)) => (evE Γ e ρ M).st fun v M => match v with | .int b => .ok .nx (ρ.set i (some (.int (a + b)))) M | _ => .stuck
    | _ => .stuck
  | .expr e, ρ, M => (evE Γ e ρ M).st fun _ M => .ok .nx ρ M
  | .ret e, ρ, M => (evE Γ e ρ M).st fun v M => .ok (.rt v) ρ M
  | .ite c a b, ρ, M => (evT Γ c ρ M).st fun k M => if k then evSs Γ a ρ M else evSs Γ b ρ M
  | .for k its t body, ρ, M => (evEs Γ its ρ M).st fun vs M => match srcOf k vs M with
    | none => .stuck
    | some src => match src.len M with
      | none => .stuck
      | some len => forL (fun ρ M => evSs Γ body ρ M) src t len len ρ M
  | .while c body, ρ, M => whileL (fun ρ M => evT Γ c ρ M) (fun ρ M => evSs Γ body ρ M) Γ.fuel ρ M
  | .raise C es, ρ, M => .stuck
  | .brk, ρ, M => .ok .bk ρ M
  | .cnt, ρ, M => .ok .ct ρ M
  | .pass, ρ, M => .ok .nx ρ M
def evSs (Γ : Gam) : List S → Env → Mem → SR
  | [], ρ, M => .ok .nx ρ M
  | s :: ss, ρ, M => (evS Γ s ρ M).seq fun ρ M => evSs Γ ss ρ M
end

/-! ### defs -/
structure FD where
  ps : List Str
  dfl : List (Str × Val)
  n : Nat
  body : List S
structure Prg where
  fns : List (Str × FD)
  glb : List (Str × Val)
  cls : List (Str × List Str)
  fuel : Nat
def bindA (fd : FD) : List Str → List Val → List (Str × Val) → Option (List Val)
  | [], [], _ => some []
  | [], _ :: _, _ => none
  | p :: ps, v :: vs, kw => (bindA fd ps vs kw).map (v :: ·)
  | p :: ps, [], kw => match kw.lookup p with
    | some v => (bindA fd ps [] kw).map (v :: ·)
    | none => match fd.dfl.lookup p with
      | some v => (bindA fd ps [] kw).map (v :: ·)
      | none => none
def startE (n : Nat) (vs : List Val) : Env := vs.map some ++ List.replicate (n - vs.length) none
def retOf : SR → Res Val
  | .ok .nx _ M => .ok .non M
  | .ok (.rt v) _ M => .ok v M
  | .ok _ _ _ => .stuck
  | .exc C fs M => .exc C fs M
  | .stuck => .stuck
def fldIn (P : Prg) (C f : Str) : Bool := match P.cls.lookup C with | some fs => fs.contains f | none => false
abbrev CF := Str → List Val → List (Str × Val) → Mem → Res Val
/-- what a body calls: c1 is what defs do, c2 what __init__ does -/
def bodyG (P : Prg) (c1 c2 : CF) : Gam := ⟨fun x => P.glb.lookup x, c1, fun C vs kw M => if (P.cls.lookup C).isSome then (c2 (C ++ Str.ofString ".__init__") (.ref M.length :: vs) kw (M ++ [.ins C []])).bind fun v M' => match v with | .non => .ok (.ref M.length) M' | _ => .stuck else .stuck,
  fldIn P, P.fuel⟩
def runB (Γ : Gam) (fd : FD) (us : List Val) (M : Mem) : Res Val := retOf (evSs Γ fd.body (startE fd.n us) M)
def stepC (P : Prg) (Γ : Gam) : CF := fun f vs kw M => match P.fns.lookup f with
  | none => .stuck
  | some fd => match bindA fd fd.ps vs kw with
    | none => .stuck
    | some us => runB Γ fd us M
def callP (P : Prg) : Nat → CF × CF
  | 0 => (fun _ _ _ _ => .stuck, fun _ _ _ _ => .stuck)
  | k + 1 => let p := callP P k; (stepC P (bodyG P p.1 p.2), p.1)
def callAt (P : Prg) (k : Nat) : CF := (callP P k).1
/-- what a body calls that runs at level k -/
def gam (P : Prg) (k : Nat) : Gam := bodyG P (callP P k).1 (callP P k).2
theorem callAt_succ (P : Prg) (k : Nat) : callAt P (k + 1) = stepC P (gam P k) := rfl
end Mn
end -- Mn2
section -- Mn3
set_option linter.all false
set_option maxRecDepth 100000
namespace Mn
open PySem L2

inductive GK where | fn | cls | val
  deriving DecidableEq
/-- the module's names: what each is; which class has a method; how a def is called (positional values, keywords); the built-in names -/
structure GT where
  glb : List (Str × GK)
  mth : List (Str × Str)
  fsg : List (Str × Nat × List Str)
  csg : List (Str × Nat × List Str)
  msg : List (Str × Str × Nat × List Str)
  blt : List Str
structure CC where
  sc : Scope
  N : List Str
  fn : Str → Bool

def optAll {α : Type} : List (Option α) → Option (List α)
  | [] => some []
  | some a :: r => (optAll r).map (a :: ·)
  | none :: _ => none
def visB (sc : Scope) (x : Str) : Bool := match sc.names.lookup x with
  | some .local => true | some .cell => true | some .free => true | _ => false
def locB (c : CC) (x : Str) : Bool := match c.sc.names.lookup x with
  | some .local => true | some .cell => c.fn x | _ => false
def locL (c : CC) (x : Str) : Bool := match c.sc.names.lookup x with
  | some .local => true | _ => false
def glB (sc : Scope) (x : Str) : Bool := match sc.names.lookup x with
  | some .globalImplicit => true | _ => false
def okN (x : Str) : Bool := !(x == ("__debug__" : Str)) && !(x == ("__classdict__" : Str))
def slotOf (c : CC) (x : Str) : Option Nat := if okN x then c.N.findIdx? (· == x) else none
def bfTab : List (Str × BF) := [("len", .len), ("min", .min), ("max", .max), ("sum", .sum), ("all", .all), ("any", .any), ("sorted", .sorted), ("list", .list), ("tuple", .tuple), ("int", .int), ("str", .str), ("repr", .repr), ("abs", .abs), ("isinstance", .isinstance)]
def bfOf (x : Str) : Option BF := bfTab.lookup x
def tyOf (x : Str) : Option String :=
  if x = "int" then some "int" else if x = "bool" then some "bool" else if x = "str" then some "str" else if x = "tuple" then some "tuple" else
  if x = "list" then some "list" else if x = "dict" then some "dict" else none
def bmTab : List (Str × BM) := [("append", .append), ("pop", .pop), ("insert", .insert), ("count", .count), ("get", .get), ("setdefault", .setdefault), ("extend", .extend)]
def bmOf (x : Str) : Option BM := bmTab.lookup x
def kwOf : List Keyword → Option (List Str × List Expr)
  | [] => some ([], [])
  | ⟨some x, e, _⟩ :: r => (kwOf r).map fun p => (x :: p.1, e :: p.2)
  | ⟨none, _, _⟩ :: _ => none
def T.slots : Nat → T → List Nat
  | _, .nm i => [i]
  | 0, .tp _ => []
  | n + 1, .tp ts => (ts.map (T.slots n)).flatten
def tgC (c : CC) : Nat → Expr → Option T
  | _, .Name x _ => if locB c x then (slotOf c x).map .nm else none
  | n + 1, .Tuple ts _ _ => (optAll (ts.map (tgC c n))).map .tp
  | _, _ => none
def ownOf (N : List Str) (scope : Scope) : List (Str × Nat) :=
  scope.names.filterMap fun y => match y.2 with
    | .local => (N.findIdx? (· == y.1)).map fun i => (y.1, i)
    | .cell => (N.findIdx? (· == y.1)).map fun i => (y.1, i)
    | _ => none
def blkCC (c : CC) (scope : Scope) : CC := ⟨relS scope c.sc, c.N, fun x => scope.names.lookup x == some .cell⟩
def boolE : BoolOp → E → E → E
  | .And, a, b => .and a b
  | .Or, a, b => .or a b
def boolC (op : BoolOp) : List E → Option E
  | [] => none
  | [a] => some a
  | a :: r => (boolC op r).map (boolE op a)
/-- a global call's name that isn't the module's own -/
def bltB (G : GT) (c : CC) (x : Str) : Bool := glB c.sc x && G.blt.contains x && okN x && !(x == ("__name__" : Str))
def isComp : Expr → Bool
  | .ListComp .. => true | .DictComp .. => true | .SetComp .. => true | _ => false
/-- a call without arguments of a name -/
def isBare : Expr → Bool
  | .Call (.Name _ _) [] [] _ => true
  | _ => false
def isStar : Expr → Bool
  | .Starred .. => true
  | _ => false
def isSlice : Expr → Bool
  | .Slice .. => true
  | _ => false

section
variable (G : GT) (rec : CC → Expr → Option E) (c : CC)
def recs (es : List Expr) : Option (List E) := if es.length ≤ 1000 && !es.any isStar then optAll (es.map (rec c)) else none
def cName (x : Str) : Option E :=
  if visB c.sc x then (slotOf c x).map .var
  else if glB c.sc x && okN x then
    (if (G.glb.lookup x).isSome then some (.glob x)
    else if bltB G c x then (tyOf x).map .ty else none)
  else none
def cConst : Const → Option E
  | .none => some .non
  | .bool b => some (.bl b)
  | .int i => some (.int i)
  | .str s => some (.str s)
  | _ => none
def cCmp (a : Expr) : List CmpOp → List Expr → Option E
  | [op], [b] => if behindInMarks op b then none else (rec c a).bind fun x => (rec c b).map fun y => .cmp op x y
  | [op, op'], [b, d] => if behindInMarks op' d then none else (rec c a).bind fun x => (rec c b).bind fun y => (rec c d).map fun z => .chain op op' x y z
  | _, _ => none
/-- a part of a slice -/
def cPart : Option Expr → Option E
  | none => some .non
  | some e => (rec c e).bind fun x => if x.isNon then none else some x
def cSub (a : Expr) : Expr → Option E
  | .Slice lo hi none _ => (rec c a).bind fun x => (cPart rec c lo).bind fun l => (cPart rec c hi).map fun h => .sl x l h
  | .Slice none none (some (.UnaryOp .USub (.Constant (.int 1) _ _) _)) _ => (rec c a).map .slr
  | .Slice _ _ _ _ => none
  | i => (rec c a).bind fun x => (rec c i).map fun y => .idx x y
/-- how a def is called -/
def cSig (f : Str) (n : Nat) (ks : List Str) : Bool := G.fsg.contains (f, n, ks)
def cSigC (f : Str) (n : Nat) (ks : List Str) : Bool := G.csg.contains (f, n, ks)
def cSigM (C m : Str) (n : Nat) (ks : List Str) : Bool := G.msg.contains (C, m, n, ks)
def cKw (kws : List Keyword) : Option (List Str × List E) := (kwOf kws).bind fun p => (recs rec c p.2).map fun es => (p.1, es)
def cCall (f : Str) (args : List Expr) (kws : List Keyword) : Option E :=
  match G.glb.lookup f with
  | some .fn => (recs rec c args).bind fun as => (cKw rec c kws).bind fun p => if glB c.sc f && okN f && cSig G f args.length p.1 then some (.call f as p.1 p.2) else none
  | some .cls => (recs rec c args).bind fun as => (cKw rec c kws).bind fun p => if glB c.sc f && okN f && cSigC G f args.length p.1 then some (.make f as p.1 p.2) else none
  | _ => none
/-- list(range(..)), tuple(range(..)) -/
def cRng (f : Str) : List Expr → Option E
  | [.Call (.Name g _) gs [] _] => if (f = "list" || f = "tuple") && g = "range" && bltB G c g && (gs.length == 1 || gs.length == 2) then (recs rec c gs).bind fun gs' => (bfOf f).map fun b => .bcall b [.rng gs'] else none
  | _ => none
def cBlt (f : Str) (args : List Expr) : Option E :=
  if bltB G c f then
    (match cRng G rec c f args with
    | some x => some x
    | none => if args.length == 0 then none else (recs rec c args).bind fun as => (bfOf f).map fun b => .bcall b as)
  else none
def cMeth (o : Expr) (m : Str) (apos pos : Pos) (args : List Expr) (kws : List Keyword) : Option E :=
  if apos.endLine == pos.line && !isBare o && decide (args.length + kws.length < 28) then
    (match G.mth.lookup m with
    | some C => (rec c o).bind fun x => (recs rec c args).bind fun as => (cKw rec c kws).bind fun p => if cSigM G C m args.length p.1 then some (.meth C m x as p.1 p.2) else none
    | none => match kws with
      | [] => (rec c o).bind fun x => (recs rec c args).bind fun as => (bmOf m).map fun b => .bmeth b x as
      | _ => none)
  else none
/-- what a for walks -/
def cIt (tg iter : Expr) : Option (IK × List E) :=
  match iter with
  | .Call (.Name f p) args kws pos =>
    if bltB G c f then
      (if f = "range" then (match kws with | [] => if args.length == 1 || args.length == 2 || args.length == 3 then (recs rec c args).map fun as => (.range, as) else none | _ => none)
      else if f = "enumerate" then (match kws, args, tg with | [], [a], .Tuple _ _ _ => (recs rec c [a]).map fun x => (.enum, x) | _, _, _ => none)
      else if f = "reversed" then (match kws, args with
        | [], [.Call (.Name g _) gs [] _] => if g = "range" && bltB G c g && (gs.length == 1 || gs.length == 2) then (recs rec c gs).map fun gs' => (.rev, [.rng gs']) else (recs rec c args).map fun x => (.rev, x)
        | [], [a] => (recs rec c [a]).map fun x => (.rev, x)
        | _, _ => none)
      else if f = "zip" then (match kws, args, tg with
        | [], [a, b], .Tuple _ _ _ => (recs rec c [a, b]).map fun x => (.zip, x)
        | _, _, _ => none)
      else (recs rec c [.Call (.Name f p) args kws pos]).map fun x => (.ex, x))
    else (recs rec c [.Call (.Name f p) args kws pos]).map fun x => (.ex, x)
  | .Set .. => none
  | e => (recs rec c [e]).map fun x => (.ex, x)
def cComp (elt : Expr) (scope : Scope) : List Comprehension → Option E
  | [⟨tg, iter, ifs, 0⟩] =>
    if blkC c.N c.sc scope (ownOf c.N scope) && decide (ifs.length ≤ 1) then
      (cIt G rec c tg iter).bind fun p => (tgC (blkCC c scope) 8 tg).bind fun t => (recs rec (blkCC c scope) ifs).bind fun cs => (rec (blkCC c scope) elt).bind fun e =>
        if (t.slots 8).all fun i => ((ownOf c.N scope).map (·.2)).contains i then some (.comp p.1 p.2 t ((ownOf c.N scope).map (·.2)) cs e) else none
    else none
  | _ => none
def cDComp (ke ve : Expr) (scope : Scope) : List Comprehension → Option E
  | [⟨tg, iter, ifs, 0⟩] =>
    if blkC c.N c.sc scope (ownOf c.N scope) && decide (ifs.length ≤ 1) then
      (cIt G rec c tg iter).bind fun p => (tgC (blkCC c scope) 8 tg).bind fun t => (recs rec (blkCC c scope) ifs).bind fun cs => (rec (blkCC c scope) ke).bind fun e => (rec (blkCC c scope) ve).bind fun e' =>
        if (t.slots 8).all fun i => ((ownOf c.N scope).map (·.2)).contains i then some (.dcomp p.1 p.2 t ((ownOf c.N scope).map (·.2)) cs e e') else none
    else none
  | _ => none
def cE : Expr → Option E
  | .Name x _ => cName G c x
  | .Constant k _ _ => cConst k
  | .Tuple es _ _ => (recs rec c es).map .tup
  | .List es _ => (recs rec c es).map .lst
  | .Dict [] [] _ => some (.dct [] [])
  | .BinOp a op b _ => (rec c a).bind fun x => (rec c b).map fun y => .bin op x y
  | .UnaryOp .USub a _ => (rec c a).map .neg
  | .UnaryOp .Not a _ => (rec c a).map .not
  | .BoolOp op es _ => (recs rec c es).bind (boolC op)
  | .IfExp t a b _ => (rec c t).bind fun x => (rec c a).bind fun y => (rec c b).map fun z => .ite x y z
  | .Compare a ops bs _ => cCmp rec c a ops bs
  | .Attribute o f _ => if isBare o then none else (rec c o).map fun x => .attr x f
  | .Subscript a i _ => cSub rec c a i
  | .ListComp elt gens scope _ => cComp G rec c elt scope gens
  | .Call (.Name f _) args kws _ => match cCall G rec c f args kws with
    | some x => some x
    | none => match kws with | [] => cBlt G rec c f args | _ => none
  | .Call (.Attribute o m apos) args kws pos => cMeth G rec c o m apos pos args kws
  | _ => none
end
def convE (G : GT) : Nat → CC → Expr → Option E
  | 0 => fun _ _ => none
  | n + 1 => fun c e => cE G (convE G n) c e

def dropDoc : List Stmt → List Stmt
  | .Expr (.Constant (.str _) _ _) _ :: r => r
  | l => l
section
variable (G : GT) (recE : CC → Expr → Option E) (rec : CC → Stmt → Option S) (c : CC)
def recSs (l : List Stmt) : Option (List S) := optAll (l.map (rec c))
def nameOf : Expr → Option Str
  | .Name x _ => some x
  | _ => none
/-- may a comprehension be stored straight into the name -/
def swYes (x : Str) (px p : Pos) (scope : Scope) : Bool := locL c x && (px.line == p.line) && !(scope.names.any fun (n, k) => n == x && (k == .local || k == .cell))
def swOk (x : Str) (px : Pos) : Expr → Bool
  | .ListComp _ _ _ _ => true
  | .DictComp .. => false
  | .SetComp .. => false
  | _ => true
/-- a, b = x, y and a, b, c = x, y, z: plain local names on one line -/
def isPar : Expr → Bool
  | .Tuple .. => true
  | _ => false
def lineOf (ts : List Expr) : Nat := (ts.head?.map (·.pos.line)).getD 0
def plainTs (ts : List Expr) : Bool := ts.all fun t => match t with | .Name x p => locL c x && p.line == lineOf ts | _ => false
def parOk (ts vs : List Expr) : Bool :=
  (ts.length == 2 || ts.length == 3) && vs.length == ts.length && plainTs c ts && decide ((ts.filterMap nameOf).Nodup) && !vs.all (foldedForSure 8) && !vs.all (constantsAlone 8)
/-- surely stored as they come -/
def parNo (ts vs : List Expr) : Bool :=
  !(ts.length == 2 || ts.length == 3) || vs.length != ts.length || vs.all (foldedForSure 8) || ts.any fun t => match t with | .Name x p => !(locL c x && p.line == lineOf ts) | _ => true
def cAsg (tg e : Expr) : Option S :=
  match tg with
  | .Name x px => if swOk x px e then (tgC c 8 tg).bind fun t => (recE c e).map fun e' => .asg t e' else none
  | .Tuple ts _ _ => match e with
    | .Tuple vs _ _ => if parOk c ts vs || parNo c ts vs then (tgC c 8 tg).bind fun t => (recE c e).map fun e' => .asg t e' else none
    | e => if isComp e then none else (tgC c 8 tg).bind fun t => (recE c e).map fun e' => .asg t e'
  | .Subscript o i _ => if isSlice i || isComp e then none else (recE c o).bind fun x => (recE c i).bind fun y => (recE c e).map fun z => .setIdx x y z
  | .Attribute o f _ => if isComp e then none else (recE c o).bind fun x => (recE c e).map fun z => .setAttr x f z
  | _ => none
def cS : Stmt → Option S
  | .Assign [tg] e _ => cAsg recE c tg e
  | .AugAssign (.Name x px) .Add e _ => (tgC c 8 (.Name x px)).bind fun t => match t with | .nm i => (recE c e).map (.aug i) | _ => none
  | .Expr e _ => if isComp e then none else (recE c e).map .expr
  | .Return (some e) _ => (recE c e).map .ret
  | .Return none _ => some (.ret .non)
  | .If t a b _ => (recE c t).bind fun x => (recSs rec c a).bind fun y => (recSs rec c b).map fun z => .ite x y z
  | .For tg iter body [] _ => (tgC c 8 tg).bind fun t => (cIt G recE c tg iter).bind fun p => (recSs rec c body).map fun b => .for p.1 p.2 t b
  | .While t body [] _ => (recE c t).bind fun x => (recSs rec c body).map fun b => .while x b
  | .Break _ => some .brk
  | .Continue _ => some .cnt
  | .Pass _ => some .pass
  | _ => none
end
def convS (G : GT) : Nat → CC → Stmt → Option S
  | 0 => fun _ _ => none
  | n + 1 => fun c s => cS G (convE G 24) (convS G n) c s
def convB (G : GT) (c : CC) (body : List Stmt) : Option (List S) := recSs (convS G 16) c (dropDoc body)
/-- a def of the text: parameters first, then its other names -/
def namesOf (ps : List Str) (sc : Scope) : List Str :=
  ps ++ (sc.names.filterMap fun y => match y.2 with
    | .local => if ps.contains y.1 then none else some y.1
    | .cell => if ps.contains y.1 then none else some y.1
    | _ => none)
end Mn
end -- Mn3
section -- Sd1
set_option linter.all false
set_option autoImplicit false
set_option maxRecDepth 100000
namespace Mn
open PySem L2

/-- the program, the world, the written part, the module's names -/
structure Wo where
  prog : Program
  w : World
  K : PySem.W.Frag
  mg : Str → Option Value

section
variable (W : Wo)
def TK (H H' : Hp) : Prop := ∀ a xs, SqT W.K H a xs → SqT W.K H' a xs
mutual
inductive RV (φ : List Addr) (H : Hp) : Val → V → Prop
  | non : RV φ H .non .non
  | bl (b : Bool) : RV φ H (.bl b) (.bl b)
  | int (i : Int) : RV φ H (.int i) (.int i)
  | str (s : Str) : RV φ H (.str s) (.str s)
  | ty (t : String) : RV φ H (.ty t) (.ty t)
  | ref {n : Nat} {a : Addr} : φ[n]? = some a → RV φ H (.ref n) (.ref a)
  | glo {x : Str} {a : Addr} : W.mg x = some (.ref a) → RV φ H (.glo x) (.ref a)
  | tup {vs : List Val} {xs : List V} {a : Addr} : SqT W.K H a xs → RVs φ H vs xs → RV φ H (.tup vs) (.ref a)
inductive RVs (φ : List Addr) (H : Hp) : List Val → List V → Prop
  | nil : RVs φ H [] []
  | cons {v : Val} {u : V} {vs : List Val} {us : List V} : RV φ H v u → RVs φ H vs us → RVs φ H (v :: vs) (u :: us)
end
/-- the store grows, tuples stay -/
structure Ex0 (φ : List Addr) (H : Hp) (φ' : List Addr) (H' : Hp) : Prop where
  pre : ∀ (n : Nat) (a : Addr), φ[n]? = some a → φ'[n]? = some a
  tk : TK W H H'
structure Ext (φ : List Addr) (H : Hp) (φ' : List Addr) (H' : Hp) : Prop where
  pre : ∀ (n : Nat) (a : Addr), φ[n]? = some a → φ'[n]? = some a
  tk : TK W H H'
  /-- what is tracked, and no object of the store (0 is the script), stays -/
  frm : ∀ (a : Addr) (u : HO), H a = some u → (∀ n, 0 < n → φ[n]? ≠ some a) → H' a = some u ∧ ∀ n, 0 < n → φ'[n]? ≠ some a
end
section
variable {W : Wo} {φ φ' φ2 : List Addr} {H H' H2 : Hp}
theorem TK.refl : TK W H H := fun _ _ h => h
theorem TK.trans (a : TK W H H') (b : TK W H' H2) : TK W H H2 := fun x xs h => b x xs (a x xs h)
theorem Ext.refl : Ext W φ H φ H := ⟨fun _ _ h => h, .refl, fun _ _ e h => ⟨e, h⟩⟩
theorem Ext.trans (a : Ext W φ H φ' H') (b : Ext W φ' H' φ2 H2) : Ext W φ H φ2 H2 := ⟨fun n x h => b.pre n x (a.pre n x h), a.tk.trans b.tk, fun x u e h => let ⟨e1, h1⟩ := a.frm x u e h; b.frm x u e1 h1⟩
theorem Ext.e0 (e : Ext W φ H φ' H') : Ex0 W φ H φ' H' := ⟨e.pre, e.tk⟩
mutual
theorem RV.mono0 (e : Ex0 W φ H φ' H') : ∀ {v : Val} {u : V}, RV W φ H v u → RV W φ' H' v u
  | _, _, .non => .non
  | _, _, .bl b => .bl b
  | _, _, .int i => .int i
  | _, _, .str s => .str s
  | _, _, .ty t => .ty t
  | _, _, .ref h => .ref (e.pre _ _ h)
  | _, _, .glo h => .glo h
  | _, _, .tup h hs => .tup (e.tk _ _ h) (RVs.mono0 e hs)
theorem RVs.mono0 (e : Ex0 W φ H φ' H') : ∀ {vs : List Val} {us : List V}, RVs W φ H vs us → RVs W φ' H' vs us
  | _, _, .nil => .nil
  | _, _, .cons h hs => .cons (RV.mono0 e h) (RVs.mono0 e hs)
end
theorem RV.mono (e : Ext W φ H φ' H') {v : Val} {u : V} (h : RV W φ H v u) : RV W φ' H' v u := h.mono0 e.e0
theorem RVs.mono (e : Ext W φ H φ' H') {vs : List Val} {us : List V} (h : RVs W φ H vs us) : RVs W φ' H' vs us := h.mono0 e.e0
theorem RVs.length : ∀ {vs : List Val} {us : List V}, RVs W φ H vs us → vs.length = us.length
  | _, _, .nil => rfl
  | _, _, .cons _ hs => by simp [RVs.length hs]
theorem RVs.get : ∀ {vs : List Val} {us : List V} {i : Nat} {v : Val}, RVs W φ H vs us → vs[i]? = some v → ∃ u, us[i]? = some u ∧ RV W φ H v u
  | _, _, i, _, .nil, e => by simp at e
  | _, _, 0, _, .cons h _, e => by simp at e; subst e; exact ⟨_, rfl, h⟩
  | _, _, i + 1, v, .cons _ hs, e => by
    obtain ⟨u, h1, h2⟩ := RVs.get (i := i) (v := v) hs (by simpa using e)
    exact ⟨u, by simpa using h1, h2⟩
theorem RVs.append : ∀ {vs ws : List Val} {us xs : List V}, RVs W φ H vs us → RVs W φ H ws xs → RVs W φ H (vs ++ ws) (us ++ xs)
  | _, _, _, _, .nil, s => s
  | _, _, _, _, .cons h hs, s => .cons h (RVs.append hs s)
theorem RVs.drop : ∀ (n : Nat) {vs : List Val} {us : List V}, RVs W φ H vs us → RVs W φ H (vs.drop n) (us.drop n)
  | 0, _, _, h => h
  | _ + 1, _, _, .nil => .nil
  | n + 1, _, _, .cons _ hs => RVs.drop n hs
theorem RVs.take : ∀ (n : Nat) {vs : List Val} {us : List V}, RVs W φ H vs us → RVs W φ H (vs.take n) (us.take n)
  | 0, _, _, _ => .nil
  | _ + 1, _, _, .nil => .nil
  | n + 1, _, _, .cons h hs => .cons h (RVs.take n hs)
theorem RVs.reverse {vs : List Val} {us : List V} (h : RVs W φ H vs us) : RVs W φ H vs.reverse us.reverse := by
  induction vs generalizing us with
  | nil => cases h; exact .nil
  | cons v vs ih =>
    cases h with
    | cons h hs =>
      rw [List.reverse_cons, List.reverse_cons]
      exact (ih hs).append (.cons h .nil)
theorem RVs.set : ∀ (i : Nat) {vs : List Val} {us : List V} {v : Val} {u : V}, RV W φ H v u → RVs W φ H vs us → RVs W φ H (vs.set i v) (us.set i u)
  | _, _, _, _, _, _, .nil => .nil
  | 0, _, _, _, _, r, .cons _ hs => .cons r hs
  | i + 1, _, _, _, _, r, .cons h hs => .cons h (RVs.set i r hs)
theorem RVs.eraseIdx : ∀ (i : Nat) {vs : List Val} {us : List V}, RVs W φ H vs us → RVs W φ H (vs.eraseIdx i) (us.eraseIdx i)
  | _, _, _, .nil => .nil
  | 0, _, _, .cons _ hs => hs
  | i + 1, _, _, .cons h hs => .cons h (RVs.eraseIdx i hs)
theorem RVs.dropLast {vs : List Val} {us : List V} (h : RVs W φ H vs us) : RVs W φ H vs.dropLast us.dropLast := by
  rw [List.dropLast_eq_take, List.dropLast_eq_take, h.length]
  exact h.take _
theorem RVs.rep {vs : List Val} {us : List V} (h : RVs W φ H vs us) : ∀ k : Nat, RVs W φ H (List.replicate k vs).flatten (List.replicate k us).flatten
  | 0 => .nil
  | k + 1 => by
    rw [List.replicate_succ, List.replicate_succ, List.flatten_cons, List.flatten_cons]
    exact h.append (h.rep k)
theorem RVs.of_get : ∀ {vs : List Val} {us : List V}, vs.length = us.length → (∀ (i : Nat) (v : Val), vs[i]? = some v → ∃ u, us[i]? = some u ∧ RV W φ H v u) → RVs W φ H vs us
  | [], [], _, _ => .nil
  | v :: vs, u :: us, hl, h => by
    obtain ⟨u', e, r⟩ := h 0 v rfl
    simp at e; subst e
    refine .cons r (RVs.of_get (by simpa using hl) fun i w hw => ?_)
    obtain ⟨x, e, r⟩ := h (i + 1) w (by simpa using hw)
    exact ⟨x, by simpa using e, r⟩
  | [], _ :: _, hl, _ => by simp at hl
  | _ :: _, [], hl, _ => by simp at hl

/-! ### the names -/
/-- the names' values -/
structure RE (W : Wo) (φ : List Addr) (H : Hp) (ρ : Env) (σ : L2.St) : Prop where
  len : ρ.length = σ.length
  get : ∀ (i : Nat) (v : Val), ρ[i]? = some (some v) → ∃ u, σ[i]? = some (some u) ∧ RV W φ H v u
theorem RE.mono {ρ : Env} {σ : L2.St} (e : Ext W φ H φ' H') (r : RE W φ H ρ σ) : RE W φ' H' ρ σ :=
  ⟨r.len, fun i v h => let ⟨u, h1, h2⟩ := r.get i v h; ⟨u, h1, h2.mono e⟩⟩
theorem RE.set {ρ : Env} {σ : L2.St} {v : Val} {u : V} (i : Nat) (r : RE W φ H ρ σ) (h : RV W φ H v u) : RE W φ H (ρ.set i (some v)) (σ.set i (some u)) := by
  refine ⟨by simpa using r.len, fun j w hj => ?_⟩
  by_cases e : i = j
  · subst e
    by_cases hi : i < ρ.length
    · rw [List.getElem?_set_self hi] at hj
      cases hj
      exact ⟨u, by rw [List.getElem?_set_self (by rw [← r.len]; exact hi)], h⟩
    · rw [List.getElem?_eq_none (by simpa using hi)] at hj
      cases hj
  · rw [List.getElem?_set_ne e] at hj ⊢
    exact r.get j w hj
theorem RE.wipe {ρ : Env} {σ : L2.St} (r : RE W φ H ρ σ) : ∀ vs : List Nat, RE W φ H (wipeE ρ vs) (L2.wipe σ vs)
  | [] => r
  | v :: vs => by
    have ih := r.wipe vs
    refine ⟨by simp [wipeE, L2.wipe, ih.len], fun j w hj => ?_⟩
    unfold wipeE at hj
    unfold L2.wipe
    by_cases e : v = j
    · subst e
      by_cases hi : v < (wipeE ρ vs).length
      · rw [List.getElem?_set_self hi] at hj; cases hj
      · rw [List.getElem?_eq_none (by simpa using hi)] at hj; cases hj
    · rw [List.getElem?_set_ne e] at hj ⊢
      exact ih.get j w hj
end

/-! ### the store -/
/-- a dict's keys, ints and texts -/
inductive RK : Val → Key → Prop
  | int (i : Int) : RK (.int i) (.inl i)
  | str (s : Str) : RK (.str s) (.inr s)
mutual
/-- a key of tuples -/
def nkey : Val → NestedKey
  | .int i => .num i
  | .str s => .text s
  | .tup vs => .tup (nkeys vs)
  | _ => .none
def nkeys : List Val → List NestedKey
  | [] => []
  | v :: vs => nkey v :: nkeys vs
end
section
variable (W : Wo) (φ : List Addr) (H : Hp)
/-- a dict's pairs: ints and texts as keys -/
abbrev RKs : List (Val × Val) → List (Key × V) → Prop := Paired fun p q => RK p.1 q.1 ∧ RV W φ H p.2 q.2
/-- .. tuples as keys, by the library's entries -/
abbrev RTs : List (Val × Val) → List (NestedKey × Addr × Value) → Prop :=
  Paired fun p x => nkey p.1 = x.1 ∧ RV W φ H p.1 (.ref x.2.1) ∧ ∃ u, RV W φ H p.2 u ∧ RelV u x.2.2
structure DTup (a : Addr) (kvs : List (Val × Val)) : Prop where
  ne : kvs ≠ []
  keys : (kvs.all fun p => tupK p.1) = true
  sys : (a == sysModules) = false
  sz : kvs.length ≤ sizeLine
  ob : ∃ (o : PySem.Obj) (es : Array DictEntry) (ep : Nat) (xs : List (NestedKey × Addr × Value)), H a = some (.ext fun h => h.get? a = some o) ∧ o.ExactDict ∧ o.data = .dict es ep ∧
    es.toList = xs.map (entryOfKey (nestedKind W.prog W.w)) ∧ (xs.map (·.1)).Nodup ∧ RTs W φ H kvs xs
end
end Mn
end -- Sd1
section -- Sd2
set_option linter.all false
set_option autoImplicit false
set_option maxRecDepth 100000
namespace Mn
open PySem L2

/-- the attributes -/
abbrev RFs (W : Wo) (φ : List Addr) (H : Hp) : List (Str × Val) → List (Str × V) → Prop := Paired fun p q => p.1 = q.1 ∧ RV W φ H p.2 q.2
/-- what may be read as a list alone (the script) -/
def RoL (K : PySem.W.Frag) (H : Hp) (a : Addr) (xs : List V) : Prop :=
  (∃ o, H a = some (.frz o (.lst xs))) ∨ ∃ (o : PySem.Obj) (its : Array Value) (n : Nat), K.lookup a = some o ∧ o.cls = .type "list" ∧ o.dict = none ∧ o.data = .seq its n ∧ its.size ≤ sizeLine ∧ Vals xs its.toList
/-- an object of the store stands at a -/
def RO (W : Wo) (φ : List Addr) (H : Hp) (a : Addr) : Obj → Prop
  | .lst vs => ∃ xs, H a = some (.lst xs) ∧ RVs W φ H vs xs
  | .rol vs => ∃ xs, RoL W.K H a xs ∧ RVs W φ H vs xs
  | .dct kvs => (((kvs.all fun p => leafK p.1) = true ∧ ∃ kk, H a = some (.dK kk) ∧ RKs W φ H kvs kk) ∨ DTup W φ H a kvs)
  | .ins C fs => ∃ Ca dx us, W.mg C = some (.ref Ca) ∧ H a = some (.ins Ca dx us) ∧ RFs W φ H fs us
def owns : Obj → Bool
  | .rol _ => false
  | _ => true
structure RM (W : Wo) (φ : List Addr) (M : Mem) (H : Hp) : Prop where
  len : φ.length = M.length
  ne : 0 < M.length
  own : ∀ (n : Nat) (o : Obj), M[n]? = some o → (owns o = true ↔ 0 < n)
  inj : ∀ (n m : Nat) (a : Addr) (on om : Obj), M[n]? = some on → M[m]? = some om → owns on = true → owns om = true → φ[n]? = some a → φ[m]? = some a → n = m
  obj : ∀ (n : Nat) (o : Obj) (a : Addr), M[n]? = some o → φ[n]? = some a → RO W φ H a o

section
variable {W : Wo} {φ φ' φ2 : List Addr} {M M' : Mem} {H H' H2 : Hp}
theorem Paired.mono {α β : Type} {F G : α → β → Prop} {l1 : List α} {l2 : List β} (p : Paired F l1 l2) (f : ∀ a b, F a b → G a b) : Paired G l1 l2 := by
  induction p with
  | nil => exact .nil
  | cons r _ ih => exact .cons (f _ _ r) ih
theorem TK.upd {a : Addr} {o : HO} (h : H a = none ∨ Mut (H a)) : TK W H (upd H a o) := by
  intro b xs hx
  have key : ∀ u, H b = some u → ¬ Mut (some u) → b ≠ a := fun u e nm z => by
    subst z
    rcases h with h | h
    · rw [h] at e; cases e
    · rw [e] at h; exact nm h
  rcases hx with (hx | ⟨o', hx⟩) | hx
  · exact .inl (.inl (by rw [upd_ne (key _ hx (fun z => z))]; exact hx))
  · exact .inl (.inr ⟨o', by rw [upd_ne (key _ hx (fun z => z))]; exact hx⟩)
  · exact .inr hx
theorem Ext.upd {a : Addr} {o : HO} (h : H a = none ∨ (Mut (H a) ∧ ∃ n, 0 < n ∧ φ[n]? = some a)) : Ext W φ H φ (upd H a o) := by
  refine ⟨fun _ _ e => e, TK.upd (h.imp (fun z => z) fun z => z.1), fun b u e hb => ⟨?_, hb⟩⟩
  rw [upd_ne (fun z => ?_)]
  · exact e
  · subst z
    rcases h with h | ⟨_, n, h1, h2⟩
    · rw [h] at e; cases e
    · exact hb n h1 h2
theorem Ext.new {p : Addr} {o : HO} (h : H p = none) : Ext W φ H (φ ++ [p]) (L2.upd H p o) := by
  refine ⟨fun n a e => by rw [List.getElem?_append_left (List.getElem?_eq_some_iff.mp e).1]; exact e, TK.upd (.inl h), fun b u e hb => ?_⟩
  have ne : b ≠ p := fun z => by subst z; rw [h] at e; cases e
  refine ⟨by rw [upd_ne ne]; exact e, fun n hn q => ?_⟩
  by_cases hl : n < φ.length
  · rw [List.getElem?_append_left hl] at q; exact hb n hn q
  · rw [List.getElem?_append_right (by omega)] at q
    cases hk : n - φ.length with
    | zero => rw [hk] at q; simp at q; exact ne q.symm
    | succ k => rw [hk] at q; simp at q
theorem RO.keep0 {a : Addr} {o : Obj} (r : RO W φ H a o) (e : Ex0 W φ H φ' H') (h : H' a = H a) : RO W φ' H' a o := by
  cases o with
  | lst vs => obtain ⟨xs, h1, h2⟩ := r; exact ⟨xs, h.trans h1, h2.mono0 e⟩
  | rol vs =>
    obtain ⟨xs, h1, h2⟩ := r
    refine ⟨xs, ?_, h2.mono0 e⟩
    rcases h1 with ⟨o, h1⟩ | h1
    · exact .inl ⟨o, h.trans h1⟩
    · exact .inr h1
  | ins C fs =>
    obtain ⟨Ca, dx, us, h0, h1, h2⟩ := r
    exact ⟨Ca, dx, us, h0, h.trans h1, Paired.mono h2 fun a b z => ⟨z.1, z.2.mono0 e⟩⟩
  | dct kvs =>
    rcases r with ⟨h0, kk, h1, h2⟩ | ⟨ne, hk, hs, hz, o, es, ep, xs, h1, h3, h4, h5, h6, h7⟩
    · exact .inl ⟨h0, kk, h.trans h1, Paired.mono h2 fun a b z => ⟨z.1, z.2.mono0 e⟩⟩
    · exact .inr ⟨ne, hk, hs, hz, o, es, ep, xs, h.trans h1, h3, h4, h5, h6, Paired.mono h7 fun a b z => ⟨z.1, z.2.1.mono0 e, let ⟨u, z1, z2⟩ := z.2.2; ⟨u, z1.mono0 e, z2⟩⟩⟩
theorem RO.keep {a : Addr} {o : Obj} (r : RO W φ H a o) (e : Ext W φ H φ' H') (h : H' a = H a) : RO W φ' H' a o := r.keep0 e.e0 h
/-- an own object is tracked, and may be changed -/
theorem RO.mut {a : Addr} {o : Obj} (r : RO W φ H a o) (h : owns o = true) : Mut (H a) := by
  cases o with
  | lst vs => obtain ⟨xs, h1, h2⟩ := r; rw [h1]; trivial
  | rol vs => cases h
  | ins C fs => obtain ⟨Ca, dx, us, h0, h1, h2⟩ := r; rw [h1]; trivial
  | dct kvs =>
    rcases r with ⟨h0, kk, h1, h2⟩ | ⟨ne, hk, hs, hz, o, es, ep, xs, h1, _⟩
    · rw [h1]; trivial
    · rw [h1]; trivial
/-- another address changes -/
theorem RO.other0 {a b : Addr} {o : Obj} {u : HO} (r : RO W φ H a o) (hb : H b = none ∨ Mut (H b)) (hne : owns o = true → a ≠ b) (e : Ex0 W φ H φ' (upd H b u)) : RO W φ' (upd H b u) a o := by
  by_cases h : a = b
  · cases ho : owns o with
    | true => exact absurd h (hne ho)
    | false =>
      cases o with
      | rol vs =>
        obtain ⟨xs, h1, h2⟩ := r
        refine ⟨xs, ?_, h2.mono0 e⟩
        rcases h1 with ⟨o, h1⟩ | h1
        · subst h
          rcases hb with hb | hb
          · rw [hb] at h1; cases h1
          · rw [h1] at hb; exact hb.elim
        · exact .inr h1
      | lst vs => cases ho
      | ins C fs => cases ho
      | dct kvs => cases ho
  · exact r.keep0 e (upd_ne h)
theorem RO.other {a b : Addr} {o : Obj} {u : HO} (r : RO W φ H a o) (hb : H b = none ∨ Mut (H b)) (hne : owns o = true → a ≠ b) (e : Ext W φ H φ' (upd H b u)) : RO W φ' (upd H b u) a o := r.other0 hb hne e.e0
theorem RM.out (r : RM W φ M H) {p : Addr} (hp : H p = none) : ∀ n, 0 < n → φ[n]? ≠ some p := fun n h e => by
  have hl : n < M.length := by rw [← r.len]; exact (List.getElem?_eq_some_iff.mp e).1
  have hm : M[n]? = some M[n] := by simp [hl]
  have z := (r.obj n _ p hm e).mut ((r.own n _ hm).mpr h)
  rw [hp] at z; exact z
/-- beside the store an object comes, or changes -/
theorem RM.aside (r : RM W φ M H) {p : Addr} {u : HO} (hp : H p = none ∨ Mut (H p)) (hn : ∀ n, 0 < n → φ[n]? ≠ some p) : RM W φ M (upd H p u) :=
  ⟨r.len, r.ne, r.own, r.inj, fun n o a h1 h2 => (r.obj n o a h1 h2).other0 hp (fun z e => by subst e; exact hn n ((r.own n o h1).mp z) h2) ⟨fun _ _ z => z, TK.upd hp⟩⟩
theorem Ext.aside (e : Ext W φ H φ' H') {p : Addr} {u : HO} (h0 : H p = none) (hp : H' p = none ∨ Mut (H' p)) : Ext W φ H φ' (L2.upd H' p u) :=
  ⟨e.pre, e.tk.trans (TK.upd hp), fun a v ha hn => by
    obtain ⟨z1, z2⟩ := e.frm a v ha hn
    exact ⟨by rw [upd_ne (fun z => by subst z; rw [h0] at ha; cases ha)]; exact z1, z2⟩⟩
theorem RM.new {p : Addr} {o : Obj} {u : HO} (r : RM W φ M H) (hp : H p = none) (ho : owns o = true) (h : RO W (φ ++ [p]) (upd H p u) p o) : RM W (φ ++ [p]) (M ++ [o]) (upd H p u) := by
  have notp : ∀ (n : Nat) (on : Obj), M[n]? = some on → owns on = true → φ[n]? ≠ some p := fun n on hn hon e => by
    have z := (r.obj n on p hn e).mut hon
    rw [hp] at z; exact z
  have split : ∀ (n : Nat) (on : Obj) (a : Addr), (M ++ [o])[n]? = some on → (φ ++ [p])[n]? = some a → (M[n]? = some on ∧ φ[n]? = some a) ∨ (n = M.length ∧ on = o ∧ a = p) := fun n on a h1 h2 => by
    by_cases hn : n < M.length
    · rw [List.getElem?_append_left hn] at h1
      rw [List.getElem?_append_left (by rw [r.len]; exact hn)] at h2
      exact .inl ⟨h1, h2⟩
    · have hl : n < (M ++ [o]).length := (List.getElem?_eq_some_iff.mp h1).1
      have e : n = M.length := by simp at hl; omega
      subst e
      refine .inr ⟨rfl, ?_, ?_⟩
      · rw [List.getElem?_append_right (Nat.le_refl _)] at h1; simp at h1; exact h1.symm
      · rw [← r.len, List.getElem?_append_right (Nat.le_refl _)] at h2; simp at h2; exact h2.symm
  refine ⟨by simp [r.len], by simp, fun n on h1 => ?_, fun n m a on om h1 h2 h3 h4 h5 h6 => ?_, fun n on a h1 h2 => ?_⟩
  · by_cases hn : n < M.length
    · rw [List.getElem?_append_left hn] at h1; exact r.own n on h1
    · have hl : n < (M ++ [o]).length := (List.getElem?_eq_some_iff.mp h1).1
      have e : n = M.length := by simp at hl; omega
      subst e
      rw [List.getElem?_append_right (Nat.le_refl _)] at h1
      simp at h1
      subst h1
      exact ⟨fun _ => r.ne, fun _ => ho⟩
  · rcases split n on a h1 h5 with ⟨k1, k2⟩ | ⟨rfl, rfl, rfl⟩
    · rcases split m om a h2 h6 with ⟨j1, j2⟩ | ⟨rfl, rfl, rfl⟩
      · exact r.inj n m a on om k1 j1 h3 h4 k2 j2
      · exact absurd k2 (notp n on k1 h3)
    · rcases split m om a h2 h6 with ⟨j1, j2⟩ | ⟨rfl, rfl, _⟩
      · exact absurd j2 (notp m om j1 h4)
      · rfl
  · rcases split n on a h1 h2 with ⟨k1, k2⟩ | ⟨rfl, rfl, rfl⟩
    · exact (r.obj n on a k1 k2).other (.inl hp) (fun z e => by subst e; exact notp n on k1 z k2) (Ext.new hp)
    · exact h
theorem RM.set {n : Nat} {a : Addr} {o o' : Obj} {u : HO} (r : RM W φ M H) (hn : M[n]? = some o) (ho : owns o = true) (ha : φ[n]? = some a) (ho' : owns o' = true) (h : RO W φ (upd H a u) a o') : RM W φ (M.set n o') (upd H a u) := by
  have mu : Mut (H a) := (r.obj n o a hn ha).mut ho
  have hlt : n < M.length := (List.getElem?_eq_some_iff.mp hn).1
  have at' : ∀ (m : Nat) (om : Obj), (M.set n o')[m]? = some om → (m = n ∧ om = o') ∨ (m ≠ n ∧ M[m]? = some om) := fun m om e => by
    by_cases z : n = m
    · subst z
      rw [List.getElem?_set_self hlt] at e
      exact .inl ⟨rfl, (Option.some.inj e).symm⟩
    · rw [List.getElem?_set_ne z] at e
      exact .inr ⟨fun q => z q.symm, e⟩
  have hn0 : 0 < n := (r.own n o hn).mp ho
  refine ⟨by simpa using r.len, by simpa using r.ne, fun m om h1 => ?_, fun i j b oi oj h1 h2 h3 h4 h5 h6 => ?_, fun m om b h1 h2 => ?_⟩
  · rcases at' m om h1 with ⟨rfl, rfl⟩ | ⟨z, k⟩
    · exact ⟨fun _ => hn0, fun _ => ho'⟩
    · exact r.own m om k
  · rcases at' i oi h1 with ⟨rfl, rfl⟩ | ⟨z, k⟩
    · rcases at' j oj h2 with ⟨rfl, rfl⟩ | ⟨z2, k2⟩
      · rfl
      · exact r.inj _ _ b o oj hn k2 ho h4 h5 h6
    · rcases at' j oj h2 with ⟨rfl, rfl⟩ | ⟨z2, k2⟩
      · exact r.inj _ _ b oi o k hn h3 ho h5 h6
      · exact r.inj _ _ b oi oj k k2 h3 h4 h5 h6
  · rcases at' m om h1 with ⟨rfl, rfl⟩ | ⟨z, k⟩
    · rw [ha] at h2; cases h2; exact h
    · refine (r.obj m om b k h2).other (.inr mu) (fun q e => ?_) (Ext.upd (.inr ⟨mu, n, hn0, ha⟩))
      subst e
      exact z (r.inj m n b om o k hn q ho h2 ha)
theorem RM.addr (r : RM W φ M H) {n : Nat} {o : Obj} (h : M[n]? = some o) : ∃ a, φ[n]? = some a := by
  have hl : n < φ.length := by rw [r.len]; exact (List.getElem?_eq_some_iff.mp h).1
  exact ⟨φ[n], by simp [hl]⟩
theorem RM.lst (r : RM W φ M H) {n : Nat} {a : Addr} {vs : List Val} (h : M[n]? = some (.lst vs)) (ha : φ[n]? = some a) : ∃ xs, H a = some (.lst xs) ∧ RVs W φ H vs xs := r.obj n _ a h ha
/-- a list is read -/
theorem RM.seqL (r : RM W φ M H) {n : Nat} {a : Addr} {vs : List Val} (h : M[n]? = some (.lst vs) ∨ M[n]? = some (.rol vs)) (ha : φ[n]? = some a) : ∃ xs, SqL W.K H a xs ∧ RVs W φ H vs xs := by
  rcases h with h | h
  · obtain ⟨xs, h1, h2⟩ := r.obj n _ a h ha
    exact ⟨xs, .inl (.inl h1), h2⟩
  · obtain ⟨xs, h1, h2⟩ := r.obj n _ a h ha
    refine ⟨xs, ?_, h2⟩
    rcases h1 with ⟨o, h1⟩ | h1
    · exact .inl (.inr ⟨o, h1⟩)
    · exact .inr h1
theorem RM.seq (r : RM W φ M H) {v : Val} {u : V} {vs : List Val} (h : seqOf M v = some vs) (rv : RV W φ H v u) : ∃ a xs, u = .ref a ∧ (SqL W.K H a xs ∨ SqT W.K H a xs) ∧ RVs W φ H vs xs := by
  cases rv with
  | tup h1 h2 => cases h; exact ⟨_, _, rfl, .inr h1, h2⟩
  | ref ha =>
    rename_i n a
    dsimp only [seqOf] at h
    cases e : M[n]? with
    | none => rw [e] at h; cases h
    | some o =>
      rw [e] at h
      cases o with
      | lst ws => cases h; obtain ⟨xs, h1, h2⟩ := r.seqL (.inl e) ha; exact ⟨a, xs, rfl, .inl h1, h2⟩
      | rol ws => cases h; obtain ⟨xs, h1, h2⟩ := r.seqL (.inr e) ha; exact ⟨a, xs, rfl, .inl h1, h2⟩
      | dct kvs => cases h
      | ins C fs => cases h
  | non => cases h
  | bl _ => cases h
  | int _ => cases h
  | str _ => cases h
  | ty _ => cases h
  | glo _ => cases h
end

/-! ### the evaluator's ends as readings -/
section
variable (W : Wo)
def Kont (φ : List Addr) (H : Hp) (v : Val) (M' : Mem) (Q : VK) : Prop := ∀ φ' H' u, Ext W φ H φ' H' → RM W φ' M' H' → RV W φ' H' v u → Q u H'
def lE (f : Env → Mem → Res Val) : TE := fun σ H Q => ∃ φ M ρ v M', RM W φ M H ∧ RE W φ H ρ σ ∧ f ρ M = .ok v M' ∧ Kont W φ H v M' Q
def lT (f : Env → Mem → Res Bool) : TT := fun σ H Q => ∃ φ M ρ b M', RM W φ M H ∧ RE W φ H ρ σ ∧ f ρ M = .ok b M' ∧ ∀ φ' H', Ext W φ H φ' H' → RM W φ' M' H' → Q b H'
def lA (f : Env → Mem → Res (List Val)) : TA := fun σ H Q => ∃ φ M ρ vs M', RM W φ M H ∧ RE W φ H ρ σ ∧ f ρ M = .ok vs M' ∧ ∀ φ' H' us, Ext W φ H φ' H' → RM W φ' M' H' → RVs W φ' H' vs us → Q us H'
def l1 (g : Val → Mem → Res Val) : V → Hp → VK → Prop := fun x H Q => ∃ φ M a v M', RM W φ M H ∧ RV W φ H a x ∧ g a M = .ok v M' ∧ Kont W φ H v M' Q
def l2 (g : Val → Val → Mem → Res Val) : R2 := fun x y H Q => ∃ φ M a b v M', RM W φ M H ∧ RV W φ H a x ∧ RV W φ H b y ∧ g a b M = .ok v M' ∧ Kont W φ H v M' Q
def lX (g : List Val → Mem → Res Val) : List V → Hp → VK → Prop := fun xs H Q => ∃ φ M as v M', RM W φ M H ∧ RVs W φ H as xs ∧ g as M = .ok v M' ∧ Kont W φ H v M' Q
def lM (g : Val → List Val → Mem → Res Val) : V → List V → Hp → VK → Prop := fun x xs H Q => ∃ φ M a as v M', RM W φ M H ∧ RV W φ H a x ∧ RVs W φ H as xs ∧ g a as M = .ok v M' ∧ Kont W φ H v M' Q
end
section
variable {W : Wo} {φ φ' : List Addr} {M M' : Mem} {H H' : Hp} {Q : VK} {v : Val}
theorem Kont.here {u : V} (k : Kont W φ H v M' Q) (r : RM W φ M' H) (h : RV W φ H v u) : Q u H := k φ H u .refl r h
theorem Kont.step (e : Ext W φ H φ' H') (k : Kont W φ H v M' Q) : Kont W φ' H' v M' Q := fun φ2 H2 u e2 r h => k φ2 H2 u (e.trans e2) r h
/-- a new object ends it -/
theorem Kont.new {o : Obj} {p : Addr} {u : HO} (k : Kont W φ H (.ref M.length) (M ++ [o]) Q) (r : RM W φ M H) (hp : H p = none) (ho : owns o = true) (h : RO W (φ ++ [p]) (upd H p u) p o) : Q (.ref p) (upd H p u) :=
  k (φ ++ [p]) _ (.ref p) (Ext.new hp) (r.new hp ho h) (.ref (by rw [← r.len, List.getElem?_append_right (Nat.le_refl _)]; simp))
theorem Res.bind_ok {α β : Type} {r : Res α} {f : α → Mem → Res β} {b : β} {M2 : Mem} (h : r.bind f = .ok b M2) : ∃ a M1, r = .ok a M1 ∧ f a M1 = .ok b M2 := by
  cases r with
  | ok a M1 => exact ⟨a, M1, rfl, h⟩
  | exc C fs M => cases h
  | stuck => cases h
theorem ofO_ok {α : Type} {o : Option α} {a : α} (h : ofO o M = .ok a M') : o = some a ∧ M = M' := by
  cases o with
  | none => cases h
  | some b => cases h; exact ⟨rfl, rfl⟩
theorem chk_ok {α : Type} {b : Bool} {r : Res α} {a : α} (h : chk b r = .ok a M') : b = true ∧ r = .ok a M' := by
  cases b with
  | false => cases h
  | true => exact ⟨rfl, h⟩
end
section
variable {X : Cx}
theorem pe_weak {e : Expr} {t t' : TE} (h : PE X e t) (w : ∀ σ H Q, t' σ H Q → t σ H Q) : PE X e t' := ⟨fun pins s σ H Q I q => h.run pins s σ H Q I (w σ H Q q)⟩
theorem pt_weak {e : Expr} {t t' : TT} (h : PT X e t) (w : ∀ σ H Q, t' σ H Q → t σ H Q) : PT X e t' := ⟨fun pins s σ H Q I q => h.run pins s σ H Q I (w σ H Q q)⟩
theorem pa_weak {es : List Expr} {t t' : TA} (h : PA X es t) (w : ∀ σ H Q, t' σ H Q → t σ H Q) : PA X es t' := ⟨fun pos pins s σ H Q I q => h.run pos pins s σ H Q I (w σ H Q q)⟩
theorem op_weak {f : Value → Value → Sem Value} {r r' : R2} (h : OpR X f r) (w : ∀ x y H Q, r' x y H Q → r x y H Q) : OpR X f r' :=
  fun pins s σ H x y v u Q I rx ry q => h pins s σ H x y v u Q I rx ry (w x y H Q q)
end
end Mn
end -- Sd2
section -- Sd3
set_option linter.all false
set_option autoImplicit false
set_option maxRecDepth 100000
namespace Mn
open PySem L2

section
variable {W : Wo} {φ : List Addr} {M : Mem} {H : Hp}
/-! ### data -/
mutual
theorem dat_dp {rd : Nat → Option PyData} (hrd : ∀ (n : Nat) (a : Addr) (d : PyData), φ[n]? = some a → rd n = some d → Dp W.K H (.ref a) d) : ∀ {v : Val} {u : V} {d : PyData}, RV W φ H v u → dat rd v = some d → Dp W.K H u d
  | _, _, _, .non, h => by cases h; exact .non
  | _, _, _, .bl b, h => by cases h; exact .bl b
  | _, _, _, .int i, h => by cases h; exact .int i
  | _, _, _, .str s, h => by cases h; exact .str s
  | _, _, _, .ref ha, h => hrd _ _ _ ha h
  | _, _, _, .ty t, h => by cases h
  | _, _, _, .glo t, h => by cases h
  | .tup vs, _, d, .tup hs hv, h => by
    simp only [dat] at h
    cases e : dats rd vs with
    | none => rw [e] at h; cases h
    | some ds =>
      rw [e] at h
      cases h
      exact .tup hs (dats_dp hrd hv e)
theorem dats_dp {rd : Nat → Option PyData} (hrd : ∀ (n : Nat) (a : Addr) (d : PyData), φ[n]? = some a → rd n = some d → Dp W.K H (.ref a) d) : ∀ {vs : List Val} {us : List V} {ds : List PyData}, RVs W φ H vs us → dats rd vs = some ds → DpAll W.K H us ds
  | _, _, _, .nil, h => by cases h; exact .nil
  | v :: vs, _, _, .cons r rs, h => by
    simp only [dats] at h
    cases e : dat rd v with
    | none => rw [e] at h; cases h
    | some d =>
      cases e2 : dats rd vs with
      | none => rw [e, e2] at h; cases h
      | some ds =>
        rw [e, e2] at h
        cases h
        exact .cons (dat_dp hrd r e) (dats_dp hrd rs e2)
end
theorem rdM_dp (r : RM W φ M H) : ∀ (k n : Nat) (a : Addr) (d : PyData), φ[n]? = some a → rdM M k n = some d → Dp W.K H (.ref a) d
  | 0, _, _, _, _, h => by cases h
  | k + 1, n, a, d, ha, h => by
    have go : ∀ vs, (M[n]? = some (.lst vs) ∨ M[n]? = some (.rol vs)) → (dats (rdM M k) vs).map PyData.list = some d → Dp W.K H (.ref a) d := fun vs hm hd => by
      obtain ⟨xs, h1, h2⟩ := r.seqL hm ha
      cases e : dats (rdM M k) vs with
      | none => rw [e] at hd; cases hd
      | some ds =>
        rw [e] at hd
        cases hd
        exact .lst h1 (dats_dp (fun n a d h1 h2 => rdM_dp r k n a d h1 h2) h2 e)
    unfold rdM at h
    cases e : M[n]? with
    | none => rw [e] at h; cases h
    | some o =>
      rw [e] at h
      cases o with
      | lst vs => exact go vs (.inl e) h
      | rol vs => exact go vs (.inr e) h
      | dct kvs => cases h
      | ins C fs => cases h
theorem datM_dp (r : RM W φ M H) {v : Val} {u : V} {d : PyData} (h : RV W φ H v u) (e : datM M v = some d) : Dp W.K H u d := dat_dp (rdM_dp r 6) h e
theorem datsM_dp (r : RM W φ M H) {vs : List Val} {us : List V} {ds : List PyData} (h : RVs W φ H vs us) (e : datsM M vs = some ds) : DpAll W.K H us ds := dats_dp (rdM_dp r 6) h e
/-! ### truth -/
theorem truth_ok (r : RM W φ M H) {v : Val} {u : V} {b : Bool} (h : RV W φ H v u) (e : truth M v = some b) : TruV W.K u H b := by
  cases h with
  | non => cases e; exact rfl
  | bl b => cases e; exact rfl
  | int i => cases e; exact rfl
  | str s =>
    simp only [truth] at e
    split at e
    · cases e; exact ⟨by assumption, rfl⟩
    · cases e
  | ty t => cases e
  | glo x => cases e
  | tup h1 h2 =>
    cases e
    refine .inr (.inl ⟨_, h1, ?_⟩)
    cases h2 <;> rfl
  | ref ha =>
    rename_i n a
    dsimp only [truth] at e
    have ne : ∀ {vs : List Val} {us : List V}, RVs W φ H vs us → (!vs.isEmpty) = !us.isEmpty := fun z => by cases z <;> rfl
    cases em : M[n]? with
    | none => rw [em] at e; cases e
    | some o =>
      rw [em] at e
      cases o with
      | lst vs => cases e; obtain ⟨xs, h1, h2⟩ := r.seqL (.inl em) ha; exact .inl ⟨xs, h1, ne h2⟩
      | rol vs => cases e; obtain ⟨xs, h1, h2⟩ := r.seqL (.inr em) ha; exact .inl ⟨xs, h1, ne h2⟩
      | dct kvs =>
        dsimp only at e
        split at e
        · cases e
          rcases r.obj n _ a em ha with ⟨h0, kk, h1, h2⟩ | z
          · refine .inr (.inr ⟨kk, h1, ?_⟩)
            cases h2 <;> rfl
          · rename_i hl
            have hk := z.keys
            cases kvs with
            | nil => exact absurd rfl z.ne
            | cons p q =>
              rw [List.all_cons, Bool.and_eq_true] at hl hk
              have h1 := hl.1
              have h2 := hk.1
              revert h1 h2
              cases p.1 <;> simp [leafK, tupK]
        · cases e
      | ins C fs => cases e
end

section
variable {X : Cx} {W : Wo}
/-- the context is of the world W -/
structure At (W : Wo) (X : Cx) : Prop where
  prog : X.prog = W.prog
  w : X.w = W.w
  K : X.K = W.K
  mg : X.mg = W.mg

theorem ReadsOf (wa : At W X) {φ : List Addr} {M : Mem} {H : Hp} {pins : List (Addr × PySem.Obj)} {σ : L2.St} {s : Shared} (I : Inv X pins σ H s) (r : RM W φ M H) {v : Val} {u : V} {d : PyData} {x : Value} (h : RV W φ H v u) (e : datM M v = some d) (rx : RelV u x) : ∃ as, Reads s.heap x d as :=
  Dp.reads I d u x (by rw [wa.K]; exact datM_dp r h e) rx

/-! ### operators -/
theorem op_add_ok (wa : At W X) : OpR X (binaryOp .Add) (l2 W (binop .Add)) := by
  intro pins s σ H x y v u Q I rx ry h
  obtain ⟨φ, M, a, b, v', M', r, ra, rb, e, k⟩ := h
  cases ra with
  | int i =>
    cases rb with
    | int j => cases e; exact op_add pins s σ H _ _ v u Q I rx ry ⟨i, j, rfl, rfl, k.here r (.int _)⟩
    | _ => cases e
  | str i =>
    cases rb with
    | str j =>
      obtain ⟨c, e⟩ := chk_ok e
      cases e
      exact op_add_str pins s σ H _ _ v u Q I rx ry ⟨i, j, rfl, rfl, of_decide_eq_true c, k.here r (.str _)⟩
    | _ => cases e
  | tup h1 h2 =>
    cases rb with
    | tup g1 g2 =>
      obtain ⟨c, e⟩ := chk_ok e
      cases e
      rename_i vs xs p ws ys q
      have hz := of_decide_eq_true c
      refine op_catA pins s σ H _ _ v u Q I rx ry ⟨_, _, xs, ys, rfl, rfl, by rw [wa.K]; exact h1, by rw [wa.K]; exact g1, by rw [← h2.length, ← g2.length]; exact hz, fun e => ?_, fun _ e => ?_, fun _ _ p hp => ?_⟩
      · subst e; cases h2; exact k.here r (.tup g1 (by simpa using g2))
      · subst e; cases g2; exact k.here r (.tup h1 (by simpa using h2))
      · exact k φ _ _ (Ext.upd (.inl hp)) (r.aside (.inl hp) (r.out hp)) (.tup (.of upd_same) ((h2.append g2).mono (Ext.upd (.inl hp))))
    | _ => cases e
  | ref ha =>
    cases rb with
    | ref hb =>
      dsimp only [binop] at e
      split at e
      · rename_i xs ys ea eb
        obtain ⟨c, e⟩ := chk_ok e
        cases e
        obtain ⟨us, h1, h2⟩ := r.lst ea ha
        obtain ⟨ws, g1, g2⟩ := r.lst eb hb
        refine op_cat pins s σ H _ _ v u Q I rx ry ⟨_, _, us, ws, rfl, rfl, h1, g1, by rw [← h2.length, ← g2.length]; exact of_decide_eq_true c, fun p hp => k.new r hp rfl ⟨_, upd_same, (h2.append g2).mono (Ext.new hp)⟩⟩
      · cases e
    | _ => cases e
  | non => cases e
  | bl _ => cases e
  | ty _ => cases e
  | glo _ => cases e
/-- a new tuple -/
theorem Kont.tup {φ : List Addr} {M : Mem} {H : Hp} {vs : List Val} {xs : List V} {Q : VK} {p : Addr} (k : Kont W φ H (.tup vs) M Q) (r : RM W φ M H) (h : RVs W φ H vs xs) (hp : H p = none) : Q (.ref p) (upd H p (.tup xs)) := by
  exact k φ _ _ (Ext.upd (.inl hp)) (r.aside (.inl hp) (r.out hp)) (.tup (.of upd_same) (h.mono (Ext.upd (.inl hp))))
theorem op_sub_ok : OpR X (binaryOp .Sub) (l2 W (binop .Sub)) := by
  intro pins s σ H x y v u Q I rx ry h
  obtain ⟨φ, M, a, b, v', M', r, ra, rb, e, k⟩ := h
  cases ra with
  | int i =>
    cases rb with
    | int j => cases e; exact op_sub pins s σ H _ _ v u Q I rx ry ⟨i, j, rfl, rfl, k.here r (.int _)⟩
    | _ => cases e
  | _ => cases e
theorem op_fdiv_ok : OpR X (binaryOp .FloorDiv) (l2 W (binop .FloorDiv)) := by
  intro pins s σ H x y v u Q I rx ry h
  obtain ⟨φ, M, a, b, v', M', r, ra, rb, e, k⟩ := h
  cases ra with
  | int i =>
    cases rb with
    | int j =>
      obtain ⟨c, e⟩ := chk_ok e
      cases e
      exact op_fdiv pins s σ H _ _ v u Q I rx ry ⟨i, j, rfl, rfl, (show 0 < j ∧ j < 1073741824 from of_decide_eq_true c), k.here r (.int _)⟩
    | _ => cases e
  | _ => cases e
theorem op_mod_ok : OpR X (binaryOp .Mod) (l2 W (binop .Mod)) := by
  intro pins s σ H x y v u Q I rx ry h
  obtain ⟨φ, M, a, b, v', M', r, ra, rb, e, k⟩ := h
  cases ra with
  | int i =>
    cases rb with
    | int j =>
      obtain ⟨c, e⟩ := chk_ok e
      cases e
      exact op_mod pins s σ H _ _ v u Q I rx ry ⟨i, j, rfl, rfl, of_decide_eq_true c, k.here r (.int _)⟩
    | _ => cases e
  | _ => cases e
theorem op_pow_ok : OpR X (binaryOp .Pow) (l2 W (binop .Pow)) := by
  intro pins s σ H x y v u Q I rx ry h
  obtain ⟨φ, M, a, b, v', M', r, ra, rb, e, k⟩ := h
  cases ra with
  | int i =>
    cases rb with
    | int j =>
      obtain ⟨c, e⟩ := chk_ok e
      cases e
      exact op_pow pins s σ H _ _ v u Q I rx ry ⟨i, j, rfl, rfl, (show 0 ≤ j ∧ j ≤ 1000000 ∧ i.natAbs < 2 ^ 64 from of_decide_eq_true c), k.here r (.int _)⟩
    | _ => cases e
  | _ => cases e
theorem op_neg_ok : UnR X (unaryOp .USub) (l1 W fun x M => match x with | .int i => .ok (.int (-i)) M | _ => .stuck) := by
  intro pins s σ H x v Q I rx h
  obtain ⟨φ, M, a, v', M', r, ra, e, k⟩ := h
  cases ra with
  | int i => cases e; exact un_neg pins s σ H _ v Q I rx ⟨i, rfl, k.here r (.int _)⟩
  | _ => cases e
end
end Mn
end -- Sd3
section -- Sd4
set_option linter.all false
set_option autoImplicit false
set_option maxRecDepth 100000
namespace Mn
open PySem L2
section
variable {X : Cx} {W : Wo}
abbrev cmpV (op : CmpOp) (x y : Val) (M : Mem) : Res Val := ofO ((cmpop op x y M).map .bl) M
theorem cmpV_ok {op : CmpOp} {x y : Val} {M M' : Mem} {v : Val} (h : cmpV op x y M = .ok v M') : ∃ b, cmpop op x y M = some b ∧ v = .bl b ∧ M = M' := by
  obtain ⟨h', rfl⟩ := ofO_ok h
  clear h
  have h := h'
  clear h'
  cases e : cmpop op x y M with
  | none => rw [e] at h; cases h
  | some b => rw [e] at h; cases h; exact ⟨b, rfl, rfl, rfl⟩
theorem veqD_ok {M : Mem} {x y : Val} {b : Bool} (h : veqD M x y = some b) : ∃ d e, datM M x = some d ∧ datM M y = some e ∧ SeqAt.shaped d = true ∧ SeqAt.shaped e = true ∧ b = PyData.eqv d e := by
  unfold veqD at h
  split at h
  · split at h
    · rename_i d e h1 h2 hs
      rw [Bool.and_eq_true] at hs
      cases h
      exact ⟨d, e, h1, h2, hs.1, hs.2, rfl⟩
    · cases h
  · cases h
theorem veq_cases {M : Mem} {x y : Val} {b : Bool} (h : veq M x y = some b) : (∃ s t, x = .str s ∧ y = .str t ∧ b = decide (s = t)) ∨ veqD M x y = some b := by
  unfold veq at h
  split at h
  · cases h; exact .inl ⟨_, _, rfl, rfl, rfl⟩
  · exact .inr h
theorem op_Eq_ok (wa : At W X) (hu : X.A.units + 64 < cLine) : OpR X (compareOp .Eq) (l2 W (cmpV .Eq)) := by
  intro pins s σ H x y v u Q I rx ry h
  obtain ⟨φ, M, a, b, v', M', r, ra, rb, e, k⟩ := h
  obtain ⟨c, e', rfl, rfl⟩ := cmpV_ok e
  clear e
  have e := e'
  clear e'
  rcases veq_cases e with ⟨z1, z2, rfl, rfl, rfl⟩ | e
  · cases ra
    cases rb
    exact op_eq pins s σ H _ _ v u Q I rx ry ⟨rfl, by
      have z : decide (V.str z1 = V.str z2) = decide (z1 = z2) := by simp
      rw [z]; exact k.here r (.bl _)⟩
  obtain ⟨d1, d2, e1, e2, s1, s2, rfl⟩ := veqD_ok e
  exact op_eqD hu pins s σ H x y v u Q I rx ry ⟨d1, d2, by rw [wa.K]; exact datM_dp r ra e1, by rw [wa.K]; exact datM_dp r rb e2, s1, s2, k.here r (.bl _)⟩
theorem op_NotEq_ok (wa : At W X) (hu : X.A.units + 64 < cLine) : OpR X (compareOp .NotEq) (l2 W (cmpV .NotEq)) := by
  intro pins s σ H x y v u Q I rx ry h
  obtain ⟨φ, M, a, b, v', M', r, ra, rb, e, k⟩ := h
  obtain ⟨c, e', rfl, rfl⟩ := cmpV_ok e
  clear e
  have e := e'
  clear e'
  have e : (veq M a b).map (!·) = some c := e
  cases e0 : veq M a b with
  | none => rw [e0] at e; cases e
  | some c0 =>
    rw [e0] at e
    cases e
    rcases veq_cases e0 with ⟨z1, z2, rfl, rfl, rfl⟩ | e0
    · cases ra
      cases rb
      exact op_ne pins s σ H _ _ v u Q I rx ry ⟨rfl, by
        have z : decide (V.str z1 = V.str z2) = decide (z1 = z2) := by simp
        rw [z]; exact k.here r (.bl _)⟩
    obtain ⟨d1, d2, e1, e2, s1, s2, rfl⟩ := veqD_ok e0
    exact op_neD hu pins s σ H x y v u Q I rx ry ⟨d1, d2, by rw [wa.K]; exact datM_dp r ra e1, by rw [wa.K]; exact datM_dp r rb e2, s1, s2, k.here r (.bl _)⟩
theorem vlt_run (wa : At W X) (hu : X.A.units + 64 < cLine) {pins : List (Addr × PySem.Obj)} {s : Shared} {σ : L2.St} {H : Hp} {φ : List Addr} {M : Mem} {a b : Val} {x y : V} {v u : Value} {c : Bool} {Q : VK}
    (I : Inv X pins σ H s) (r : RM W φ M H) (ra : RV W φ H a x) (rb : RV W φ H b y) (rx : RelV x v) (ry : RelV y u) (e : vlt M a b = some c) (q : Q (.bl c) H) : wpAny (model X.prog X.w) X.A (compareOp .Lt v u) (EP X pins σ Q) X.xe s := by
  unfold vlt at e
  split at e
  · rename_i ds es e1 e2
    split at e
    · rename_i hc
      cases e
      rw [Bool.and_eq_true, Bool.and_eq_true] at hc
      obtain ⟨as, r1⟩ := ReadsOf wa I r ra e1 rx
      obtain ⟨bs, r2⟩ := ReadsOf wa I r rb e2 ry
      exact PySem.W.rcLt_alike _ _ X.A s v u as bs r1 r2 hc.1.1 (by intro z; cases z) (SeqAt.room_of_shaped hc.1.2 hu) X.prog X.w X.xe _ ⟨.bl _, H, I, rfl, q⟩
    · cases e
  · rename_i t1 t2 e1 e2
    cases e
    obtain ⟨as, r1⟩ := ReadsOf wa I r ra e1 rx
    obtain ⟨bs, r2⟩ := ReadsOf wa I r rb e2 ry
    exact PySem.W.rcLt_alike _ _ X.A s v u as bs r1 r2 rfl (by intro z; cases z) (by show X.A.units + min 0 0 < cLine; omega) X.prog X.w X.xe _ ⟨.bl _, H, I, rfl, q⟩
  · cases e
theorem op_Lt_ok (wa : At W X) (hu : X.A.units + 64 < cLine) : OpR X (compareOp .Lt) (l2 W (cmpV .Lt)) := by
  intro pins s σ H x y v u Q I rx ry h
  obtain ⟨φ, M, a, b, v', M', r, ra, rb, e, k⟩ := h
  obtain ⟨c, e', rfl, rfl⟩ := cmpV_ok e
  clear e
  have e := e'
  clear e'
  dsimp only [cmpop] at e
  split at e
  · cases e
    cases ra
    cases rb
    exact op_lt pins s σ H _ _ v u Q I rx ry ⟨_, _, rfl, rfl, k.here r (.bl _)⟩
  · exact vlt_run wa hu I r ra rb rx ry e (k.here r (.bl _))
theorem op_LtE_ok : OpR X (compareOp .LtE) (l2 W (cmpV .LtE)) := by
  intro pins s σ H x y v u Q I rx ry h
  obtain ⟨φ, M, a, b, v', M', r, ra, rb, e, k⟩ := h
  obtain ⟨c, e', rfl, rfl⟩ := cmpV_ok e
  clear e
  have e := e'
  clear e'
  dsimp only [cmpop] at e
  split at e
  · cases e; cases ra; cases rb; exact op_le pins s σ H _ _ v u Q I rx ry ⟨_, _, rfl, rfl, k.here r (.bl _)⟩
  · cases e
theorem op_Gt_ok : OpR X (compareOp .Gt) (l2 W (cmpV .Gt)) := by
  intro pins s σ H x y v u Q I rx ry h
  obtain ⟨φ, M, a, b, v', M', r, ra, rb, e, k⟩ := h
  obtain ⟨c, e', rfl, rfl⟩ := cmpV_ok e
  clear e
  have e := e'
  clear e'
  dsimp only [cmpop] at e
  split at e
  · cases e; cases ra; cases rb; exact op_gt pins s σ H _ _ v u Q I rx ry ⟨_, _, rfl, rfl, k.here r (.bl _)⟩
  · cases e
theorem op_GtE_ok : OpR X (compareOp .GtE) (l2 W (cmpV .GtE)) := by
  intro pins s σ H x y v u Q I rx ry h
  obtain ⟨φ, M, a, b, v', M', r, ra, rb, e, k⟩ := h
  obtain ⟨c, e', rfl, rfl⟩ := cmpV_ok e
  clear e
  have e := e'
  clear e'
  dsimp only [cmpop] at e
  split at e
  · cases e; cases ra; cases rb; exact op_ge pins s σ H _ _ v u Q I rx ry ⟨_, _, rfl, rfl, k.here r (.bl _)⟩
  · cases e
theorem cis_non {x : Val} {c : Bool} (h : cis x .non = some c) {φ : List Addr} {H : Hp} {u : V} (r : RV W φ H x u) : c = decide (u = .non) := by
  cases r <;> (cases h; rfl)
theorem op_Is_ok : OpR X (compareOp .Is) (l2 W (cmpV .Is)) := by
  intro pins s σ H x y v u Q I rx ry h
  obtain ⟨φ, M, a, b, v', M', r, ra, rb, e, k⟩ := h
  obtain ⟨c, e', rfl, rfl⟩ := cmpV_ok e
  clear e
  have e := e'
  clear e'
  have e : cis a b = some c := e
  cases b with
  | non =>
    cases rb
    have z := cis_non e ra
    subst z
    exact op_isN pins s σ H _ _ v u Q I rx ry ⟨rfl, k.here r (.bl _)⟩
  | bl b' =>
    cases a with
    | bl a' =>
      cases ra
      cases rb
      cases e
      refine op_isBl pins s σ H _ _ v u Q I rx ry ⟨_, _, rfl, rfl, ?_⟩
      rw [← Bool.beq_eq_decide_eq]
      exact k.here r (.bl _)
    | _ => cases e
  | _ => cases a <;> cases e
theorem op_IsNot_ok : OpR X (compareOp .IsNot) (l2 W (cmpV .IsNot)) := by
  intro pins s σ H x y v u Q I rx ry h
  obtain ⟨φ, M, a, b, v', M', r, ra, rb, e, k⟩ := h
  obtain ⟨c, e', rfl, rfl⟩ := cmpV_ok e
  clear e
  have e := e'
  clear e'
  have e : (cis a b).map (!·) = some c := e
  cases e0 : cis a b with
  | none => rw [e0] at e; cases e
  | some c0 =>
    rw [e0] at e
    cases e
    cases b with
    | non =>
      cases rb
      have z := cis_non e0 ra
      subst z
      exact op_notN pins s σ H _ _ v u Q I rx ry ⟨rfl, k.here r (.bl _)⟩
    | bl b' =>
      cases a with
      | bl a' =>
        cases ra
        cases rb
        cases e0
        refine op_notBl pins s σ H _ _ v u Q I rx ry ⟨_, _, rfl, rfl, ?_⟩
        rw [← Bool.beq_eq_decide_eq]
        exact k.here r (.bl _)
      | _ => cases e0
    | _ => cases a <;> cases e0
theorem vin_ok {M : Mem} {x : Val} {ys : List Val} {b : Bool} (h : vin M x ys = some b) : ∃ d ds, datM M x = some d ∧ datsM M ys = some ds ∧ SeqAt.shaped d = true ∧ SeqAt.shaped (.list ds) = true ∧ b = (ds.any fun z => PyData.eqv z d) := by
  unfold vin at h
  split at h
  · split at h
    · rename_i d e h1 h2 hs
      rw [Bool.and_eq_true] at hs
      cases h
      exact ⟨d, e, h1, h2, hs.1, hs.2, rfl⟩
    · cases h
  · cases h
/-- x in a list or tuple; neg: not in -/
theorem vin_run (wa : At W X) (hu : X.A.units + 65 < cLine) (neg : Bool) {pins : List (Addr × PySem.Obj)} {s : Shared} {σ : L2.St} {H : Hp} {φ : List Addr} {M : Mem} {a b : Val} {ys : List Val} {x y : V} {v u : Value} {c : Bool} {Q : VK}
    (I : Inv X pins σ H s) (r : RM W φ M H) (ra : RV W φ H a x) (hy : seqOf M b = some ys) (rb : RV W φ H b y) (rx : RelV x v) (ry : RelV y u) (e : vin M a ys = some c) (q : Q (.bl (if neg then !c else c)) H) :
    wpAny (model X.prog X.w) X.A (compareOp (if neg then .NotIn else .In) v u) (EP X pins σ Q) X.xe s := by
  obtain ⟨d, ds, e1, e2, s1, s2, rfl⟩ := vin_ok e
  obtain ⟨p, xs, rfl, hs, hv⟩ := r.seq hy rb
  have D := datM_dp r ra e1
  have Ds := datsM_dp r hv e2
  rcases hs with hs | hs
  · cases neg with
    | false => exact op_inD hu pins s σ H x _ v u Q I rx ry ⟨d, ds, by rw [wa.K]; exact D, by rw [wa.K]; exact .lst hs Ds, s1, s2, q⟩
    | true => exact op_notInD hu pins s σ H x _ v u Q I rx ry ⟨d, ds, by rw [wa.K]; exact D, by rw [wa.K]; exact .lst hs Ds, s1, s2, q⟩
  · obtain ⟨as, r1⟩ := Dp.reads I d x v (by rw [wa.K]; exact D) rx
    obtain ⟨bs, r2⟩ := Dp.reads I (.tuple ds) (.ref p) u (by rw [wa.K]; exact .tup hs Ds) ry
    cases neg with
    | false => exact SeqAt.in_tuple_reads r2 r1 (SeqAt.canLay_of_shaped s2) (SeqAt.canLay_of_shaped s1) (PyProof.Rows.room_in_shaped s1 hu) ⟨.bl _, H, I, rfl, q⟩
    | true => exact SeqAt.notIn_tuple_reads r2 r1 (SeqAt.canLay_of_shaped s2) (SeqAt.canLay_of_shaped s1) (PyProof.Rows.room_in_shaped s1 hu) ⟨.bl _, H, I, rfl, q⟩
end
end Mn
end -- Sd4
section -- Sd5
set_option linter.all false
set_option autoImplicit false
set_option maxRecDepth 100000
namespace Mn
open PySem L2
/-! ### keys of tuples -/
mutual
theorem keq_iff : ∀ (v w : Val), isKey v = true → isKey w = true → keq v w = decide (nkey v = nkey w)
  | .non, w, _, hw => by cases w <;> first | (cases hw; done) | simp [keq, nkey]
  | .int i, w, _, hw => by cases w <;> first | (cases hw; done) | simp [keq, nkey]
  | .str i, w, _, hw => by cases w <;> first | (cases hw; done) | simp [keq, nkey]
  | .tup vs, w, hv, hw => by
    cases w with
    | tup ws =>
      have h := keqs_iff vs ws (by simpa [isKey] using hv) (by simpa [isKey] using hw)
      simp [keq, nkey, h]
    | _ => first | (cases hw; done) | simp [keq, nkey]
  | .bl _, _, h, _ => by cases h
  | .ref _, _, h, _ => by cases h
  | .ty _, _, h, _ => by cases h
  | .glo _, _, h, _ => by cases h
theorem keqs_iff : ∀ (vs ws : List Val), areKeys vs = true → areKeys ws = true → keqs vs ws = decide (nkeys vs = nkeys ws)
  | [], [], _, _ => by simp [keqs, nkeys]
  | [], _ :: _, _, _ => by simp [keqs, nkeys]
  | _ :: _, [], _, _ => by simp [keqs, nkeys]
  | v :: vs, w :: ws, hv, hw => by
    simp only [areKeys, Bool.and_eq_true] at hv hw
    have h1 := keq_iff v w hv.1 hw.1
    have h2 := keqs_iff vs ws hv.2 hw.2
    simp [keqs, nkeys, h1, h2]
end
mutual
theorem nkey_depth : ∀ v : Val, isKey v = true → (nkey v).depth = kdepth v
  | .non, _ => rfl
  | .int _, _ => rfl
  | .str _, _ => rfl
  | .tup vs, h => by simp only [nkey, NestedKey.depth, kdepth]; rw [nkeys_depth vs (by simpa [isKey] using h)]
  | .bl _, h => by cases h
  | .ref _, h => by cases h
  | .ty _, h => by cases h
  | .glo _, h => by cases h
theorem nkeys_depth : ∀ vs : List Val, areKeys vs = true → NestedKey.depthAll (nkeys vs) = kdepths vs
  | [], _ => rfl
  | v :: vs, h => by
    simp only [areKeys, Bool.and_eq_true] at h
    simp only [nkeys, NestedKey.depthAll, kdepths, nkey_depth v h.1, nkeys_depth vs h.2]
end
section
variable {X : Cx} {W : Wo} {φ : List Addr} {M : Mem} {H : Hp} {pins : List (Addr × PySem.Obj)} {σ : L2.St} {s : Shared}
mutual
theorem nest_of (wa : At W X) (I : Inv X pins σ H s) : ∀ (v : Val) (u : V) (x : Value), RV W φ H v u → isKey v = true → RelV u x → NestedIs s.heap (nkey v) x
  | .non, _, _, .non, _, h => by cases h; exact .none
  | .int i, _, _, .int _, _, h => by obtain ⟨t, rfl⟩ := h; exact .int i t
  | .str i, _, _, .str _, _, h => by obtain ⟨t, rfl⟩ := h; exact .text i t
  | .tup vs, _, _, .tup hs hv, hk, h => by
    cases h
    obtain ⟨its, r, ⟨o, ho, hc, n, hd⟩, _⟩ := I.tuple (by rw [wa.K]; exact hs)
    refine .tup ho hc hd ?_
    have e : its.toArray.toList = its := by simp
    rw [e]
    exact nests_of wa I vs _ its hv (by simpa [isKey] using hk) r
  | .bl _, _, _, _, h, _ => by cases h
  | .ref _, _, _, _, h, _ => by cases h
  | .ty _, _, _, _, h, _ => by cases h
  | .glo _, _, _, _, h, _ => by cases h
theorem nests_of (wa : At W X) (I : Inv X pins σ H s) : ∀ (vs : List Val) (us : List V) (xs : List Value), RVs W φ H vs us → areKeys vs = true → Vals us xs → NestedAll s.heap (nkeys vs) xs
  | [], _, _, .nil, _, h => by cases h; exact .nil
  | v :: vs, _, _, .cons r rs, hk, h => by
    simp only [areKeys, Bool.and_eq_true] at hk
    cases h with
    | cons h1 h2 => exact .cons (nest_of wa I v _ _ r hk.1 h1) (nests_of wa I vs _ _ rs hk.2 h2)
end
theorem tupK_key {k : Val} (h : tupK k = true) : ∃ vs, k = .tup vs ∧ isKey k = true ∧ (nkey k).depth ≤ 8 := by
  cases k with
  | tup vs =>
    simp only [tupK, Bool.and_eq_true, decide_eq_true_eq] at h
    have hk : isKey (.tup vs) = true := by simpa [isKey] using h.1
    exact ⟨vs, rfl, hk, by rw [nkey_depth _ hk]; simp only [kdepth]; omega⟩
  | _ => cases h
/-- the key stands at a -/
theorem is_of (wa : At W X) (I : Inv X pins σ H s) {k : Val} {a : Addr} (r : RV W φ H k (.ref a)) (h : tupK k = true) : (nestedKind W.prog W.w).is s.heap (nkey k) a := by
  obtain ⟨vs, rfl, hk, hd⟩ := tupK_key h
  exact ⟨nest_of wa I _ _ _ r hk rfl, hd⟩
theorem RTs.keys {kvs : List (Val × Val)} {xs : List (NestedKey × Addr × Value)} (r : RTs W φ H kvs xs) (hk : (kvs.all fun p => tupK p.1) = true) (wa : At W X) (I : Inv X pins σ H s) : ∀ x ∈ xs, (nestedKind W.prog W.w).is s.heap x.1 x.2.1 := by
  induction r with
  | nil => intro x hx; cases hx
  | cons h hs ih =>
    rw [List.all_cons, Bool.and_eq_true] at hk
    intro x hx
    rcases List.mem_cons.mp hx with rfl | hx
    · rw [← h.1]; exact is_of wa I h.2.1 hk.1
    · exact ih hk.2 x hx
/-- the library's dict -/
theorem DTup.dict (wa : At W X) (I : Inv X pins σ H s) {a : Addr} {kvs : List (Val × Val)} (d : DTup W φ H a kvs) : ∃ xs, RTs W φ H kvs xs ∧ s.heap.DictOfH (nestedKind W.prog W.w) a xs ∧ (a == sysModules) = false ∧ (∃ o, H a = some (.ext fun h => h.get? a = some o)) := by
  obtain ⟨ne, hk, hs, hz, o, es, ep, xs, h1, h3, h4, h5, h6, h7⟩ := d
  have hg : s.heap.get? a = some o := (I.hok a _ h1).1
  exact ⟨xs, h7, ⟨o, es, ep, hg, h3, h4, h5, h7.keys hk wa I, h6⟩, hs, o, h1⟩
theorem dget_leaf {kvs : List (Val × Val)} {kk : List (Key × V)} (r : RKs W φ H kvs kk) {k : Val} {kq : Key} (hk : RK k kq) : (dget kvs k = none ∧ valV kk kq = none) ∨ ∃ v u, dget kvs k = some v ∧ valV kk kq = some u ∧ RV W φ H v u := by
  induction r with
  | nil => exact .inl ⟨rfl, rfl⟩
  | @cons p q ps qs h hs ih =>
    have e : keq p.1 k = decide (q.1 = kq) := by
      obtain ⟨h1, _⟩ := h
      revert h1
      cases hk with
      | int i => intro h1; generalize p.1 = x at h1; generalize q.1 = y at h1; cases h1 <;> simp [keq]
      | str i => intro h1; generalize p.1 = x at h1; generalize q.1 = y at h1; cases h1 <;> simp [keq]
    by_cases c : q.1 = kq
    · rw [decide_eq_true c] at e
      exact .inr ⟨p.2, q.2, by simp [dget, List.find?_cons, e], valV_pos c, h.2⟩
    · rw [decide_eq_false c] at e
      rw [valV_neg c]
      have : dget (p :: ps) k = dget ps k := by simp [dget, List.find?_cons, e]
      rw [this]
      exact ih
theorem dget_tup {kvs : List (Val × Val)} {xs : List (NestedKey × Addr × Value)} (r : RTs W φ H kvs xs) (ha : (kvs.all fun p => tupK p.1) = true) {k : Val} (hk : tupK k = true) :
    (dget kvs k = none ∧ atKey xs (nkey k) = none) ∨ ∃ v a u x, dget kvs k = some v ∧ atKey xs (nkey k) = some (a, x) ∧ RV W φ H v u ∧ RelV u x := by
  induction r with
  | nil => exact .inl ⟨rfl, rfl⟩
  | @cons p q ps qs h hs ih =>
    rw [List.all_cons, Bool.and_eq_true] at ha
    obtain ⟨_, _, k1, _⟩ := tupK_key ha.1
    obtain ⟨_, _, k2, _⟩ := tupK_key hk
    have e : keq p.1 k = decide (q.1 = nkey k) := by rw [keq_iff _ _ k1 k2, h.1]
    by_cases c : q.1 = nkey k
    · rw [decide_eq_true c] at e
      obtain ⟨u, z1, z2⟩ := h.2.2
      exact .inr ⟨p.2, q.2.1, u, q.2.2, by simp [dget, List.find?_cons, e], by simp [atKey, List.find?_cons, c], z1, z2⟩
    · rw [decide_eq_false c] at e
      have e1 : dget (p :: ps) k = dget ps k := by simp [dget, List.find?_cons, e]
      have e2 : atKey (q :: qs) (nkey k) = atKey qs (nkey k) := by simp [atKey, List.find?_cons, c]
      rw [e1, e2]
      exact ih ha.2
theorem leaf_rk {k : Val} (h : leafK k = true) {u : V} (r : RV W φ H k u) : ∃ kq, RK k kq ∧ u = kV kq := by
  cases r with
  | int i => exact ⟨_, .int i, rfl⟩
  | str i => exact ⟨_, .str i, rfl⟩
  | _ => cases h
end
end Mn
end -- Sd5
section -- Sd6
set_option linter.all false
set_option autoImplicit false
set_option maxRecDepth 100000
namespace Mn
open PySem L2
section
variable {X : Cx} {W : Wo} {φ : List Addr} {M : Mem} {H : Hp} {pins : List (Addr × PySem.Obj)} {σ : L2.St} {s : Shared} {a : Addr} {kvs : List (Val × Val)}
theorem leaf_not_tup {k : Val} (h : leafK k = true) : tupK k = false := by cases k <;> first | rfl | (cases h; done)
theorem view_leaf (r : RO W φ H a (.dct kvs)) (h : (kvs.all fun p => leafK p.1) = true) : ∃ kk, H a = some (.dK kk) ∧ RKs W φ H kvs kk := by
  rcases r with ⟨_, z⟩ | z
  · exact z
  · have hk := z.keys
    cases kvs with
    | nil => exact absurd rfl z.ne
    | cons p q =>
      rw [List.all_cons, Bool.and_eq_true] at h hk
      rw [leaf_not_tup h.1] at hk
      cases hk.1
theorem view_tup (wa : At W X) (I : Inv X pins σ H s) (r : RO W φ H a (.dct kvs)) (h : (kvs.all fun p => tupK p.1) = true) :
    ∃ xs, RTs W φ H kvs xs ∧ s.heap.DictOfH (nestedKind W.prog W.w) a xs ∧ (a == sysModules) = false ∧ Mut (H a) := by
  have mu := RO.mut r rfl
  rcases r with ⟨hl, kk, h1, h2⟩ | z
  · cases kvs with
    | nil =>
      cases h2
      obtain ⟨_, hs, vs, rel, o, es, ep, e1, e2, e3, _, e4, _⟩ := dk_of I.hok h1
      cases rel
      have z : es.toList = [] := by
        cases q : es.toList with
        | nil => rfl
        | cons x y => rw [q] at e4; cases e4
      exact ⟨[], .nil, ⟨o, es, ep, e1, e2, e3, by rw [z]; rfl, fun x hx => (List.not_mem_nil hx).elim, List.nodup_nil⟩, hs, mu⟩
    | cons p q =>
      rw [List.all_cons, Bool.and_eq_true] at h hl
      rw [leaf_not_tup hl.1] at h
      cases h.1
  · obtain ⟨xs, h1, h2, h3, _⟩ := z.dict wa I
    exact ⟨xs, h1, h2, h3, mu⟩
theorem fits_cases {k : Val} (f : fits kvs k = true) : (leafK k = true ∧ (kvs.all fun p => leafK p.1) = true) ∨ (tupK k = true ∧ (kvs.all fun p => tupK p.1) = true) := by
  unfold fits at f
  simp only [Bool.or_eq_true, Bool.and_eq_true] at f
  exact f
theorem tup_ref {k : Val} (h : tupK k = true) {u : V} (r : RV W φ H k u) : ∃ b, u = .ref b := by
  cases r with
  | tup h1 h2 => exact ⟨_, rfl⟩
  | _ => cases h
variable {A : Around} {E : Value → Shared → Prop} {k : Val} {y : V} {u : Value}
theorem dct_type (wa : At W X) (I : Inv X pins σ H s) (r : RO W φ H a (.dct kvs)) : s.TypeIs (.ref a) "dict" := by
  rcases r with ⟨hl, kk, h1, h2⟩ | z
  · exact dict_typeIs I (DGet.k (k := Sum.inl 0) h1)
  · obtain ⟨xs, h1, h2, h3, _⟩ := z.dict wa I
    exact h2.typeIs
theorem room8 {j : Nat} (hu : A.units + 64 < cLine) : (nestedKind W.prog W.w).room A.in1 := by
  show A.units + 1 + 8 < cLine
  omega
theorem dct_get (wa : At W X) (hu : A.units + 64 < cLine) (I : Inv X pins σ H s) (r : RO W φ H a (.dct kvs)) (f : fits kvs k = true) (rk : RV W φ H k y) (ry : RelV y u) {v : Val} (hv : dget kvs k = some v) {Q : Value → Shared → Prop}
    (h : ∀ vv w' s', Inv X pins σ H s' → RV W φ H v vv → RelV vv w' → Q w' s') : wpAny (model X.prog X.w) A (getItem (.ref a) u) Q E s := by
  rcases fits_cases f with ⟨hk, ha⟩ | ⟨hk, ha⟩
  · obtain ⟨kk, h1, h2⟩ := view_leaf r ha
    obtain ⟨kq, hq, rfl⟩ := leaf_rk hk rk
    rcases dget_leaf h2 hq with ⟨n, _⟩ | ⟨v', vv, e1, e2, e3⟩
    · rw [n] at hv; cases hv
    · rw [e1] at hv; cases hv
      refine d_getItem (by omega) I (v := vv) ?_ ry fun w' s' I' rw' => h vv w' s' I' e3 rw'
      rw [← e2]
      exact DGet.k h1
  · obtain ⟨xs, h1, h2, h3, mu⟩ := view_tup wa I r ha
    obtain ⟨b, rfl⟩ := tup_ref hk rk
    cases ry
    rcases dget_tup h1 ha hk with ⟨n, _⟩ | ⟨v', p, vv, x, e1, e2, e3, e4⟩
    · rw [n] at hv; cases hv
    · rw [e1] at hv; cases hv
      rw [wa.prog, wa.w]
      exact wpAny_getItem_heap (room8 (W := W) (j := 0) hu) (is_of wa I rk hk) h2 e2 (h vv x _ (I.tok _) e3 e4)
theorem dct_in (wa : At W X) (hu : A.units + 64 < cLine) (neg : Bool) (I : Inv X pins σ H s) (r : RO W φ H a (.dct kvs)) (f : fits kvs k = true) (rk : RV W φ H k y) (ry : RelV y u) {Q : Value → Shared → Prop}
    (h : ∀ s', Inv X pins σ H s' → Q (.bool (if neg then !(dget kvs k).isSome else (dget kvs k).isSome)) s') : wpAny (model X.prog X.w) A (compareOp (if neg then .NotIn else .In) u (.ref a)) Q E s := by
  rcases fits_cases f with ⟨hk, ha⟩ | ⟨hk, ha⟩
  · obtain ⟨kk, h1, h2⟩ := view_leaf r ha
    obtain ⟨kq, hq, rfl⟩ := leaf_rk hk rk
    have e : (dget kvs k).isSome = (valV kk kq).isSome := by
      rcases dget_leaf h2 hq with ⟨n, n2⟩ | ⟨v', vv, e1, e2, e3⟩
      · rw [n, n2]; rfl
      · rw [e1, e2]; rfl
    rw [e] at h
    cases neg with
    | false => exact d_in (by omega) I (DGet.k h1) ry h
    | true => exact d_notIn (by omega) I (DGet.k h1) ry h
  · obtain ⟨xs, h1, h2, h3, mu⟩ := view_tup wa I r ha
    obtain ⟨b, rfl⟩ := tup_ref hk rk
    cases ry
    have e : (dget kvs k).isSome = (atKey xs (nkey k)).isSome := by
      rcases dget_tup h1 ha hk with ⟨n, n2⟩ | ⟨v', p, vv, x, e1, e2, e3, e4⟩
      · rw [n, n2]; rfl
      · rw [e1, e2]; rfl
    rw [e] at h
    rw [wa.prog, wa.w]
    cases neg with
    | false => exact wpAny_in_heap (room8 (W := W) (j := 0) hu) (is_of wa I rk hk) h3 h2 (h _ (I.tok _))
    | true => exact PyProof.Rows.wpAny_notIn_heap (room8 (W := W) (j := 0) hu) (is_of wa I rk hk) h3 h2 (h _ (I.tok _))
/-! ### stores -/
theorem dput_leaf {kk : List (Key × V)} (r : RKs W φ H kvs kk) {k : Val} {kq : Key} (hk : RK k kq) {v : Val} {vv : V} (rv : RV W φ H v vv) (nd : (kk.map (·.1)).Nodup) : RKs W φ H (dput kvs k v) (putK kk kq vv) := by
  have key : ∀ {p : Val × Val} {q : Key × V}, RK p.1 q.1 → keq p.1 k = decide (q.1 = kq) := fun {p q} h1 => by
    revert h1
    cases hk with
    | int i => intro h1; generalize p.1 = x at h1; generalize q.1 = y at h1; cases h1 <;> simp [keq]
    | str i => intro h1; generalize p.1 = x at h1; generalize q.1 = y at h1; cases h1 <;> simp [keq]
  induction r with
  | nil => exact .cons ⟨hk, rv⟩ .nil
  | @cons p q ps qs h hs ih =>
    rw [List.map_cons, List.nodup_cons] at nd
    have e := key h.1
    by_cases c : q.1 = kq
    · rw [decide_eq_true c] at e
      have e1 : dput (p :: ps) k v = (p.1, v) :: ps := by simp [dput, e]
      have e2 : putK (q :: qs) kq vv = (q.1, vv) :: qs := by
        have hn : ∀ x ∈ qs, ¬ x.1 = kq := fun x hx z => nd.1 (by rw [c, ← z]; exact List.mem_map_of_mem hx)
        have hm : (qs.map fun kv => if kv.1 = kq then (kv.1, vv) else kv) = qs := by
          have : ∀ l : List (Key × V), (∀ x ∈ l, ¬ x.1 = kq) → (l.map fun kv => if kv.1 = kq then (kv.1, vv) else kv) = l := by
            intro l
            induction l with
            | nil => intro _; rfl
            | cons x l ih => intro hl; rw [List.map_cons, if_neg (hl x List.mem_cons_self), ih fun y hy => hl y (List.mem_cons_of_mem _ hy)]
          exact this qs hn
        unfold putK
        simp [c, hm]
      rw [e1, e2]
      exact .cons ⟨h.1, rv⟩ hs
    · rw [decide_eq_false c] at e
      have e1 : dput (p :: ps) k v = p :: dput ps k v := by simp [dput, e]
      have e2 : putK (q :: qs) kq vv = q :: putK qs kq vv := by
        unfold putK
        rw [List.any_cons, decide_eq_false c, Bool.false_or]
        by_cases z : (qs.any fun kv => decide (kv.1 = kq)) = true
        · rw [if_pos z, if_pos z, List.map_cons, if_neg c]
        · rw [if_neg z, if_neg z, List.cons_append]
      rw [e1, e2]
      exact .cons h (ih nd.2)
end
end Mn
end -- Sd6
section -- Sd7
set_option linter.all false
set_option autoImplicit false
set_option maxRecDepth 100000
namespace Mn
open PySem L2
section
variable {X : Cx} {W : Wo} {φ : List Addr} {M : Mem} {H : Hp} {pins : List (Addr × PySem.Obj)} {σ : L2.St} {s : Shared} {a : Addr} {kvs : List (Val × Val)}
theorem RTs.mono0 {φ' : List Addr} {H' : Hp} (e : Ex0 W φ H φ' H') {xs : List (NestedKey × Addr × Value)} (r : RTs W φ H kvs xs) : RTs W φ' H' kvs xs :=
  Paired.mono r fun p x z => ⟨z.1, z.2.1.mono0 e, let ⟨u, z1, z2⟩ := z.2.2; ⟨u, z1.mono0 e, z2⟩⟩
theorem RKs.mono0 {φ' : List Addr} {H' : Hp} (e : Ex0 W φ H φ' H') {xs : List (Key × V)} (r : RKs W φ H kvs xs) : RKs W φ' H' kvs xs :=
  Paired.mono r fun p x z => ⟨z.1, z.2.mono0 e⟩
theorem RTs.mono {φ' : List Addr} {H' : Hp} (e : Ext W φ H φ' H') {xs : List (NestedKey × Addr × Value)} (r : RTs W φ H kvs xs) : RTs W φ' H' kvs xs :=
  Paired.mono r fun p x z => ⟨z.1, z.2.1.mono e, let ⟨u, z1, z2⟩ := z.2.2; ⟨u, z1.mono e, z2⟩⟩
theorem RKs.mono {φ' : List Addr} {H' : Hp} (e : Ext W φ H φ' H') {xs : List (Key × V)} (r : RKs W φ H kvs xs) : RKs W φ' H' kvs xs :=
  Paired.mono r fun p x z => ⟨z.1, z.2.mono e⟩
theorem rts_put {xs : List (NestedKey × Addr × Value)} (r : RTs W φ H kvs xs) (ha : (kvs.all fun p => tupK p.1) = true) {k : Val} (hk : tupK k = true) {b : Addr} (rk : RV W φ H k (.ref b)) {v : Val} {vv : V} {x : Value} (rv : RV W φ H v vv) (rx : RelV vv x)
    (nd : (xs.map (·.1)).Nodup) : RTs W φ H (dput kvs k v) (storedH xs (nkey k) b x) := by
  induction r with
  | nil => exact .cons ⟨rfl, rk, vv, rv, rx⟩ .nil
  | @cons p q ps qs h hs ih =>
    rw [List.all_cons, Bool.and_eq_true] at ha
    rw [List.map_cons, List.nodup_cons] at nd
    obtain ⟨_, _, k1, _⟩ := tupK_key ha.1
    obtain ⟨_, _, k2, _⟩ := tupK_key hk
    have e : keq p.1 k = decide (q.1 = nkey k) := by rw [keq_iff _ _ k1 k2, h.1]
    by_cases c : q.1 = nkey k
    · rw [decide_eq_true c] at e
      have e1 : dput (p :: ps) k v = (p.1, v) :: ps := by simp [dput, e]
      have e2 : storedH (q :: qs) (nkey k) b x = (q.1, q.2.1, x) :: qs := by
        have z : atKey (q :: qs) (nkey k) = some q.2 := by simp [atKey, List.find?_cons, c]
        rw [storedH_old z, List.map_cons, map_putAt_of_not_mem qs _ _ (by rw [← c]; exact nd.1), putAt, if_pos c]
      rw [e1, e2]
      exact .cons ⟨h.1, h.2.1, vv, rv, rx⟩ hs
    · rw [decide_eq_false c] at e
      have e1 : dput (p :: ps) k v = p :: dput ps k v := by simp [dput, e]
      have z : atKey (q :: qs) (nkey k) = atKey qs (nkey k) := by simp [atKey, List.find?_cons, c]
      have e2 : storedH (q :: qs) (nkey k) b x = q :: storedH qs (nkey k) b x := by
        unfold storedH
        rw [z, List.map_cons, putAt, if_neg c]
        split <;> rfl
      rw [e1, e2]
      exact .cons h (ih ha.2 nd.2)
theorem dput_len (kvs : List (Val × Val)) (k v : Val) : (dput kvs k v).length ≤ kvs.length + 1 := by
  induction kvs with
  | nil => exact Nat.le_refl _
  | cons p r ih =>
    unfold dput
    split
    · exact Nat.le_succ _
    · simp only [List.length_cons]; omega
theorem dput_ne (k v : Val) : dput kvs k v ≠ [] := by
  cases kvs with
  | nil => intro z; cases z
  | cons p r => unfold dput; split <;> (intro z; cases z)
theorem dput_all {p : Val → Bool} (k v : Val) (hk : p k = true) (h : (kvs.all fun x => p x.1) = true) : ((dput kvs k v).all fun x => p x.1) = true := by
  induction kvs with
  | nil => simp [dput, hk]
  | cons x r ih =>
    rw [List.all_cons, Bool.and_eq_true] at h
    unfold dput
    split
    · rw [List.all_cons, Bool.and_eq_true]; exact h
    · rw [List.all_cons, Bool.and_eq_true]; exact ⟨h.1, ih h.2⟩
variable {A : Around} {E : Value → Shared → Prop} {k : Val} {y : V} {u : Value} {v : Val} {vv : V} {r0 : Value}
/-- the new object behind a store into a dict with tuple keys -/
theorem tup_stored (wa : At W X) (I : Inv X pins σ H s) {h' : Heap} {t' : Nat} {xs : List (NestedKey × Addr × Value)} {b : Addr} (h1 : RTs W φ H kvs xs) (ha : (kvs.all fun p => tupK p.1) = true) (hk : tupK k = true) (rk : RV W φ H k (.ref b)) (rv : RV W φ H v vv) (rx : RelV vv r0)
    (nd : (xs.map (·.1)).Nodup) (hz : kvs.length < sizeLine) (h3 : (a == sysModules) = false) (mu : Mut (H a)) (dd : h'.DictOfH (nestedKind W.prog W.w) a (storedH xs (nkey k) b r0)) (hs : Heap.SameBut a s.heap h') :
    ∃ ho, Inv X pins σ (upd H a ho) { s with heap := h', toks := t' } ∧ RO W φ (upd H a ho) a (.dct (dput kvs k v)) := by
  obtain ⟨q, es, ep, hq, g2, g3, g4, _, g5⟩ := dd
  refine ⟨.ext fun h => h.get? a = some q, d_write I mu hs ⟨q, hq⟩ ⟨hq, ⟨q, hq⟩, fun h1 h2 p f => f _ p⟩, .inr ⟨dput_ne k v, dput_all k v hk ha, h3, by have := dput_len kvs k v; omega, q, es, ep, _, upd_same, g2, g3, g4, g5, ?_⟩⟩
  exact (rts_put h1 ha hk rk rv rx nd).mono0 ⟨fun _ _ z => z, TK.upd (.inr mu)⟩
theorem dofh_nodup {h : Heap} {xs : List (NestedKey × Addr × Value)} (d : h.DictOfH (nestedKind W.prog W.w) a xs) : (xs.map (·.1)).Nodup := let ⟨_, _, _, _, _, _, _, _, n⟩ := d; n
theorem dct_put (wa : At W X) (hu : A.units + 64 < cLine) (I : Inv X pins σ H s) (r : RO W φ H a (.dct kvs)) (f : fits kvs k = true) (rk : RV W φ H k y) (ry : RelV y u) (rv : RV W φ H v vv) (rx : RelV vv r0) (hz : kvs.length < sizeLine) {Q : Unit → Shared → Prop}
    (h : ∀ ho s', Inv X pins σ (upd H a ho) s' → RO W φ (upd H a ho) a (.dct (dput kvs k v)) → Q () s') : wpAny (model X.prog X.w) A (setItem (.ref a) u r0) Q E s := by
  have mu := RO.mut r rfl
  rcases fits_cases f with ⟨hk, ha⟩ | ⟨hk, ha⟩
  · obtain ⟨kk, h1, h2⟩ := view_leaf r ha
    obtain ⟨kq, hq, rfl⟩ := leaf_rk hk rk
    have nd : (kk.map (·.1)).Nodup := by
      obtain ⟨_, _, vs, rel, _, _, _, _, _, _, _, _, n⟩ := dk_of I.hok h1
      rw [rel.keys]; exact n
    refine d_setItem (by omega) I (DPut.k (v := vv) h1 (by rw [← Paired.length h2]; exact hz)) ry rx fun s' I' => h _ s' I' (.inl ⟨dput_all k v hk ha, _, upd_same, ?_⟩)
    exact (dput_leaf h2 hq rv nd).mono0 ⟨fun _ _ z => z, TK.upd (.inr mu)⟩
  · obtain ⟨xs, h1, h2, h3, _⟩ := view_tup wa I r ha
    obtain ⟨b, rfl⟩ := tup_ref hk rk
    cases ry
    rw [wa.prog, wa.w]
    refine wpAny_setItem_heap (hsz := by rw [← Paired.length h1]; omega) (room8 (W := W) (j := 0) hu) (is_of wa I rk hk) h2 fun h' dd hs => ?_
    obtain ⟨ho, I', ro⟩ := tup_stored (t' := s.toks + (nestedKind W.prog W.w).draws (nkey k)) wa I h1 ha hk rk rv rx (dofh_nodup h2) hz h3 mu dd hs
    exact h ho _ I' ro
theorem dct_get2 (wa : At W X) (hu : A.units + 64 < cLine) (I : Inv X pins σ H s) (r : RO W φ H a (.dct kvs)) (f : fits kvs k = true) (rk : RV W φ H k y) (ry : RelV y u) (rv : RV W φ H v vv) (rx : RelV vv r0) {Q : Value → Shared → Prop}
    (h : ∀ zz w' s', Inv X pins σ H s' → RV W φ H ((dget kvs k).getD v) zz → RelV zz w' → Q w' s') : wpAny (model X.prog X.w) A (call (.builtin "dict.get") [.ref a, u, r0]) Q E s := by
  rcases fits_cases f with ⟨hk, ha⟩ | ⟨hk, ha⟩
  · obtain ⟨kk, h1, h2⟩ := view_leaf r ha
    obtain ⟨kq, hq, rfl⟩ := leaf_rk hk rk
    refine d_get2 (by omega) I (DGet.k h1) ry rx fun w' s' I' rw' => ?_
    rcases dget_leaf h2 hq with ⟨n, n2⟩ | ⟨v', v2, e1, e2, e3⟩
    · rw [n2] at rw'; exact h vv w' s' I' (by rw [n]; exact rv) rw'
    · rw [e2] at rw'
      exact h _ w' s' I' (by rw [e1]; exact e3) rw'
  · obtain ⟨xs, h1, h2, h3, _⟩ := view_tup wa I r ha
    obtain ⟨b, rfl⟩ := tup_ref hk rk
    cases ry
    rw [wa.prog, wa.w]
    refine call_meetsIn PySem.F.slot_dict_get h2.typeIs PySem.F.entry_dict_get (PySem.F.args_dict_get_3 _ _ _) (meetsH_dict_get_default (nestedKind W.prog W.w) a b h3 r0) ⟨room8 (W := W) (j := 0) hu, nkey k, xs, is_of wa I rk hk, h2, ?_⟩
    rcases dget_tup h1 ha hk with ⟨n, n2⟩ | ⟨v', p, v2, x, e1, e2, e3, e4⟩
    · rw [n2]; exact h vv _ _ (I.tok _) (by rw [n]; exact rv) rx
    · rw [e2]; exact h v2 _ _ (I.tok _) (by rw [e1]; exact e3) e4
theorem dct_setd (wa : At W X) (hu : A.units + 64 < cLine) (I : Inv X pins σ H s) (r : RO W φ H a (.dct kvs)) (f : fits kvs k = true) (rk : RV W φ H k y) (ry : RelV y u) (rv : RV W φ H v vv) (rx : RelV vv r0) (hz : kvs.length < sizeLine) {Q : Value → Shared → Prop}
    (h1 : ∀ v1 zz w' s', dget kvs k = some v1 → Inv X pins σ H s' → RV W φ H v1 zz → RelV zz w' → Q w' s')
    (h2 : dget kvs k = none → ∀ ho s' w', Inv X pins σ (upd H a ho) s' → RO W φ (upd H a ho) a (.dct (dput kvs k v)) → RelV vv w' → Q w' s') : wpAny (model X.prog X.w) A (call (.builtin "dict.setdefault") [.ref a, u, r0]) Q E s := by
  have mu := RO.mut r rfl
  rcases fits_cases f with ⟨hk, ha⟩ | ⟨hk, ha⟩
  · obtain ⟨kk, g1, g2⟩ := view_leaf r ha
    obtain ⟨kq, hq, rfl⟩ := leaf_rk hk rk
    have nd : (kk.map (·.1)).Nodup := by
      obtain ⟨_, _, vs, rel, _, _, _, _, _, _, _, _, n⟩ := dk_of I.hok g1
      rw [rel.keys]; exact n
    refine d_setd I g1 ry rx (by rw [← Paired.length g2]; exact hz) (fun v' hv w' s' I' rw' => ?_) fun hn w' s' I' rw' => ?_
    · rcases dget_leaf g2 hq with ⟨n, n2⟩ | ⟨v1, v2, e1, e2, e3⟩
      · rw [n2] at hv; cases hv
      · rw [e2] at hv; cases hv
        exact h1 v1 _ w' s' e1 I' e3 rw'
    · rcases dget_leaf g2 hq with ⟨n, n2⟩ | ⟨v1, v2, e1, e2, e3⟩
      · exact h2 n _ s' w' I' (.inl ⟨dput_all k v hk ha, _, upd_same, (dput_leaf g2 hq rv nd).mono0 ⟨fun _ _ z => z, TK.upd (.inr mu)⟩⟩) rw'
      · rw [e2] at hn; cases hn
  · obtain ⟨xs, g1, g2, g3, _⟩ := view_tup wa I r ha
    obtain ⟨b, rfl⟩ := tup_ref hk rk
    cases ry
    rw [wa.prog, wa.w]
    refine call_setdefault_heap (hsz := by rw [← Paired.length g1]; omega) (room8 (W := W) (j := 0) hu) (is_of wa I rk hk) g3 g2 (fun p hp => ?_) fun hn h' dd hs => ?_
    · rcases dget_tup g1 ha hk with ⟨n, n2⟩ | ⟨v', p', v2, x, e1, e2, e3, e4⟩
      · rw [n2] at hp; cases hp
      · rw [e2] at hp; cases hp
        exact h1 v' v2 _ _ e1 (I.tok _) e3 e4
    · rcases dget_tup g1 ha hk with ⟨n, n2⟩ | ⟨v', p', v2, x, e1, e2, e3, e4⟩
      · obtain ⟨ho, I', ro⟩ := tup_stored (t' := s.toks + (nestedKind W.prog W.w).draws (nkey k)) wa I g1 ha hk rk rv rx (dofh_nodup g2) hz g3 mu dd hs
        exact h2 n ho _ _ I' ro rx
      · rw [e2] at hn; cases hn
end
end Mn
end -- Sd7
section -- Sd8
set_option linter.all false
set_option autoImplicit false
set_option maxRecDepth 100000
namespace Mn
open PySem L2
section
variable {X : Cx} {W : Wo}
theorem ixOf_eq (i : Int) (n : Nat) : ixOf i n = ixN n i := rfl
theorem RVs.atI {φ : List Addr} {H : Hp} {vs : List Val} {us : List V} (h : RVs W φ H vs us) {j : Int} {k : Nat} {v : Val} (e : ixOf j vs.length = some k) (ev : vs[k]? = some v) : ∃ u, atI us j = some u ∧ RV W φ H v u := by
  obtain ⟨u, h1, h2⟩ := h.get ev
  refine ⟨u, ?_, h2⟩
  unfold L2.atI
  rw [← h.length, ← ixOf_eq, e]
  exact h1
/-- x[i] -/
theorem ix_ok (wa : At W X) (hu : X.A.units + 64 < cLine) : IxR X (l2 W subs) := by
  intro value slice pins s σ H x y v u Q I rx ry h hs
  obtain ⟨φ, M, a, b, v', M', r, ra, rb, e, k⟩ := h
  have fin : ∀ {vs : List Val} {p : Addr} {xs : List V} (hv : RVs W φ H vs xs) (hq : SqL W.K H p xs ∨ SqT W.K H p xs) {j : Int} (ej : b = .int j) (ex : x = .ref p) (e' : ixV vs j M = Res.ok v' M'),
      wpAny (model X.prog X.w) X.A (PyProof.Rows.subscriptTail value slice v u) (EP X pins σ Q) X.xe s := fun {vs p xs} hv hq {j} ej ex e' => by
    subst ej ex
    cases rb
    cases e1 : ixOf j vs.length with
    | none => simp [ixV, e1] at e'
    | some m =>
      have e' : ofO vs[m]? M = .ok v' M' := by simpa [ixV, e1] using e'
      obtain ⟨e2, rfl⟩ := ofO_ok e'
      obtain ⟨z, hz, rz⟩ := hv.atI e1 e2
      refine ix_seq value slice pins s σ H _ _ v u Q I rx ry ?_ hs
      rcases hq with hq | hq
      · exact .inl ⟨p, xs, j, z, rfl, rfl, by rw [wa.K]; exact hq, hz, k.here r rz⟩
      · exact .inr (.inl ⟨p, xs, j, z, rfl, rfl, by rw [wa.K]; exact hq, hz, k.here r rz⟩)
  cases ra with
  | tup h1 h2 =>
    cases b with
    | int j => exact fin h2 (.inr h1) rfl rfl e
    | _ => cases e
  | str z =>
    cases b with
    | int j =>
      cases rb
      dsimp only [subs] at e
      split at e
      · rename_i k0 e0
        split at e0
        · rename_i hz
          obtain ⟨e2, rfl⟩ := ofO_ok e
          cases e3 : z.cps[k0]? with
          | none => rw [e3] at e2; cases e2
          | some c =>
            rw [e3] at e2
            cases e2
            refine ix_str value slice pins s σ H _ _ v u Q I rx ry ⟨z, j, c, rfl, rfl, hz, ?_, k.here r (.str _)⟩ hs
            unfold L2.atI
            have hl : z.cps.toList.length = z.length := by simp [Str.length]
            rw [hl, ← ixOf_eq, e0]
            show z.cps.toList[k0]? = some c
            rw [Array.getElem?_toList]
            exact e3
        · cases e0
      · cases e
    | _ => cases e
  | ref ha =>
    rename_i n p
    cases em : M[n]? with
    | none => simp [subs, em] at e
    | some o =>
      cases o with
      | lst vs =>
        cases b with
        | int j =>
          obtain ⟨xs, g1, g2⟩ := r.seqL (.inl em) ha
          exact fin g2 (.inl g1) rfl rfl (by simpa [subs, em] using e)
        | _ => simp [subs, em] at e
      | rol vs =>
        cases b with
        | int j =>
          obtain ⟨xs, g1, g2⟩ := r.seqL (.inr em) ha
          exact fin g2 (.inl g1) rfl rfl (by simpa [subs, em] using e)
        | _ => simp [subs, em] at e
      | dct kvs =>
        have e : chk (fits kvs b) (ofO (dget kvs b) M) = .ok v' M' := by simpa [subs, em] using e
        obtain ⟨f, e⟩ := chk_ok e
        obtain ⟨e2, rfl⟩ := ofO_ok e
        have ro := r.obj n _ p em ha
        cases rx
        exact PyProof.Rows.tail_any (dct_type wa I ro) PySem.F.slot_dict_getitem.lookup (dct_get wa hu I ro f rb ry e2 fun vv w' s' I' rv' rw' => ⟨vv, H, I', rw', k.here r rv'⟩) hs
      | ins C fs => simp [subs, em] at e
  | _ => cases e
/-! ### slices -/
theorem RVs.cut {φ : List Addr} {H : Hp} {vs : List Val} {us : List V} (h : RVs W φ H vs us) (lo hi : Option Int) : RVs W φ H (Mn.cut vs lo hi) (cutV us lo hi) := by
  unfold Mn.cut cutV
  rw [h.length]
  exact (h.drop _).take _
theorem cut_all {α : Type} {vs : List α} {lo hi : Option Int} (h : HT.sIx vs.length 0 lo = 0 ∧ HT.sIx vs.length vs.length hi = vs.length) : Mn.cut vs lo hi = vs := by
  unfold Mn.cut
  rw [h.1, h.2]
  simp
def lS (W : Wo) : V → Option Int → Option Int → Hp → VK → Prop := fun x l h H Q => ∃ φ M a v M', RM W φ M H ∧ RV W φ H a x ∧ sliceB a l h M = .ok v M' ∧ Kont W φ H v M' Q
theorem sl_ok (wa : At W X) : SlR X (lS W) := by
  intro pins s σ H x v vl vu lo hi sl Q I rx hs pl pu h
  obtain ⟨φ, M, a, v', M', r, ra, e, k⟩ := h
  cases ra with
  | tup h1 h2 =>
    cases e
    refine sl_tupA pins s σ H _ v vl vu lo hi sl Q I rx hs pl pu ⟨_, _, rfl, by rw [wa.K]; exact h1, fun hw => ?_, fun hw p hp => k.tup r (h2.cut lo hi) hp⟩
    rw [← h2.length] at hw
    rw [cut_all hw] at k
    exact k.here r (.tup h1 h2)
  | ref ha =>
    rename_i n p
    have fin : ∀ {vs : List Val}, (M[n]? = some (.lst vs) ∨ M[n]? = some (.rol vs)) → new (.lst (cut vs lo hi)) M = .ok v' M' →
        ∃ T id, typeLookup (.type T) "__getitem__" = pure (some (.builtin id)) ∧ s.TypeIs v T ∧ wpAny (model X.prog X.w) X.A (getItem v (.ref sl)) (EP X pins σ Q) X.xe s := fun {vs} hm e => by
      cases e
      obtain ⟨xs, g1, g2⟩ := r.seqL hm ha
      exact sl_list pins s σ H _ v vl vu lo hi sl Q I rx hs pl pu ⟨p, xs, rfl, by rw [wa.K]; exact g1, fun q hq => k.new r hq rfl ⟨_, upd_same, (g2.cut lo hi).mono (Ext.new hq)⟩⟩
    cases em : M[n]? with
    | none => simp [sliceB, em] at e
    | some o =>
      cases o with
      | lst vs => exact fin (.inl em) (by simpa [sliceB, em] using e)
      | rol vs => exact fin (.inr em) (by simpa [sliceB, em] using e)
      | dct kvs => simp [sliceB, em] at e
      | ins C fs => simp [sliceB, em] at e
  | _ => cases e
end
end Mn
end -- Sd8
section -- Sd9
set_option linter.all false
set_option autoImplicit false
set_option maxRecDepth 100000
namespace Mn
open PySem L2
section
variable {X : Cx} {W : Wo}
theorem RVs.one {φ : List Addr} {H : Hp} {vs : List Val} {v : Val} {xs : List V} (h : RVs W φ H [v] xs) : ∃ u, xs = [u] ∧ RV W φ H v u := by
  cases h with
  | cons r rs => cases rs; exact ⟨_, rfl, r⟩
theorem RVs.two {φ : List Addr} {H : Hp} {v w : Val} {xs : List V} (h : RVs W φ H [v, w] xs) : ∃ u z, xs = [u, z] ∧ RV W φ H v u ∧ RV W φ H w z := by
  cases h with
  | cons r rs =>
    cases rs with
    | cons r2 rs => cases rs; exact ⟨_, _, rfl, r, r2⟩
theorem RM.lstOf {φ : List Addr} {M : Mem} {H : Hp} (r : RM W φ M H) {v : Val} {u : V} {vs : List Val} (h : Mn.lstOf M v = some vs) (rv : RV W φ H v u) : ∃ a xs, u = .ref a ∧ SqL W.K H a xs ∧ RVs W φ H vs xs := by
  cases rv with
  | ref ha =>
    rename_i n a
    dsimp only [Mn.lstOf] at h
    cases e : M[n]? with
    | none => rw [e] at h; cases h
    | some o =>
      rw [e] at h
      cases o with
      | lst ws => cases h; obtain ⟨xs, h1, h2⟩ := r.seqL (.inl e) ha; exact ⟨a, xs, rfl, h1, h2⟩
      | rol ws => cases h; obtain ⟨xs, h1, h2⟩ := r.seqL (.inr e) ha; exact ⟨a, xs, rfl, h1, h2⟩
      | dct kvs => cases h
      | ins C fs => cases h
  | _ => cases h
theorem ints_map {φ : List Addr} {H : Hp} : ∀ {vs : List Val} {is : List Int} {xs : List V}, intsOf vs = some is → RVs W φ H vs xs → xs = is.map V.int
  | [], _, _, h, .nil => by cases h; rfl
  | v :: vs, is, _, h, .cons r rs => by
    cases v with
    | int i =>
      simp only [intsOf] at h
      cases e : intsOf vs with
      | none => rw [e] at h; cases h
      | some js =>
        rw [e] at h
        cases h
        cases r
        rw [ints_map e rs]
        rfl
    | _ => cases h
theorem bools_map {φ : List Addr} {H : Hp} : ∀ {vs : List Val} {is : List Bool} {xs : List V}, boolsOf vs = some is → RVs W φ H vs xs → xs = is.map V.bl
  | [], _, _, h, .nil => by cases h; rfl
  | v :: vs, is, _, h, .cons r rs => by
    cases v with
    | bl i =>
      simp only [boolsOf] at h
      cases e : boolsOf vs with
      | none => rw [e] at h; cases h
      | some js =>
        rw [e] at h
        cases h
        cases r
        rw [bools_map e rs]
        rfl
    | _ => cases h
theorem call_sum_ok (wa : At W X) (hc : X.calm = true) : CallR X (.builtin "sum") (lX W (bcall .sum)) := by
  intro pins s σ H xs us Q I r0 h
  obtain ⟨φ, M, as, v, M', r, ra, e, k⟩ := h
  match as, ra, e with
  | [x], ra, e =>
    obtain ⟨u, rfl, ru⟩ := RVs.one (vs := []) ra
    have e : (match Mn.lstOf M x with | some vs => ofO ((intsOf vs).map fun (is : List Int) => Val.int is.sum) M | none => .stuck) = .ok v M' := e
    cases e1 : Mn.lstOf M x with
    | none => rw [e1] at e; cases e
    | some vs =>
      rw [e1] at e
      obtain ⟨e2, rfl⟩ := ofO_ok e
      cases e3 : intsOf vs with
      | none => rw [e3] at e2; cases e2
      | some is =>
        rw [e3] at e2
        cases e2
        obtain ⟨a, ys, rfl, h1, h2⟩ := r.lstOf e1 ru
        have z := ints_map e3 h2
        subst z
        exact cr_sum hc pins s σ H _ us Q I r0 ⟨a, is, rfl, by rw [wa.K]; exact h1, k.here r (.int _)⟩
  | [], _, e => cases e
  | _ :: _ :: _, _, e => cases e
theorem call_all_ok (wa : At W X) (hc : X.calm = true) : CallR X (.builtin "all") (lX W (bcall .all)) := by
  intro pins s σ H xs us Q I r0 h
  obtain ⟨φ, M, as, v, M', r, ra, e, k⟩ := h
  match as, ra, e with
  | [x], ra, e =>
    obtain ⟨u, rfl, ru⟩ := RVs.one (vs := []) ra
    have e : (match Mn.lstOf M x with | some vs => ofO ((boolsOf vs).map fun (is : List Bool) => Val.bl (is.all id)) M | none => .stuck) = .ok v M' := e
    cases e1 : Mn.lstOf M x with
    | none => rw [e1] at e; cases e
    | some vs =>
      rw [e1] at e
      obtain ⟨e2, rfl⟩ := ofO_ok e
      cases e3 : boolsOf vs with
      | none => rw [e3] at e2; cases e2
      | some is =>
        rw [e3] at e2
        cases e2
        obtain ⟨a, ys, rfl, h1, h2⟩ := r.lstOf e1 ru
        have z := bools_map e3 h2
        subst z
        exact cr_all hc pins s σ H _ us Q I r0 ⟨a, is, rfl, by rw [wa.K]; exact h1, k.here r (.bl _)⟩
  | [], _, e => cases e
  | _ :: _ :: _, _, e => cases e
theorem call_any_ok (wa : At W X) (hc : X.calm = true) : CallR X (.builtin "any") (lX W (bcall .any)) := by
  intro pins s σ H xs us Q I r0 h
  obtain ⟨φ, M, as, v, M', r, ra, e, k⟩ := h
  match as, ra, e with
  | [x], ra, e =>
    obtain ⟨u, rfl, ru⟩ := RVs.one (vs := []) ra
    have e : (match Mn.lstOf M x with | some vs => ofO ((boolsOf vs).map fun (is : List Bool) => Val.bl (is.any id)) M | none => .stuck) = .ok v M' := e
    cases e1 : Mn.lstOf M x with
    | none => rw [e1] at e; cases e
    | some vs =>
      rw [e1] at e
      obtain ⟨e2, rfl⟩ := ofO_ok e
      cases e3 : boolsOf vs with
      | none => rw [e3] at e2; cases e2
      | some is =>
        rw [e3] at e2
        cases e2
        obtain ⟨a, ys, rfl, h1, h2⟩ := r.lstOf e1 ru
        have z := bools_map e3 h2
        subst z
        exact cr_any hc pins s σ H _ us Q I r0 ⟨a, is, rfl, by rw [wa.K]; exact h1, k.here r (.bl _)⟩
  | [], _, e => cases e
  | _ :: _ :: _, _, e => cases e
theorem call_abs_ok : CallR X (.builtin "abs") (lX W (bcall .abs)) := by
  intro pins s σ H xs us Q I r0 h
  obtain ⟨φ, M, as, v, M', r, ra, e, k⟩ := h
  match as, ra, e with
  | [.int i], ra, e =>
    obtain ⟨u, rfl, ru⟩ := RVs.one (vs := []) ra
    cases ru
    cases e
    exact call_abs pins s σ H _ us Q I r0 ⟨i, rfl, k.here r (.int _)⟩
theorem call_int_ok : CallR X (.type "int") (lX W (bcall .int)) := by
  intro pins s σ H xs us Q I r0 h
  obtain ⟨φ, M, as, v, M', r, ra, e, k⟩ := h
  match as, ra, e with
  | [.int i], ra, e =>
    obtain ⟨u, rfl, ru⟩ := RVs.one (vs := []) ra
    cases ru
    cases e
    exact call_int1 pins s σ H _ us Q I r0 (.inl ⟨i, rfl, k.here r (.int _)⟩)
  | [.bl i], ra, e =>
    obtain ⟨u, rfl, ru⟩ := RVs.one (vs := []) ra
    cases ru
    cases e
    exact call_int1 pins s σ H _ us Q I r0 (.inr ⟨i, rfl, k.here r (.int _)⟩)
theorem call_str_ok : CallR X (.type "str") (lX W (bcall .str)) := by
  intro pins s σ H xs us Q I r0 h
  obtain ⟨φ, M, as, v, M', r, ra, e, k⟩ := h
  match as, ra, e with
  | [.int i], ra, e =>
    obtain ⟨u, rfl, ru⟩ := RVs.one (vs := []) ra
    cases ru
    obtain ⟨c, e⟩ := chk_ok e
    cases e
    exact call_str_int pins s σ H _ us Q I r0 ⟨i, rfl, of_decide_eq_true c, k.here r (.str _)⟩
theorem call_len_ok (wa : At W X) (hu : X.A.units + 64 < cLine) : CallR X (.builtin "len") (lX W (bcall .len)) := by
  intro pins s σ H xs us Q I r0 h
  obtain ⟨φ, M, as, v, M', r, ra, e, k⟩ := h
  match as, ra, e with
  | [x], ra, e =>
    obtain ⟨u, rfl, ru⟩ := RVs.one (vs := []) ra
    have e : ofO ((lenOf M x).map fun n => Val.int n) M = .ok v M' := e
    obtain ⟨e2, rfl⟩ := ofO_ok e
    cases e3 : lenOf M x with
    | none => rw [e3] at e2; cases e2
    | some n =>
      rw [e3] at e2
      cases e2
      cases ru with
      | tup h1 h2 =>
        cases e3
        rw [h2.length] at k
        exact call_len_seq pins s σ H _ us Q I r0 ⟨_, _, rfl, .inr (by rw [wa.K]; exact h1), k.here r (.int _)⟩
      | str z =>
        simp only [lenOf] at e3
        split at e3
        · cases e3
          exact call_len_str pins s σ H _ us Q I r0 ⟨z, rfl, by assumption, k.here r (.int _)⟩
        · cases e3
      | @ref m a ha =>
        cases em : M[m]? with
        | none => simp [lenOf, em] at e3
        | some o =>
          cases o with
          | lst vs =>
            obtain ⟨ys, h1, h2⟩ := r.seqL (.inl em) ha
            have e3 : some vs.length = some n := by simpa [lenOf, em] using e3
            cases e3
            rw [h2.length] at k
            exact call_len_seq pins s σ H _ us Q I r0 ⟨_, _, rfl, .inl (by rw [wa.K]; exact h1), k.here r (.int _)⟩
          | rol vs =>
            obtain ⟨ys, h1, h2⟩ := r.seqL (.inr em) ha
            have e3 : some vs.length = some n := by simpa [lenOf, em] using e3
            cases e3
            rw [h2.length] at k
            exact call_len_seq pins s σ H _ us Q I r0 ⟨_, _, rfl, .inl (by rw [wa.K]; exact h1), k.here r (.int _)⟩
          | dct kvs =>
            have e3 : kvs.length = n := by simpa [lenOf, em] using e3
            subst e3
            cases r0 with
            | cons r1 r2 =>
              cases r2
              cases r1
              rcases r.obj m _ a em ha with ⟨hl, kk, h1, h2⟩ | z
              · rw [Paired.length h2] at k
                exact d_len I (.inl h1) fun t s' I' => ⟨.int _, H, I', ⟨t, rfl⟩, k.here r (.int _)⟩
              · have hz := z.sz
                obtain ⟨xs, g1, g2, g3, _⟩ := z.dict wa I
                rw [Paired.length g1] at k hz
                rw [sizeLine_eq] at hz
                rw [← wa.prog, ← wa.w] at g2
                exact call_len_dictH g3 g2 (by omega) ⟨.int _, H, I.tok _, ⟨_, rfl⟩, k.here r (.int _)⟩
          | ins C fs => simp [lenOf, em] at e3
      | _ => cases e3
  | [], _, e => cases e
  | _ :: _ :: _, _, e => cases e
end
end Mn
end -- Sd9
section -- Sd10
set_option linter.all false
set_option autoImplicit false
set_option maxRecDepth 100000
namespace Mn
open PySem L2
abbrev rn : Nat → Option PyData := fun _ => none
mutual
theorem dat_inj : ∀ (v w : Val) (d : PyData), dat rn v = some d → dat rn w = some d → v = w
  | .non, w, _, h, g => by
    cases h
    cases w with
    | non => rfl
    | tup ws => simp only [dat] at g; cases e : dats rn ws <;> (rw [e] at g; cases g)
    | _ => cases g
  | .bl b, w, _, h, g => by
    cases h
    cases w with
    | bl c => cases g; rfl
    | tup ws => simp only [dat] at g; cases e : dats rn ws <;> (rw [e] at g; cases g)
    | _ => cases g
  | .int i, w, _, h, g => by
    cases h
    cases w with
    | int c => cases g; rfl
    | tup ws => simp only [dat] at g; cases e : dats rn ws <;> (rw [e] at g; cases g)
    | _ => cases g
  | .str i, w, _, h, g => by
    cases h
    cases w with
    | str c => cases g; rfl
    | tup ws => simp only [dat] at g; cases e : dats rn ws <;> (rw [e] at g; cases g)
    | _ => cases g
  | .tup vs, w, d, h, g => by
    simp only [dat] at h
    cases e : dats rn vs with
    | none => rw [e] at h; cases h
    | some ds =>
      rw [e] at h
      cases h
      cases w with
      | tup ws =>
        simp only [dat] at g
        cases e2 : dats rn ws with
        | none => rw [e2] at g; cases g
        | some es =>
          rw [e2] at g
          cases g
          rw [dats_inj vs ws ds e e2]
      | _ => cases g
  | .ref _, _, _, h, _ => by cases h
  | .ty _, _, _, h, _ => by cases h
  | .glo _, _, _, h, _ => by cases h
theorem dats_inj : ∀ (vs ws : List Val) (ds : List PyData), dats rn vs = some ds → dats rn ws = some ds → vs = ws
  | [], ws, _, h, g => by
    cases h
    cases ws with
    | nil => rfl
    | cons w ws =>
      simp only [dats] at g
      cases e1 : dat rn w <;> cases e2 : dats rn ws <;> (rw [e1, e2] at g; cases g)
  | v :: vs, ws, ds, h, g => by
    simp only [dats] at h
    cases e1 : dat rn v with
    | none => rw [e1] at h; cases h
    | some d =>
      cases e2 : dats rn vs with
      | none => rw [e1, e2] at h; cases h
      | some es =>
        rw [e1, e2] at h
        cases h
        cases ws with
        | nil => cases g
        | cons w ws =>
          simp only [dats] at g
          cases f1 : dat rn w with
          | none => rw [f1] at g; cases g
          | some d' =>
            cases f2 : dats rn ws with
            | none => rw [f1, f2] at g; cases g
            | some es' =>
              rw [f1, f2] at g
              cases g
              rw [dat_inj v w d e1 f1, dats_inj vs ws es e2 f2]
end
theorem dats_all : ∀ {vs : List Val} {ds : List PyData}, dats rn vs = some ds → ds = vs.map pd ∧ ∀ v ∈ vs, dat rn v = some (pd v)
  | [], _, h => by cases h; exact ⟨rfl, fun v hv => by cases hv⟩
  | v :: vs, ds, h => by
    simp only [dats] at h
    cases e1 : dat rn v with
    | none => rw [e1] at h; cases h
    | some d =>
      cases e2 : dats rn vs with
      | none => rw [e1, e2] at h; cases h
      | some es =>
        rw [e1, e2] at h
        cases h
        obtain ⟨h1, h2⟩ := dats_all e2
        have hp : pd v = d := by unfold pd; rw [show dat (fun _ => none) v = dat rn v from rfl, e1]; rfl
        refine ⟨by rw [List.map_cons, hp, ← h1], fun w hw => ?_⟩
        rcases List.mem_cons.mp hw with rfl | hw
        · rw [hp]; exact e1
        · exact h2 w hw
mutual
/-- pure data are the same, however references read -/
theorem dat_pure : ∀ (v : Val) (d : PyData) (rd : Nat → Option PyData), dat rn v = some d → dat rd v = some d
  | .non, _, _, h => h
  | .bl _, _, _, h => h
  | .int _, _, _, h => h
  | .str _, _, _, h => h
  | .tup vs, d, rd, h => by
    simp only [dat] at h ⊢
    cases e : dats rn vs with
    | none => rw [e] at h; cases h
    | some ds => rw [e] at h; cases h; rw [dats_pure vs ds rd e]; rfl
  | .ref _, _, _, h => by cases h
  | .ty _, _, _, h => by cases h
  | .glo _, _, _, h => by cases h
theorem dats_pure : ∀ (vs : List Val) (ds : List PyData) (rd : Nat → Option PyData), dats rn vs = some ds → dats rd vs = some ds
  | [], _, _, h => h
  | v :: vs, ds, rd, h => by
    simp only [dats] at h ⊢
    cases e1 : dat rn v with
    | none => rw [e1] at h; cases h
    | some d =>
      cases e2 : dats rn vs with
      | none => rw [e1, e2] at h; cases h
      | some es =>
        rw [e1, e2] at h
        cases h
        rw [dat_pure v d rd e1, dats_pure vs es rd e2]
end
theorem sortable_alike {ds : List PyData} (h : sortable ds = true) : PySem.W.AllAlike ds ∧ PySem.W.Sortable ds ∧ (∀ d ∈ ds, SeqAt.shaped d = true) ∧ (∀ d ∈ ds, d ≠ .none) := by
  unfold sortable at h
  simp only [Bool.and_eq_true, Bool.or_eq_true, List.all_eq_true] at h
  obtain ⟨⟨h1, h2⟩, h3⟩ := h
  refine ⟨fun d hd d' hd' => h1 d hd d' hd', ?_, h2, fun d hd => ?_⟩
  · rcases h3 with h3 | h3
    · refine .inl fun d hd => ?_
      have z := h3 d hd
      split at z
      · exact ⟨_, _, rfl⟩
      · cases z
    · refine .inr fun d hd => ?_
      have z := h3 d hd
      refine ⟨fun e => ?_, fun xs e => ?_⟩ <;> (subst e; cases z)
  · rcases h3 with h3 | h3
    · have z := h3 d hd
      split at z
      · intro e; cases e
      · cases z
    · have z := h3 d hd
      intro e; subst e; cases z
theorem depthAll_le : ∀ {ds : List PyData}, (∀ d ∈ ds, SeqAt.shaped d = true) → PyData.depthAll ds ≤ 64
  | [], _ => Nat.zero_le _
  | d :: ds, h => by
    have h1 := SeqAt.depth_of_shaped (h d List.mem_cons_self)
    have h2 := depthAll_le (ds := ds) fun e he => h e (List.mem_cons_of_mem _ he)
    show max d.depth (PyData.depthAll ds) ≤ 64
    omega
theorem vmin_pd (v : Val) : ∀ vs : List Val, pd (vs.foldl (fun m x => if PySem.W.dataLt (pd x) (pd m) then x else m) v) = PySem.W.minD (pd v) (vs.map pd) ∧ (vs.foldl (fun m x => if PySem.W.dataLt (pd x) (pd m) then x else m) v) ∈ v :: vs := by
  intro vs
  induction vs generalizing v with
  | nil => exact ⟨rfl, List.mem_cons_self⟩
  | cons x vs ih =>
    obtain ⟨h1, h2⟩ := ih (if PySem.W.dataLt (pd x) (pd v) then x else v)
    refine ⟨?_, ?_⟩
    · rw [List.foldl_cons, h1]
      unfold PySem.W.minD
      rw [List.map_cons, List.foldl_cons]
      congr 1
      split <;> rfl
    · rw [List.foldl_cons]
      rcases List.mem_cons.mp h2 with h2 | h2
      · rw [h2]; split
        · exact List.mem_cons_of_mem _ List.mem_cons_self
        · exact List.mem_cons_self
      · exact List.mem_cons_of_mem _ (List.mem_cons_of_mem _ h2)
theorem vmax_pd (v : Val) : ∀ vs : List Val, pd (vs.foldl (fun m x => if PySem.W.dataLt (pd m) (pd x) then x else m) v) = PySem.W.maxD (pd v) (vs.map pd) ∧ (vs.foldl (fun m x => if PySem.W.dataLt (pd m) (pd x) then x else m) v) ∈ v :: vs := by
  intro vs
  induction vs generalizing v with
  | nil => exact ⟨rfl, List.mem_cons_self⟩
  | cons x vs ih =>
    obtain ⟨h1, h2⟩ := ih (if PySem.W.dataLt (pd v) (pd x) then x else v)
    refine ⟨?_, ?_⟩
    · rw [List.foldl_cons, h1]
      unfold PySem.W.maxD
      rw [List.map_cons, List.foldl_cons]
      congr 1
      split <;> rfl
    · rw [List.foldl_cons]
      rcases List.mem_cons.mp h2 with h2 | h2
      · rw [h2]; split
        · exact List.mem_cons_of_mem _ List.mem_cons_self
        · exact List.mem_cons_self
      · exact List.mem_cons_of_mem _ (List.mem_cons_of_mem _ h2)
section
variable {X : Cx} {W : Wo}
theorem ReadsAllOf (wa : At W X) {φ : List Addr} {M : Mem} {H : Hp} {pins : List (Addr × PySem.Obj)} {σ : L2.St} {s : Shared} (I : Inv X pins σ H s) (r : RM W φ M H) {vs : List Val} {us : List V} {ds : List PyData} {xs : List Value} (h : RVs W φ H vs us) (e : dats rn vs = some ds) (rx : Vals us xs) : ∃ as, ReadsAll s.heap xs ds as :=
  Dp.readsAll I ds us xs (by rw [wa.K]; exact datsM_dp r h (dats_pure vs ds _ e)) rx
/-- the item that min, max hand back -/
theorem best_item (wa : At W X) {φ : List Addr} {M : Mem} {H : Hp} {pins : List (Addr × PySem.Obj)} {σ : L2.St} {s : Shared} (I : Inv X pins σ H s) (r : RM W φ M H) {vs : List Val} {us : List V} {xs : List Value} {best : Val} (h : RVs W φ H vs us) (rx : Vals us xs)
    (hp : ∀ v ∈ vs, dat rn v = some (pd v)) (hal : ∀ v ∈ vs, ∀ w ∈ vs, PySem.W.alike (pd v) (pd w) = true) (hb : best ∈ vs) {i : Nat} {x : Value} {h' : Heap} {bs : List Addr} (hi : xs[i]? = some x) (hk : ∀ b o, s.heap.get? b = some o → h'.get? b = some o) (hr : Reads h' x (pd best) bs) :
    ∃ u, RelV u x ∧ RV W φ H best u := by
  have hlt : i < vs.length := by
    have := (List.getElem?_eq_some_iff.mp hi).1
    rw [h.length, Paired.length rx]; exact this
  have hv : vs[i]? = some vs[i] := List.getElem?_eq_getElem hlt
  obtain ⟨u, hu, ru⟩ := h.get hv
  obtain ⟨x', hx', rux⟩ := rx.get hu
  rw [hi] at hx'
  cases hx'
  have mem : vs[i] ∈ vs := List.getElem_mem hlt
  obtain ⟨as, r1⟩ := ReadsOf wa I r ru (dat_pure _ _ _ (hp _ mem)) rux
  have e : pd vs[i] = pd best := PySem.W.alike_unique _ _ _ _ _ (hal _ mem _ hb) (PySem.W.reads_keeps hk r1) hr
  have e2 : vs[i] = best := dat_inj _ _ _ (hp _ mem) (by rw [e]; exact hp _ hb)
  exact ⟨u, rux, by rw [← e2]; exact ru⟩
theorem alikes_ok {vs : List Val} (h : alikes vs = true) : ∃ ds, dats rn vs = some ds ∧ sortable ds = true := by
  unfold alikes at h
  split at h
  · exact ⟨_, by assumption, h⟩
  · cases h
theorem call_min_ok (wa : At W X) (hc : X.calm = true) (hu : X.A.units + 80 < cLine) : CallR X (.builtin "min") (lX W (bcall .min)) := by
  intro pins s σ H xs us Q I r0 h
  obtain ⟨φ, M, as, v, M', r, ra, e, k⟩ := h
  match as, ra, e with
  | [x], ra, e =>
    obtain ⟨u, rfl, ru⟩ := RVs.one (vs := []) ra
    have e : (match seqOf M x with | some vs => chk (alikes vs) (ofO (vmin vs) M) | none => .stuck) = .ok v M' := e
    cases e1 : seqOf M x with
    | none => rw [e1] at e; cases e
    | some vs =>
      rw [e1] at e
      obtain ⟨c, e⟩ := chk_ok e
      obtain ⟨e2, rfl⟩ := ofO_ok e
      cases vs with
      | nil => cases e2
      | cons v0 vs =>
        obtain ⟨a, ys, rfl, h1, h2⟩ := r.seq e1 ru
        obtain ⟨ds, hd, hs⟩ := alikes_ok c
        obtain ⟨z1, z2⟩ := dats_all hd
        obtain ⟨s1, s2, s3, s4⟩ := sortable_alike hs
        obtain ⟨m1, m2⟩ := vmin_pd v0 vs
        cases r0 with
        | cons q0 q1 =>
          cases q1
          cases q0
          have e3 : v = vs.foldl (fun m x => if PySem.W.dataLt (pd x) (pd m) then x else m) v0 := (Option.some.inj e2).symm
          rw [← e3] at m1 m2
          subst z1
          rw [List.map_cons] at hd s1 s3 s4
          have hal : ∀ v ∈ v0 :: vs, ∀ w ∈ v0 :: vs, PySem.W.alike (pd v) (pd w) = true := fun v hv w hw => s1 _ (List.mem_map_of_mem (f := pd) hv) _ (List.mem_map_of_mem (f := pd) hw)
          have hroom : X.A.units + 1 + PyData.depthAll (pd v0 :: vs.map pd) < cLine := by have := depthAll_le s3; omega
          rcases h1 with h1 | h1
          · obtain ⟨its, rv, hl, _⟩ := I.list (by rw [wa.K]; exact h1)
            obtain ⟨as, hR⟩ := ReadsAllOf wa I r h2 hd rv
            refine PySem.W.min_list_data (I.ok.hd hc) hl.isList (by simpa using hR) ⟨fun x hx y hy => s1 x hx y hy, s4⟩ hroom fun i x h' tk bs hi hr hk => ?_
            obtain ⟨u, g1, g2⟩ := best_item wa I r h2 rv z2 hal m2 (by simpa using hi) hk (by rw [m1]; exact hr)
            exact ⟨u, H, I.kept hk, g1, k.here r g2⟩
          · obtain ⟨its, rv, hl, _⟩ := I.tuple (by rw [wa.K]; exact h1)
            obtain ⟨as, hR⟩ := ReadsAllOf wa I r h2 hd rv
            refine PySem.W.min_tuple_data (I.ok.hd hc) hl (by simpa using hR) ⟨fun x hx y hy => s1 x hx y hy, s4⟩ hroom fun i x h' tk bs hi hr hk => ?_
            obtain ⟨u, g1, g2⟩ := best_item wa I r h2 rv z2 hal m2 (by simpa using hi) hk (by rw [m1]; exact hr)
            exact ⟨u, H, I.kept hk, g1, k.here r g2⟩
  | [x, y], ra, e =>
    obtain ⟨u, z, rfl, ru, rz⟩ := RVs.two ra
    cases ru with
    | int i =>
      cases rz with
      | int j => cases e; exact call_min2 hc pins s σ H _ us Q I r0 ⟨i, j, rfl, k.here r (.int _)⟩
      | _ => cases e
    | _ => cases e
  | [], _, e => cases e
  | _ :: _ :: _ :: _, _, e => cases e
theorem call_max_ok (wa : At W X) (hc : X.calm = true) (hu : X.A.units + 80 < cLine) : CallR X (.builtin "max") (lX W (bcall .max)) := by
  intro pins s σ H xs us Q I r0 h
  obtain ⟨φ, M, as, v, M', r, ra, e, k⟩ := h
  match as, ra, e with
  | [x], ra, e =>
    obtain ⟨u, rfl, ru⟩ := RVs.one (vs := []) ra
    have e : (match seqOf M x with | some vs => chk (alikes vs) (ofO (vmax vs) M) | none => .stuck) = .ok v M' := e
    cases e1 : seqOf M x with
    | none => rw [e1] at e; cases e
    | some vs =>
      rw [e1] at e
      obtain ⟨c, e⟩ := chk_ok e
      obtain ⟨e2, rfl⟩ := ofO_ok e
      cases vs with
      | nil => cases e2
      | cons v0 vs =>
        obtain ⟨a, ys, rfl, h1, h2⟩ := r.seq e1 ru
        obtain ⟨ds, hd, hs⟩ := alikes_ok c
        obtain ⟨z1, z2⟩ := dats_all hd
        obtain ⟨s1, s2, s3, s4⟩ := sortable_alike hs
        obtain ⟨m1, m2⟩ := vmax_pd v0 vs
        cases r0 with
        | cons q0 q1 =>
          cases q1
          cases q0
          have e3 : v = vs.foldl (fun m x => if PySem.W.dataLt (pd m) (pd x) then x else m) v0 := (Option.some.inj e2).symm
          rw [← e3] at m1 m2
          subst z1
          rw [List.map_cons] at hd s1 s3 s4
          have hal : ∀ v ∈ v0 :: vs, ∀ w ∈ v0 :: vs, PySem.W.alike (pd v) (pd w) = true := fun v hv w hw => s1 _ (List.mem_map_of_mem (f := pd) hv) _ (List.mem_map_of_mem (f := pd) hw)
          have hroom : X.A.units + 1 + PyData.depthAll (pd v0 :: vs.map pd) < cLine := by have := depthAll_le s3; omega
          rcases h1 with h1 | h1
          · obtain ⟨its, rv, hl, _⟩ := I.list (by rw [wa.K]; exact h1)
            obtain ⟨as, hR⟩ := ReadsAllOf wa I r h2 hd rv
            refine PySem.W.max_list_data (I.ok.hd hc) hl.isList (by simpa using hR) ⟨fun x hx y hy => s1 x hx y hy, s4⟩ hroom fun i x h' tk bs hi hr hk => ?_
            obtain ⟨u, g1, g2⟩ := best_item wa I r h2 rv z2 hal m2 (by simpa using hi) hk (by rw [m1]; exact hr)
            exact ⟨u, H, I.kept hk, g1, k.here r g2⟩
          · obtain ⟨its, rv, hl, _⟩ := I.tuple (by rw [wa.K]; exact h1)
            obtain ⟨as, hR⟩ := ReadsAllOf wa I r h2 hd rv
            refine PySem.W.max_tuple_data (I.ok.hd hc) hl (by simpa using hR) ⟨fun x hx y hy => s1 x hx y hy, s4⟩ hroom fun i x h' tk bs hi hr hk => ?_
            obtain ⟨u, g1, g2⟩ := best_item wa I r h2 rv z2 hal m2 (by simpa using hi) hk (by rw [m1]; exact hr)
            exact ⟨u, H, I.kept hk, g1, k.here r g2⟩
  | [x, y], ra, e =>
    obtain ⟨u, z, rfl, ru, rz⟩ := RVs.two ra
    cases ru with
    | int i =>
      cases rz with
      | int j => cases e; exact call_max2 hc pins s σ H _ us Q I r0 ⟨i, j, rfl, k.here r (.int _)⟩
      | _ => cases e
    | _ => cases e
  | [], _, e => cases e
  | _ :: _ :: _ :: _, _, e => cases e
end
end Mn
end -- Sd10
section -- Sd11
set_option linter.all false
set_option autoImplicit false
set_option maxRecDepth 100000
namespace Mn
open PySem L2
section
variable {X : Cx} {W : Wo}
theorem mergeSort_mem {α : Type} {le : α → α → Bool} {l : List α} {a : α} (h : a ∈ l.mergeSort le) : a ∈ l := (List.mergeSort_perm l le).mem_iff.mp h
/-- items that go together, one by one -/
theorem each_of {φ : List Addr} {H : Hp} : ∀ {vs : List Val} {us : List V} {xs : List Value}, RVs W φ H vs us → Vals us xs → PySem.W.EachIs (fun x v => ∃ u, RV W φ H v u ∧ RelV u x) xs vs
  | _, _, _, .nil, .nil => .nil
  | _, _, _, .cons r rs, .cons q qs => .cons ⟨_, r, q⟩ (each_of rs qs)
theorem each_back {φ : List Addr} {H : Hp} : ∀ {vs : List Val} {xs : List Value}, PySem.W.EachIs (fun x v => ∃ u, RV W φ H v u ∧ RelV u x) xs vs → ∃ us, RVs W φ H vs us ∧ Vals us xs
  | _, _, .nil => ⟨[], .nil, .nil⟩
  | _, _, .cons ⟨u, r, q⟩ hs => let ⟨us, rs, qs⟩ := each_back hs; ⟨u :: us, .cons r rs, .cons q qs⟩
theorem each_reads (wa : At W X) {φ : List Addr} {M : Mem} {H : Hp} {pins : List (Addr × PySem.Obj)} {σ : L2.St} {s : Shared} (I : Inv X pins σ H s) (r : RM W φ M H) : ∀ {vs : List Val} {us : List V} {xs : List Value}, RVs W φ H vs us → Vals us xs → (∀ v ∈ vs, dat rn v = some (pd v)) →
    PySem.W.EachIs (fun x v => ∃ as, Reads s.heap x (pd v) as) xs vs
  | _, _, _, .nil, .nil, _ => .nil
  | _, _, _, .cons q qs, .cons z zs, h => .cons (ReadsOf wa I r q (dat_pure _ _ _ (h _ List.mem_cons_self)) z) (each_reads wa I r qs zs fun v hv => h v (List.mem_cons_of_mem _ hv))
theorem call_sorted_ok (wa : At W X) (hu : X.A.units + 80 < cLine) : CallR X (.builtin "sorted") (lX W (bcall .sorted)) := by
  intro pins s σ H xs us Q I r0 h
  obtain ⟨φ, M, as, v, M', r, ra, e, k⟩ := h
  match as, ra, e with
  | [x], ra, e =>
    obtain ⟨u, rfl, ru⟩ := RVs.one (vs := []) ra
    have e : (match Mn.lstOf M x with | some vs => (match vsort vs with | some ws => new (.lst ws) M | none => .stuck) | none => .stuck) = .ok v M' := e
    cases e1 : Mn.lstOf M x with
    | none => rw [e1] at e; cases e
    | some vs =>
      rw [e1] at e
      obtain ⟨a, ys, rfl, h1, h2⟩ := r.lstOf e1 ru
      simp only [vsort_def] at e
      cases hd : dats (fun _ => none) vs with
      | none => rw [hd] at e; cases e
      | some ds =>
        rw [hd] at e
        dsimp only at e
        by_cases hc : (sortable ds && decide (vs.length ≤ sizeLine)) = true
        · rw [if_pos hc] at e
          cases e
          rw [Bool.and_eq_true] at hc
          obtain ⟨z1, z2⟩ := dats_all hd
          obtain ⟨s1, s2, s3, s4⟩ := sortable_alike hc.1
          subst z1
          cases r0 with
          | cons q0 q1 =>
            cases q1
            cases q0
            obtain ⟨its, rv, hl, hz⟩ := I.list (by rw [wa.K]; exact h1)
            refine PySem.W.sorted_data (bs := vs) (enc := pd) hl.isList (each_of h2 rv) (each_reads wa I r h2 rv z2) s1 s2 (of_decide_eq_true hc.2) (fun b hb => ?_) fun out ho he => ?_
            · have := SeqAt.depth_of_shaped (s3 _ (List.mem_map_of_mem (f := pd) hb)); omega
            · obtain ⟨ws, g1, g2⟩ := each_back he
              obtain ⟨ep, he'⟩ := PyProof.Rows.sortedAll_at s.heap its out.toArray
              have hlen : ws.length ≤ sizeLine := by rw [← g1.length, List.length_mergeSort]; exact of_decide_eq_true hc.2
              have hp := I.hok.fresh (Nat.le_succ s.heap.objs.size)
              refine ⟨.ref _, upd H (s.heap.objs.size + 1) (.lst ws), I.laid (t' := s.toks) (fun _ _ => PyProof.Rows.sortedAll_old) (Nat.le_succ _) ⟨hlen, out, ep, g2, he'⟩, rfl, ?_⟩
              exact k.new r hp rfl ⟨ws, upd_same, g1.mono (Ext.new hp)⟩
        · rw [if_neg hc] at e; cases e
  | [], _, e => cases e
  | _ :: _ :: _, _, e => cases e
theorem RTs.refs {φ : List Addr} {H : Hp} {kvs : List (Val × Val)} {xs : List (NestedKey × Addr × Value)} (r : RTs W φ H kvs xs) : RVs W φ H (kvs.map (·.1)) (xs.map fun x => V.ref x.2.1) := by
  induction r with
  | nil => exact .nil
  | cons h hs ih => exact .cons h.2.1 ih
theorem RKs.keysV {φ : List Addr} {H : Hp} {kvs : List (Val × Val)} {xs : List (Key × V)} (r : RKs W φ H kvs xs) : RVs W φ H (kvs.map (·.1)) (xs.map fun x => kV x.1) := by
  induction r with
  | nil => exact .nil
  | @cons p q ps qs h hs ih =>
    have key : ∀ (x : Val) (y : Key), RK x y → RV W φ H x (kV y) := fun x y h1 => by
      cases h1 with
      | int i => exact .int i
      | str i => exact .str i
    exact .cons (key _ _ h.1) ih
theorem refsV : ∀ xs : List (NestedKey × Addr × Value), Vals (xs.map fun x => V.ref x.2.1) (xs.map fun x => Value.ref x.2.1)
  | [] => .nil
  | _ :: xs => .cons rfl (refsV xs)
theorem call_list_ok (wa : At W X) (hc : X.calm = true) : CallR X (.type "list") (lX W (bcall .list)) := by
  intro pins s σ H xs us Q I r0 h
  obtain ⟨φ, M, as, v, M', r, ra, e, k⟩ := h
  match as, ra, e with
  | [x], ra, e =>
    obtain ⟨u, rfl, ru⟩ := RVs.one (vs := []) ra
    have e : (match itemsOf M x with | some vs => new (.lst vs) M | none => .stuck) = .ok v M' := e
    cases e1 : itemsOf M x with
    | none => rw [e1] at e; cases e
    | some vs =>
      rw [e1] at e
      cases e
      cases ru with
      | tup h1 h2 =>
        cases e1
        exact call_list_of pins s σ H _ us Q I r0 ⟨_, _, rfl, .inr (by rw [wa.K]; exact h1), fun l hl => k.new r hl rfl ⟨_, upd_same, h2.mono (Ext.new hl)⟩⟩
      | @ref m a ha =>
        cases em : M[m]? with
        | none => simp [itemsOf, em] at e1
        | some o =>
          cases o with
          | lst ws =>
            obtain ⟨ys, h1, h2⟩ := r.seqL (.inl em) ha
            have e1 : some ws = some vs := by simpa [itemsOf, em] using e1
            cases e1
            exact call_list_of pins s σ H _ us Q I r0 ⟨_, _, rfl, .inl (by rw [wa.K]; exact h1), fun l hl => k.new r hl rfl ⟨_, upd_same, h2.mono (Ext.new hl)⟩⟩
          | rol ws =>
            obtain ⟨ys, h1, h2⟩ := r.seqL (.inr em) ha
            have e1 : some ws = some vs := by simpa [itemsOf, em] using e1
            cases e1
            exact call_list_of pins s σ H _ us Q I r0 ⟨_, _, rfl, .inl (by rw [wa.K]; exact h1), fun l hl => k.new r hl rfl ⟨_, upd_same, h2.mono (Ext.new hl)⟩⟩
          | dct kvs =>
            have e1 : kvs.map (·.1) = vs := by simpa [itemsOf, em] using e1
            subst e1
            have ro := r.obj m _ a em ha
            rcases ro with ⟨hl, kk, h1, h2⟩ | z
            · refine call_list_dK hc pins s σ H _ us Q I r0 ⟨a, kk, rfl, h1, fun q hq => k.new r hq rfl ⟨_, upd_same, (RKs.keysV h2).mono (Ext.new hq)⟩⟩
            · obtain ⟨ne, hk, hs, hz, o, es, ep, xs, g1, g3, g4, g5, g6, g7⟩ := z
              have hg : s.heap.get? a = some o := (I.hok a _ g1).1
              have l1 : es.size = xs.length := size_of_entries g5
              have l2 : kvs.length = xs.length := Paired.length g7
              cases r0 with
              | cons q0 q1 =>
                cases q1
                cases q0
                refine PySem.W.kdl_call (prog := X.prog) (w := X.w) (L2.kdl_raw hs g3 g4) (I.ok.hd hc) hg ?_ fun h' tk acc c kp e it => ?_
                · omega
                · have hp := I.hok.fresh (Nat.le_refl s.heap.objs.size)
                  have ea : acc.toList = xs.map fun x => Value.ref x.2.1 := by
                    apply List.ext_getElem?
                    intro j
                    rw [List.getElem?_map]
                    cases hj : acc.toList[j]? with
                    | none =>
                      have w1 := List.getElem?_eq_none_iff.mp hj
                      rw [Array.length_toList, it.1] at w1
                      rw [List.getElem?_eq_none (by omega)]
                      rfl
                    | some y =>
                      obtain ⟨en, w2, w3⟩ := it.2 j y (by rw [← Array.getElem?_toList]; exact hj)
                      have w4 := entry_at g5 j
                      rw [w2] at w4
                      cases w5 : xs[j]? with
                      | none => rw [w5] at w4; cases w4
                      | some b =>
                        rw [w5] at w4
                        have w6 : en = entryOfKey (nestedKind W.prog W.w) b := Option.some.inj w4
                        rw [w3, w6]
                        rfl
                  have rv : Vals (xs.map fun x => V.ref x.2.1) acc.toList := by
                    rw [ea]
                    exact refsV xs
                  refine ⟨.ref _, upd H s.heap.objs.size (.lst (xs.map fun x => V.ref x.2.1)), I.laid (t' := tk) kp (Nat.le_refl _) ⟨by rw [List.length_map]; omega, acc.toList, c, rv, by rw [Array.toArray_toList]; exact e⟩, rfl, ?_⟩
                  exact k.new r hp rfl ⟨_, upd_same, (RTs.refs g7).mono (Ext.new hp)⟩
          | ins C fs => simp [itemsOf, em] at e1
      | _ => cases e1
  | [], _, e => cases e
  | _ :: _ :: _, _, e => cases e
theorem call_tuple_ok (wa : At W X) : CallR X (.type "tuple") (lX W (bcall .tuple)) := by
  intro pins s σ H xs us Q I r0 h
  obtain ⟨φ, M, as, v, M', r, ra, e, k⟩ := h
  match as, ra, e with
  | [x], ra, e =>
    obtain ⟨u, rfl, ru⟩ := RVs.one (vs := []) ra
    have e : (match seqOf M x with | some vs => Res.ok (Val.tup vs) M | none => .stuck) = .ok v M' := e
    cases e1 : seqOf M x with
    | none => rw [e1] at e; cases e
    | some vs =>
      rw [e1] at e
      cases e
      cases ru with
      | tup h1 h2 =>
        cases e1
        exact call_tuple_of pins s σ H _ us Q I r0 ⟨_, _, rfl, .inr ⟨by rw [wa.K]; exact h1, k.here r (.tup h1 h2)⟩⟩
      | @ref m a ha =>
        obtain ⟨a', ys, e2, h1, h2⟩ := r.seq e1 (.ref ha)
        cases e2
        rcases h1 with h1 | h1
        · exact call_tuple_of pins s σ H _ us Q I r0 ⟨_, _, rfl, .inl ⟨by rw [wa.K]; exact h1, fun l hl => k.tup r h2 hl⟩⟩
        · exact call_tuple_of pins s σ H _ us Q I r0 ⟨_, _, rfl, .inr ⟨by rw [wa.K]; exact h1, k.here r (.tup h1 h2)⟩⟩
      | _ => cases e1
  | [], _, e => cases e
  | _ :: _ :: _, _, e => cases e
theorem repr_any {prog : Program} {w : World} {A : Around} {E : Value → Shared → Prop} {s : Shared} {v : Value} {d : PyData} {bs : List Addr} {Q : Value → Shared → Prop} (hR : Reads s.heap v d bs) (hs : d.showable = true) (hn : d.hasDict = false) (hg : A.guards = some [])
    (hu : A.units + 66 < cLine) (hd : d.depth ≤ 64) (hz : d.shown.length ≤ sizeLine)
    (h : ∀ h' t tk, (∀ b o, s.heap.get? b = some o → h'.get? b = some o) → Q (.str d.shown t) { s with heap := h', toks := tk }) : wpAny (model prog w) A (call (.builtin "repr") [v]) Q E s := by
  cases hR with
  | none => exact P.repr_of_none (h _ _ _ fun _ _ e => e)
  | bool b => exact P.repr_of_bool (h _ _ _ fun _ _ e => e)
  | int i t => exact P.repr_of_int (of_decide_eq_true hs) (h _ _ _ fun _ _ e => e)
  | str x t => exact P.repr_of_str (h _ _ _ fun _ _ e => e) hz
  | list h1 h2 h3 h4 => exact repr_of_reads' (.list h1 h2 h3 h4) hs (PyData.noDict_hsm hn) hg (by omega) (fun _ _ e => e) (fun h' u tk hk => h h' u tk hk) hz
  | tuple h1 h2 h3 h4 => exact repr_of_reads' (.tuple h1 h2 h3 h4) hs (PyData.noDict_hsm hn) hg (by omega) (fun _ _ e => e) (fun h' u tk hk => h h' u tk hk) hz
  | dict _ _ _ _ _ => cases hn
theorem call_repr_ok (wa : At W X) (hu : X.A.units + 80 < cLine) (hg : X.A.guards = some []) : CallR X (.builtin "repr") (lX W (bcall .repr)) := by
  intro pins s σ H xs us Q I r0 h
  obtain ⟨φ, M, as, v, M', r, ra, e, k⟩ := h
  match as, ra, e with
  | [x], ra, e =>
    obtain ⟨u, rfl, ru⟩ := RVs.one (vs := []) ra
    have e : (match datM M x with | some d => chk (shownOk d) (Res.ok (Val.str d.shown) M) | none => .stuck) = .ok v M' := e
    cases e1 : datM M x with
    | none => rw [e1] at e; cases e
    | some d =>
      rw [e1] at e
      obtain ⟨c, e⟩ := chk_ok e
      cases e
      unfold shownOk at c
      simp only [Bool.and_eq_true, decide_eq_true_eq] at c
      obtain ⟨⟨c1, c2⟩, c3⟩ := c
      have hd := SeqAt.depth_of_shaped c3
      have hz : d.shown.length ≤ sizeLine := by omega
      cases r0 with
      | cons q0 q1 =>
        rename_i x0 xs0
        cases q1
        obtain ⟨bs, hR⟩ := ReadsOf wa I r ru e1 q0
        have hn : d.hasDict = false := PyData.hasDict_of_canLay d (SeqAt.canLay_of_shaped c3)
        refine repr_any hR c1 hn hg (by omega) hd hz fun h' t tk hk => ⟨.str _, H, I.kept hk, ⟨_, rfl⟩, k.here r (.str _)⟩
  | [], _, e => cases e
  | _ :: _ :: _, _, e => cases e
theorem isTy_kit {K : PySem.W.Frag} {a t : String} {b : Bool} (ha : a ∈ ["NoneType", "bool", "int", "str", "tuple", "list", "dict"]) (h : isTy a t = some b) : PySem.W.kitOne K (.type a) (.type t) = some b := by
  have ht : t ∈ ["int", "bool", "str", "tuple", "list", "dict"] := by
    unfold isTy at h
    split at h
    · simp_all
    · split at h
      · simp_all
      · split at h
        · simp_all
        · split at h
          · simp_all
          · split at h
            · simp_all
            · split at h
              · simp_all
              · cases h
  refine kit_ty ?_
  have key : ∀ a ∈ ["NoneType", "bool", "int", "str", "tuple", "list", "dict"], ∀ t ∈ ["int", "bool", "str", "tuple", "list", "dict"], kitB a t = isTy a t := by decide +kernel
  rw [key a ha t ht, h]
theorem call_isi_ok (wa : At W X) : CallR X (.builtin "isinstance") (lX W (bcall .isinstance)) := by
  intro pins s σ H xs us Q I r0 h
  obtain ⟨φ, M, as, v, M', r, ra, e, k⟩ := h
  match as, ra, e with
  | [x, y], ra, e =>
    obtain ⟨u, z, rfl, ru, rz⟩ := RVs.two ra
    cases rz with
    | ty t =>
      have e : ofO ((isA M x t).map .bl) M = .ok v M' := e
      obtain ⟨e2, rfl⟩ := ofO_ok e
      cases e3 : isA M x t with
      | none => rw [e3] at e2; cases e2
      | some b =>
        rw [e3] at e2
        cases e2
        unfold isA at e3
        cases e4 : tyName M x with
        | none => rw [e4] at e3; cases e3
        | some a =>
          rw [e4] at e3
          have e3 : isTy a t = some b := e3
          cases r0 with
          | cons q0 q1 =>
            cases q1 with
            | cons p0 p1 =>
              cases p1
              cases p0
              have fin : ∀ {P : Heap → Prop} {w0 : Value}, RelV u w0 → PySem.W.KitX X.K w0 (.type a) P → P s.heap → w0 ≠ .builtin "__main__.__loader__#opaque" → a ∈ ["NoneType", "bool", "int", "str", "tuple", "list", "dict"] →
                  wpAny (model X.prog X.w) X.A (call (.builtin "isinstance") [w0, .type t]) (EP X pins σ Q) X.xe s := fun {P w0} _ Z p hx ha =>
                PySem.W.kia_one Z I.kIn p (isTy_kit ha e3) hx fun tk => ⟨.bl b, H, I.tok tk, rfl, k.here r (.bl _)⟩
              cases ru with
              | non => cases q0; cases e4; exact fin (show RelV .non Value.none from rfl) PySem.W.kitx_none trivial (fun z => nomatch z) (by decide)
              | bl b => cases q0; cases e4; exact fin rfl PySem.W.kitx_bool trivial (fun z => nomatch z) (by decide)
              | int i => obtain ⟨t0, rfl⟩ := q0; cases e4; exact fin ⟨_, rfl⟩ PySem.W.kitx_int trivial (fun z => nomatch z) (by decide)
              | str i => obtain ⟨t0, rfl⟩ := q0; cases e4; exact fin ⟨_, rfl⟩ PySem.W.kitx_str trivial (fun z => nomatch z) (by decide)
              | tup h1 h2 =>
                cases q0; cases e4
                obtain ⟨its, rv, ⟨o, g1, g2, _⟩, _⟩ := I.tuple (by rw [wa.K]; exact h1)
                exact fin rfl PySem.W.kitx_tuple ⟨o, g1, g2⟩ (fun z => nomatch z) (by decide)
              | @ref m ad ha =>
                cases q0
                cases em : M[m]? with
                | none => simp [tyName, em] at e4
                | some o =>
                  cases o with
                  | lst ws =>
                    obtain ⟨ys, h1, h2⟩ := r.seqL (.inl em) ha
                    have e4 : "list" = a := by simpa [tyName, em] using e4
                    subst e4
                    obtain ⟨its, rv, pl, _⟩ := I.list (by rw [wa.K]; exact h1)
                    exact fin rfl PySem.W.kitx_list pl.isList.typeIs (fun z => nomatch z) (by decide)
                  | rol ws =>
                    obtain ⟨ys, h1, h2⟩ := r.seqL (.inr em) ha
                    have e4 : "list" = a := by simpa [tyName, em] using e4
                    subst e4
                    obtain ⟨its, rv, pl, _⟩ := I.list (by rw [wa.K]; exact h1)
                    exact fin rfl PySem.W.kitx_list pl.isList.typeIs (fun z => nomatch z) (by decide)
                  | dct kvs =>
                    have e4 : "dict" = a := by simpa [tyName, em] using e4
                    subst e4
                    exact fin rfl PySem.W.kitx_dict (dct_type wa I (r.obj m _ ad em ha)) (fun z => nomatch z) (by decide)
                  | ins C fs => simp [tyName, em] at e4
              | _ => cases e4
    | _ => cases e
  | [], _, e => cases e
  | [_], _, e => cases e
  | _ :: _ :: _ :: _, _, e => cases e
end
end Mn
end -- Sd11
section -- Sd12
set_option linter.all false
set_option autoImplicit false
set_option maxRecDepth 100000
namespace Mn
section
open PySem PySem.Spec PyProof.Rows L2
section
variable {X : Cx}
theorem ext_tup (l : Addr) (u : Array Value) (n : Nat) (b : Addr) (w : Array Value) (m : Nat) (dd : Option Addr) (sl : Array (Option Value)) (h0 : ¬(!u.isEmpty && Builtin.List.listTooLong (u.size + w.size)) = true) (h1 : u.size ≤ sizeLine) (h2 : u.size + w.size ≤ sizeLine + 1) :
    Meets (Builtin.«list.extend» ⟨[.ref l, .ref b], []⟩) (fun _ R s => s.heap.get? l = some { cls := .type "list", dict := none, data := .seq u n, slots := #[] } ∧ s.heap.get? b = some { cls := .type "tuple", dict := dd, data := .seq w m, slots := sl } ∧
      R (.ok (.ret Value.none)) { s with heap := s.heap.update l (Obj.mapSeq fun x => x ++ w), toks := s.toks }) :=
  .of_wp fun prog ww A R s h => by
    obtain ⟨hp, g, d, tk, os⟩ := s
    obtain ⟨hl, hb, h⟩ := h
    have f1 := AutoSeq1.idx_int; have f2 := AutoSeq1.sub_tuple_tuple; have f3 := AutoSeq1.sub_list_list; have f4 := AutoSeq1.sub_tuple_list; have f5 := AutoSeq1.sub_list_tuple
    have h3 : (u ++ w).size ≤ sizeLine + 1 := by rw [Array.size_append]; exact h2
    wp_walk using (wpAny_updateSeq hl rfl (hz := h1) (_hz' := h3)), wpAny_loadPart' hl, wpAny_loadPart' hb
    exact ⟨_, rfl, h⟩
/-- xs.extend(a tuple) -/
def rExtT (K : PySem.W.Frag) : V → List V → Hp → VK → Prop := fun x vs H Q => ∃ l b xs zs, x = .ref l ∧ vs = [.ref b] ∧ H l = some (.lst xs) ∧ SqT K H b zs ∧ xs.length + zs.length ≤ sizeLine ∧ Q .non (upd H l (.lst (xs ++ zs)))
theorem mt_extT : MtM X "list.extend" (rExtT X.K) := by
  intro pins s σ H x vs v us Q I rx rv h
  obtain ⟨l, b, xs, zs, rfl, rfl, hH, hB, hz, q⟩ := h
  cases rx
  obtain ⟨u, rfl, ru⟩ := rv.one
  cases ru
  obtain ⟨z, its, n, r, hl, e⟩ := I.lstM hH
  obtain ⟨its2, r2, ⟨⟨cls, dd, data, sl⟩, e2, hc, n2, hd⟩, hz2⟩ := I.tuple hB
  simp only at hc hd
  subst hc hd
  have hl2 := r2.length
  have hsz : its.toArray.size + its2.toArray.size ≤ sizeLine := by rw [List.size_toArray, List.size_toArray]; omega
  have hlong : ¬ (!its.toArray.isEmpty && Builtin.List.listTooLong (its.toArray.size + its2.toArray.size)) = true := by
    rw [notLongL hsz, Bool.and_false]
    decide
  refine call_meets F.slot_list_extend ⟨_, e, rfl⟩ F.entry_list_extend (F.args_list_extend_2 _ _) (ext_tup l its.toArray n b its2.toArray n2 dd sl hlong (by rw [List.size_toArray]; omega) (by omega)) ⟨e, e2, ?_⟩
  refine ⟨.non, _, I.lset (its' := its ++ its2) hH e (by simp) (r.append r2) ?_, rfl, q⟩
  rw [List.length_append]
  omega
end
end
open PySem L2
section
variable {X : Cx} {W : Wo}
theorem ownL_ok {φ : List Addr} {M : Mem} {H : Hp} (r : RM W φ M H) {x : Val} {u : V} {p : Nat × List Val} (h : ownL M x = some p) (rx : RV W φ H x u) : ∃ a, u = .ref a ∧ x = .ref p.1 ∧ M[p.1]? = some (.lst p.2) ∧ φ[p.1]? = some a := by
  cases rx with
  | @ref n a ha =>
    cases e : M[n]? with
    | none => simp [ownL, e] at h
    | some o =>
      cases o with
      | lst vs => have h : (n, vs) = p := by simpa [ownL, e] using h
                  subst h; exact ⟨a, rfl, rfl, e, ha⟩
      | _ => simp [ownL, e] at h
  | _ => cases h
theorem ownD_ok {φ : List Addr} {M : Mem} {H : Hp} (r : RM W φ M H) {x : Val} {u : V} {p : Nat × List (Val × Val)} (h : ownD M x = some p) (rx : RV W φ H x u) : ∃ a, u = .ref a ∧ x = .ref p.1 ∧ M[p.1]? = some (.dct p.2) ∧ φ[p.1]? = some a := by
  cases rx with
  | @ref n a ha =>
    cases e : M[n]? with
    | none => simp [ownD, e] at h
    | some o =>
      cases o with
      | dct vs => have h : (n, vs) = p := by simpa [ownD, e] using h
                  subst h; exact ⟨a, rfl, rfl, e, ha⟩
      | _ => simp [ownD, e] at h
  | _ => cases h
/-- a tracked list changes -/
theorem Kont.setL {φ : List Addr} {M : Mem} {H : Hp} {n : Nat} {a : Addr} {vs ws : List Val} {xs : List V} {v : Val} {u : V} {Q : VK} (k : Kont W φ H v (M.set n (.lst ws)) Q) (r : RM W φ M H) (hn : M[n]? = some (.lst vs)) (ha : φ[n]? = some a) (h : RVs W φ H ws xs) (rv : RV W φ H v u) : Q u (upd H a (.lst xs)) := by
  have mu : Mut (H a) := (r.obj n _ a hn ha).mut rfl
  have ex : Ext W φ H φ (upd H a (.lst xs)) := Ext.upd (.inr ⟨mu, n, (r.own n _ hn).mp rfl, ha⟩)
  exact k φ _ u ex (r.set hn rfl ha rfl ⟨xs, upd_same, h.mono ex⟩) (rv.mono ex)
theorem Kont.setD {φ : List Addr} {M : Mem} {H : Hp} {n : Nat} {a : Addr} {kvs ws : List (Val × Val)} {ho : HO} {v : Val} {u : V} {Q : VK} (k : Kont W φ H v (M.set n (.dct ws)) Q) (r : RM W φ M H) (hn : M[n]? = some (.dct kvs)) (ha : φ[n]? = some a) (h : RO W φ (upd H a ho) a (.dct ws)) (rv : RV W φ H v u) : Q u (upd H a ho) := by
  have mu : Mut (H a) := (r.obj n _ a hn ha).mut rfl
  have ex : Ext W φ H φ (upd H a ho) := Ext.upd (.inr ⟨mu, n, (r.own n _ hn).mp rfl, ha⟩)
  exact k φ _ u ex (r.set hn rfl ha rfl h) (rv.mono ex)
theorem mt_append_ok (wa : At W X) : MtR X "list.append" (lM W (bmeth .append)) := by
  intro pins s σ H x xs v us Q I rx rxs h
  obtain ⟨φ, M, a, as, v', M', r, ra, ras, e, k⟩ := h
  replace e : (match ownL M a with | some p => mList .append p.1 p.2 as M | none => .stuck) = .ok v' M' := e
  cases e1 : ownL M a with
  | none => rw [e1] at e; cases e
  | some p =>
    rw [e1] at e
    dsimp only at e
    obtain ⟨n, vs⟩ := p
    obtain ⟨ad, rfl, rfl, hm, ha⟩ := ownL_ok r e1 ra
    dsimp only at e hm ha
    obtain ⟨ys, h1, h2⟩ := r.lst hm ha
    match as, ras, e with
    | [y], ras, e =>
      obtain ⟨u, rfl, ru⟩ := RVs.one (vs := []) ras
      obtain ⟨c, e⟩ := chk_ok e
      cases e
      exact mt_append pins s σ H _ _ v us Q I rx rxs ⟨ad, ys, u, rfl, rfl, h1, by rw [← h2.length]; exact of_decide_eq_true c, k.setL r hm ha (h2.append (.cons ru .nil)) .non⟩
    | [], _, e => cases e
    | _ :: _ :: _, _, e => cases e
theorem mt_extend_ok (wa : At W X) : MtR X "list.extend" (lM W (bmeth .extend)) := by
  intro pins s σ H x xs v us Q I rx rxs h
  obtain ⟨φ, M, a, as, v', M', r, ra, ras, e, k⟩ := h
  replace e : (match ownL M a with | some p => mList .extend p.1 p.2 as M | none => .stuck) = .ok v' M' := e
  cases e1 : ownL M a with
  | none => rw [e1] at e; cases e
  | some p =>
    rw [e1] at e
    dsimp only at e
    obtain ⟨n, vs⟩ := p
    obtain ⟨ad, rfl, rfl, hm, ha⟩ := ownL_ok r e1 ra
    dsimp only at e hm ha
    obtain ⟨ys, h1, h2⟩ := r.lst hm ha
    match as, ras, e with
    | [y], ras, e =>
      obtain ⟨u, rfl, ru⟩ := RVs.one (vs := []) ras
      simp only [mList] at e
      cases e2 : ownL M y with
      | some q =>
        rw [e2] at e
        obtain ⟨n2, ws⟩ := q
        obtain ⟨ad2, rfl, rfl, hm2, ha2⟩ := ownL_ok r e2 ru
        obtain ⟨zs, h3, h4⟩ := r.lst hm2 ha2
        obtain ⟨c, e⟩ := chk_ok e
        cases e
        exact mt_extend pins s σ H _ _ v us Q I rx rxs ⟨ad, ad2, ys, zs, rfl, rfl, h1, h3, by rw [← h2.length, ← h4.length]; exact of_decide_eq_true c, k.setL r hm ha (h2.append h4) .non⟩
      | none =>
        rw [e2] at e
        cases ru with
        | tup hT h4 =>
          obtain ⟨c, e⟩ := chk_ok e
          cases e
          exact mt_extT pins s σ H _ _ v us Q I rx rxs ⟨ad, _, ys, _, rfl, rfl, h1, by rw [wa.K]; exact hT, by rw [← h2.length, ← h4.length]; exact of_decide_eq_true c, k.setL r hm ha (h2.append h4) .non⟩
        | _ => cases e
    | [], _, e => cases e
    | _ :: _ :: _, _, e => cases e
theorem mt_pop_ok (wa : At W X) : MtR X "list.pop" (lM W (bmeth .pop)) := by
  intro pins s σ H x xs v us Q I rx rxs h
  obtain ⟨φ, M, a, as, v', M', r, ra, ras, e, k⟩ := h
  replace e : (match ownL M a with | some p => mList .pop p.1 p.2 as M | none => .stuck) = .ok v' M' := e
  cases e1 : ownL M a with
  | none => rw [e1] at e; cases e
  | some p =>
    rw [e1] at e
    dsimp only at e
    obtain ⟨n, vs⟩ := p
    obtain ⟨ad, rfl, rfl, hm, ha⟩ := ownL_ok r e1 ra
    dsimp only at e hm ha
    obtain ⟨ys, h1, h2⟩ := r.lst hm ha
    match as, ras, e with
    | [], ras, e =>
      cases ras
      replace e : (match vs[vs.length - 1]? with | some v => setO n (.lst vs.dropLast) v M | none => .stuck) = .ok v' M' := e
      cases e2 : vs[vs.length - 1]? with
      | none => rw [e2] at e; cases e
      | some w =>
        rw [e2] at e
        cases e
        obtain ⟨z, hz, rz⟩ := h2.get e2
        exact mt_pop pins s σ H _ _ v us Q I rx rxs ⟨ad, ys, z, rfl, rfl, h1, by rw [← h2.length]; exact hz, k.setL r hm ha h2.dropLast rz⟩
    | [y], ras, e =>
      obtain ⟨u, rfl, ru⟩ := RVs.one (vs := []) ras
      cases ru with
      | int j =>
        replace e : (match ixOf j vs.length with | some m => (match vs[m]? with | some v => setO n (.lst (vs.eraseIdx m)) v M | none => .stuck) | none => .stuck) = .ok v' M' := e
        cases e2 : ixOf j vs.length with
        | none => rw [e2] at e; cases e
        | some m =>
          rw [e2] at e
          dsimp only at e
          cases e3 : vs[m]? with
          | none => rw [e3] at e; cases e
          | some w =>
            rw [e3] at e
            cases e
            obtain ⟨z, hz, rz⟩ := h2.get e3
            have hl := (I.lstM h1).1
            have hs := sizeLine_eq
            obtain ⟨q1, q2, q3, q4⟩ := ixN_seq (n := vs.length) (i := j) (j := m) e2
            have hl' := h2.length
            exact mt_popAt pins s σ H _ _ v us Q I rx rxs ⟨ad, ys, j, m, z, rfl, rfl, h1, by omega, by omega, by rw [← h2.length]; exact q1, hz, k.setL r hm ha (h2.eraseIdx m) rz⟩
      | _ => cases e
    | _ :: _ :: _, _, e => cases e
theorem mt_insert_ok (wa : At W X) : MtR X "list.insert" (lM W (bmeth .insert)) := by
  intro pins s σ H x xs v us Q I rx rxs h
  obtain ⟨φ, M, a, as, v', M', r, ra, ras, e, k⟩ := h
  replace e : (match ownL M a with | some p => mList .insert p.1 p.2 as M | none => .stuck) = .ok v' M' := e
  cases e1 : ownL M a with
  | none => rw [e1] at e; cases e
  | some p =>
    rw [e1] at e
    dsimp only at e
    obtain ⟨n, vs⟩ := p
    obtain ⟨ad, rfl, rfl, hm, ha⟩ := ownL_ok r e1 ra
    dsimp only at e hm ha
    obtain ⟨ys, h1, h2⟩ := r.lst hm ha
    match as, ras, e with
    | [y, w], ras, e =>
      obtain ⟨u, z, rfl, ru, rz⟩ := RVs.two ras
      cases ru with
      | int j =>
        obtain ⟨c, e⟩ := chk_ok e
        cases e
        simp only [Bool.and_eq_true, decide_eq_true_eq] at c
        obtain ⟨c1, c2⟩ := c
        subst c1
        refine mt_insert pins s σ H _ _ v us Q I rx rxs ⟨ad, ys, 0, z, rfl, rfl, h1, by rw [← h2.length]; exact c2, by omega, by omega, ?_⟩
        have e2 : ys.take (0 : Int).toNat ++ [z] ++ ys.drop (0 : Int).toNat = z :: ys := by simp
        rw [e2]
        exact k.setL r hm ha (.cons rz h2) .non
      | _ => cases e
    | [], _, e => cases e
    | [_], _, e => cases e
    | _ :: _ :: _ :: _, _, e => cases e
theorem mt_count_ok (wa : At W X) : MtR X "list.count" (lM W (bmeth .count)) := by
  intro pins s σ H x xs v us Q I rx rxs h
  obtain ⟨φ, M, a, as, v', M', r, ra, ras, e, k⟩ := h
  replace e : (match lstOf M a with | some vs => mRead .count vs as M | none => .stuck) = .ok v' M' := e
  cases e1 : lstOf M a with
  | none => rw [e1] at e; cases e
  | some vs =>
    rw [e1] at e
    dsimp only at e
    obtain ⟨ad, ys, rfl, h1, h2⟩ := r.lstOf e1 ra
    match as, ras, e with
    | [y], ras, e =>
      obtain ⟨u, rfl, ru⟩ := RVs.one (vs := []) ras
      replace e : (match intsOf vs, y with | some is, .int i => Res.ok (Val.int (is.count i)) M | _, _ => .stuck) = .ok v' M' := e
      split at e
      · rename_i is i e2
        cases e
        cases ru
        have z := ints_map e2 h2
        subst z
        exact mt_lcount pins s σ H _ _ v us Q I rx rxs ⟨ad, is, i, rfl, rfl, by rw [wa.K]; exact h1, k.here r (.int _)⟩
      · cases e
    | [], _, e => cases e
    | _ :: _ :: _, _, e => cases e
theorem mt_get_ok (wa : At W X) (hu : X.A.units + 64 < cLine) : MtR X "dict.get" (lM W (bmeth .get)) := by
  intro pins s σ H x xs v us Q I rx rxs h
  obtain ⟨φ, M, a, as, v', M', r, ra, ras, e, k⟩ := h
  replace e : (match ownD M a with | some p => mDict .get p.1 p.2 as M | none => .stuck) = .ok v' M' := e
  cases e1 : ownD M a with
  | none => rw [e1] at e; cases e
  | some p =>
    rw [e1] at e
    dsimp only at e
    obtain ⟨n, kvs⟩ := p
    obtain ⟨ad, rfl, rfl, hm, ha⟩ := ownD_ok r e1 ra
    dsimp only at e hm ha
    match as, ras, e with
    | [y, w], ras, e =>
      obtain ⟨u, z, rfl, ru, rz⟩ := RVs.two ras
      obtain ⟨c, e⟩ := chk_ok e
      cases e
      cases rx
      cases rxs with
      | cons p1 p2 =>
        cases p2 with
        | cons p2 p3 =>
          cases p3
          exact dct_get2 wa hu I (r.obj _ _ ad hm ha) c ru p1 rz p2 fun zz w' s' I' rz' rw' => ⟨zz, H, I', rw', k.here r rz'⟩
    | [], _, e => cases e
    | [_], _, e => cases e
    | _ :: _ :: _ :: _, _, e => cases e
theorem mt_setd_ok (wa : At W X) (hu : X.A.units + 64 < cLine) : MtR X "dict.setdefault" (lM W (bmeth .setdefault)) := by
  intro pins s σ H x xs v us Q I rx rxs h
  obtain ⟨φ, M, a, as, v', M', r, ra, ras, e, k⟩ := h
  replace e : (match ownD M a with | some p => mDict .setdefault p.1 p.2 as M | none => .stuck) = .ok v' M' := e
  cases e1 : ownD M a with
  | none => rw [e1] at e; cases e
  | some p =>
    rw [e1] at e
    dsimp only at e
    obtain ⟨n, kvs⟩ := p
    obtain ⟨ad, rfl, rfl, hm, ha⟩ := ownD_ok r e1 ra
    dsimp only at e hm ha
    match as, ras, e with
    | [y, w], ras, e =>
      obtain ⟨u, z, rfl, ru, rz⟩ := RVs.two ras
      obtain ⟨c, e⟩ := chk_ok e
      rw [Bool.and_eq_true] at c
      cases rx
      cases rxs with
      | cons p1 p2 =>
        cases p2 with
        | cons p2 p3 =>
          cases p3
          refine dct_setd wa hu I (r.obj _ _ ad hm ha) c.1 ru p1 rz p2 (of_decide_eq_true c.2) (fun v1 zz w' s' hv I' rz' rw' => ?_) fun hn ho s' w' I' ro rw' => ?_
          · rw [hv] at e
            cases e
            exact ⟨zz, H, I', rw', k.here r rz'⟩
          · rw [hn] at e
            cases e
            exact ⟨z, _, I', rw', k.setD r hm ha ro rz⟩
    | [], _, e => cases e
    | [_], _, e => cases e
    | _ :: _ :: _ :: _, _, e => cases e
end
end Mn
end -- Sd12
section -- Sd13
set_option linter.all false
set_option autoImplicit false
set_option maxRecDepth 100000
namespace Mn
open PySem L2
section
variable {X : Cx} {W : Wo}
theorem op_mul_ok (wa : At W X) : OpR X (binaryOp .Mult) (l2 W (binop .Mult)) := by
  intro pins s σ H x y v u Q I rx ry h
  obtain ⟨φ, M, a, b, v', M', r, ra, rb, e, k⟩ := h
  cases rb with
  | int j =>
    cases ra with
    | int i =>
      obtain ⟨c, e⟩ := chk_ok e
      cases e
      exact op_mul pins s σ H _ _ v u Q I rx ry ⟨i, j, rfl, rfl, (show (-(2 ^ 64) < i ∧ i < 2 ^ 64) ∨ (-(2 ^ 64) < j ∧ j < 2 ^ 64) from of_decide_eq_true c), k.here r (.int _)⟩
    | ref ha =>
      dsimp only [binop] at e
      split at e
      · rename_i xs ea
        obtain ⟨c, e⟩ := chk_ok e
        obtain ⟨c1, c2, c3⟩ := of_decide_eq_true c
        cases e
        obtain ⟨us, h1, h2⟩ := r.lst ea ha
        exact op_rep pins s σ H _ _ v u Q I rx ry ⟨_, j, us, rfl, rfl, h1, c1, c2, by rw [← h2.length]; exact c3, fun p hp => k.new r hp rfl ⟨_, upd_same, (h2.rep _).mono (Ext.new hp)⟩⟩
      · cases e
    | tup h1 h2 =>
      obtain ⟨c, e⟩ := chk_ok e
      obtain ⟨c0, c1, c2, c3⟩ := of_decide_eq_true c
      cases e
      refine op_repT pins s σ H _ _ v u Q I rx ry ⟨_, j, _, rfl, rfl, by rw [wa.K]; exact h1, fun z => ?_, c1, c2, by rw [← h2.length]; exact c3, fun p hp => k.tup r (h2.rep _) hp⟩
      subst z
      cases h2
      exact c0 rfl
    | _ => cases e
  | non => cases ra <;> cases e
  | bl _ => cases ra <;> cases e
  | str _ => cases ra <;> cases e
  | ty _ => cases ra <;> cases e
  | ref _ => cases ra <;> cases e
  | glo _ => cases ra <;> cases e
  | tup _ _ => cases ra <;> cases e
theorem op_bin_ok (wa : At W X) (op : Operator) : OpR X (binaryOp op) (l2 W (binop op)) := by
  have stuck : (∀ x y M, binop op x y M = .stuck) → OpR X (binaryOp op) (l2 W (binop op)) := fun hs => by
    intro pins s σ H x y v u Q I rx ry h
    obtain ⟨φ, M, a, b, v', M', r, ra, rb, e, k⟩ := h
    rw [hs] at e
    cases e
  cases op with
  | Add => exact op_add_ok wa
  | Sub => exact op_sub_ok
  | Mult => exact op_mul_ok wa
  | FloorDiv => exact op_fdiv_ok
  | Mod => exact op_mod_ok
  | Pow => exact op_pow_ok
  | _ => exact stuck fun x y M => by cases x <;> cases y <;> rfl
/-- in, not in -/
theorem cin_run (wa : At W X) (hu : X.A.units + 65 < cLine) (neg : Bool) : OpR X (compareOp (if neg then .NotIn else .In)) (l2 W (cmpV (if neg then .NotIn else .In))) := by
  intro pins s σ H x y v u Q I rx ry h
  obtain ⟨φ, M, a, b, v', M', r, ra, rb, e, k⟩ := h
  obtain ⟨c, e0, rfl, rfl⟩ := cmpV_ok e
  clear e
  obtain ⟨d, e, rfl⟩ : ∃ d, cin a b M = some d ∧ c = (if neg then !d else d) := by
    cases neg with
    | false => exact ⟨c, e0, rfl⟩
    | true =>
      have e : (cin a b M).map (!·) = some c := e0
      cases z : cin a b M with
      | none => rw [z] at e; cases e
      | some d => rw [z] at e; cases e; exact ⟨d, rfl, rfl⟩
  have fin : Q (.bl (if neg then !d else d)) H := k.here r (.bl _)
  cases rb with
  | tup h1 h2 => exact vin_run wa hu neg I r ra rfl (.tup h1 h2) rx ry e fin
  | str t =>
    cases ra with
    | str z =>
      have e : d = _ := (Option.some.inj e).symm
      cases neg with
      | false => exact op_in_str pins s σ H _ _ v u Q I rx ry ⟨z, t, rfl, rfl, by rw [← e]; exact fin⟩
      | true => exact op_notin_str pins s σ H _ _ v u Q I rx ry ⟨z, t, rfl, rfl, by rw [← e]; exact fin⟩
    | _ => cases e
  | @ref n p hp =>
    cases em : M[n]? with
    | none => simp [cin, em] at e
    | some o =>
      cases o with
      | lst ys => exact vin_run (b := .ref n) (ys := ys) wa hu neg I r ra (by simp [seqOf, em]) (.ref hp) rx ry (by simpa [cin, em] using e) fin
      | rol ys => exact vin_run (b := .ref n) (ys := ys) wa hu neg I r ra (by simp [seqOf, em]) (.ref hp) rx ry (by simpa [cin, em] using e) fin
      | dct kvs =>
        have e : (if fits kvs a then some (dget kvs a).isSome else none) = some d := by simpa [cin, em] using e
        split at e
        · rename_i f
          cases e
          cases ry
          exact dct_in wa (by omega) neg I (r.obj n _ p em hp) f ra rx fun s' I' => ⟨.bl _, H, I', rfl, fin⟩
        · cases e
      | ins C fs => simp [cin, em] at e
  | non => cases e
  | bl _ => cases e
  | int _ => cases e
  | ty _ => cases e
  | glo _ => cases e
theorem op_cmp_ok (wa : At W X) (hu : X.A.units + 80 < cLine) (op : CmpOp) : OpR X (compareOp op) (l2 W (cmpV op)) := by
  cases op with
  | Eq => exact op_Eq_ok wa (by omega)
  | NotEq => exact op_NotEq_ok wa (by omega)
  | Lt => exact op_Lt_ok wa (by omega)
  | LtE => exact op_LtE_ok
  | Gt => exact op_Gt_ok
  | GtE => exact op_GtE_ok
  | Is => exact op_Is_ok
  | IsNot => exact op_IsNot_ok
  | In => exact cin_run wa (by omega) false
  | NotIn => exact cin_run wa (by omega) true
end
end Mn
end -- Sd13
section -- Sd14
set_option linter.all false
set_option autoImplicit false
set_option maxRecDepth 100000
namespace Mn
open PySem PyProof PyProof.Rows L2
/-! ### enumerate of a tuple -/
def Iet (K : PySem.W.Frag) (a : Addr) : It where
  go i H := ∃ (xs : List V) (x : V), SqT K H a xs ∧ xs[i]? = some x
  yld i H v H' := ∃ p x, v = .ref p ∧ H p = none ∧ H' = upd H p (.tup [.int (i : Nat), x]) ∧ ∀ xs, SqT K H a xs → xs[i]? = some x
  stop i H := ∃ xs : List V, SqT K H a xs ∧ xs.length = i
theorem apart_seq {h : Heap} {a b : Addr} {its : Array Value} {o : PySem.Obj} {fs : Array Value} (t : IsTup h a its) (e : h.get? b = some o) (d : o.data = .fields fs) : a ≠ b := fun z => by
  obtain ⟨q, e1, _, n, e2⟩ := t
  rw [z, e] at e1
  cases e1
  rw [d] at e2
  cases e2
theorem turn_et {P : Program} {w : World} {K : PySem.W.Frag} {elts : List Expr} {kk : Nat} {tpos : Pos} (a e it : Addr) :
    Turn P w K (.Tuple elts kk tpos) (Iet K a) [e, it] e (fun i h => (∃ old, IsEnum h e it ((i : Nat) : Int) old) ∧ h.IsTupleIter it a i ∧ e ≠ it) := by
  refine ⟨List.mem_cons_self, fun i h st b hb => ?_, fun i h h' st k => ?_, ?_, ?_, ?_⟩
  · obtain ⟨⟨old, he⟩, ⟨o, ho, hc, hd⟩, _⟩ := st
    rcases List.mem_cons.mp hb with rfl | hb
    · exact ⟨_, he, fun v q => nomatch q⟩
    · rw [List.mem_singleton.mp hb]
      exact ⟨o, ho, fun v q => by rw [hd] at q; cases q⟩
  · obtain ⟨⟨old, he⟩, hi, ne⟩ := st
    exact ⟨⟨old, k e (by simp) _ he⟩, hi.at fun o q => k it (by simp) o q, ne⟩
  · intro X hP hw hK hc i pins s σ H E I hf st hg
    subst hP hw hK
    obtain ⟨⟨old, he⟩, hit, ne⟩ := st
    obtain ⟨xs, x, hq, hx⟩ := hg
    obtain ⟨its, rv, p, hz⟩ := I.tuple hq
    obtain ⟨u, hu, ru⟩ := rv.get hx
    have hl := rv.length
    have hi : i < its.length := by rw [← hl]; exact (List.getElem?_eq_some_iff.mp hx).1
    have na : a ≠ it := by obtain ⟨o, e1, _, e2⟩ := id hit; exact apart_seq p e1 e2
    have nb : a ≠ e := apart_seq p he rfl
    have D := Draws.tuple (prog := X.prog) (w := X.w) (A := X.A.in1) (I.ok.hd hc) it a na its.toArray
    have hel : e < s.heap.objs.size := Heap.lt_size he
    have hil : it < s.heap.objs.size := by obtain ⟨_, q, _⟩ := id hit; exact Heap.lt_size q
    refine wpAny_pyNext_enum_itemD D he ⟨hit, p⟩ (by simpa using hi) ne (by simp [ne, Ne.symm nb]) fun z h' tk hz' ho st' hT hsz hk => ?_
    have ez : z = u := by
      have q : its.toArray[i]? = some z := hz'
      rw [List.getElem?_toArray, hu] at q
      exact (Option.some.inj q).symm
    subst ez
    refine ⟨_, rfl, wpAny_letOwnedTupleGo_enum (s := { s with heap := h', toks := tk + 1 }) ho fun h2 he2 sb => ?_⟩
    have hT2 : h2.get? s.heap.objs.size = some { cls := .type "tuple", data := .seq #[.int i tk, z] } := (sb.2 _ (Nat.ne_of_gt hel)).trans hT
    have new : ObjOk X.prog X.w (upd H s.heap.objs.size (.tup [.int (i : Nat), x])) h2 s.heap.objs.size (.tup [.int (i : Nat), x]) :=
      ⟨by show 2 ≤ sizeLine; decide, [.int i tk, z], .cons ⟨_, rfl⟩ (.cons ru .nil), ⟨_, hT2, rfl, _, rfl⟩⟩
    have kk' : ∀ b o, b ∉ [e, it] → s.heap.get? b = some o → h2.get? b = some o := fun b o hb q => by
      simp only [List.mem_cons, List.not_mem_nil, or_false, not_or] at hb
      rw [sb.2 b hb.1]
      exact hk b o hb.1 hb.2 q
    have I1 := I.turnedNew (t' := tk + 1) kk' hf (Nat.le_refl _) new
    refine ⟨.ref s.heap.objs.size, _, I1, rfl, ⟨_, x, rfl, I.hok.fresh (Nat.le_refl _), rfl, fun ys hy => by rw [I.tuple_inj hy hq]; exact hx⟩, ⟨⟨z, ?_⟩, st'.1.at fun o q => by rw [← q]; exact sb.2 it (Ne.symm ne), ne⟩, fun b hb => ?_⟩
    · have e1 : ((i + 1 : Nat) : Int) = (i : Int) + 1 := by omega
      rw [e1]
      exact he2
    · have hlt : b < s.heap.objs.size := by
        rcases List.mem_cons.mp hb with rfl | hb
        · exact hel
        · rw [List.mem_singleton.mp hb]; exact hil
      rw [upd_ne (Nat.ne_of_lt hlt)]
      exact (hf b hb).1
  · intro X hP hw hK hc i pins s σ H E I hf st hg
    subst hP hw hK
    obtain ⟨⟨old, he⟩, hit, ne⟩ := st
    obtain ⟨xs, hq, hx⟩ := hg
    obtain ⟨its, rv, p, hz⟩ := I.tuple hq
    have na : a ≠ it := by obtain ⟨o, e1, _, e2⟩ := id hit; exact apart_seq p e1 e2
    obtain ⟨f0, f1, f2, f3, f4, f5⟩ := hf it (by simp)
    have hl := rv.length
    have D := Draws.tuple (prog := X.prog) (w := X.w) (A := X.A.in1) (I.ok.hd hc) it a na its.toArray
    have ei : i = its.toArray.size := by simp; omega
    refine wpAny_pyNext_enum_endD D he (by rw [← ei]; exact ⟨hit, p⟩) fun h' eb => ⟨rfl, I.turned (t' := s.toks) (fun b o hb q => eb b o hb q) f0 f1 f3 f4 f5⟩
  · intro A i s Q E st h
    obtain ⟨⟨_, he⟩, _⟩ := st
    exact wpAny_pyIter_enum he h
/-- enumerate(v): its new objects, v of any kind that begins a walk -/
theorem meets_enum1 {v : Value} {o : PySem.Obj} {C : Heap → Prop} (B : Begins v o C) :
    Meets (Builtin.«enumerate.__new__» ⟨[.type "enumerate", v], []⟩) (fun _ R s => C s.heap ∧
      R (.ok (.ret (.ref (s.heap.push o).objs.size))) { s with heap := (s.heap.push o).push { cls := .type "enumerate", data := .fields #[.none, .bool false, .ref s.heap.objs.size, rawInt 0, .none, .none] } }) :=
  .of_wp fun prog w A R s h => by
    obtain ⟨hp, g, d, tk, os⟩ := s
    obtain ⟨h1, h⟩ := h
    have sub := sub_enumerate
    have go : ∀ {A' : Around} {E : Value → Shared → Prop} {Q : Value → Shared → Prop}, Q (.ref hp.objs.size) ⟨hp.push o, g, d, tk, os⟩ → wpAny (model prog w) A' (pyIter v) Q E ⟨hp, g, d, tk, os⟩ := fun q => B.iter prog w _ _ ⟨hp, g, d, tk, os⟩ _ h1 q
    wp_walk using go
    refine wpAny_stack_any fun st => wpAny_pure ?_
    split
    · rename_i c _ _ _ _ _
      cases (c == Value.type "enumerate") <;> (wp_walk using go; exact ⟨_, rfl, h⟩)
    · wp_walk using go
      exact ⟨_, rfl, h⟩
theorem call_enum1 {prog : Program} {w : World} {A : Around} {E : Value → Shared → Prop} {s : Shared} {v : Value} {o : PySem.Obj} {C : Heap → Prop} {Q : Value → Shared → Prop} (B : Begins v o C) (h1 : C s.heap)
    (h : ∀ h', IsEnum h' (s.heap.objs.size + 1) s.heap.objs.size 0 .none → h'.get? s.heap.objs.size = some o → (∀ b u, s.heap.get? b = some u → h'.get? b = some u) → Q (.ref (s.heap.objs.size + 1)) { s with heap := h' }) :
    wpAny (model prog w) A (call (.type "enumerate") [v]) Q E s := by
  refine callType_new F.called_enumerate (by decide) (F.typeCall_enumerate_1 _) (F.newCall_enumerate_1 _) (fun obj => F.args_object_init_2 obj _) F.entry_enumerate_new (meets_enum1 B) ⟨h1, ?_⟩
  have hz : (s.heap.push o).objs.size = s.heap.objs.size + 1 := Heap.size_push ..
  show _ ∧ _
  rw [hz]
  have he := Heap.get?_push_size (s.heap.push o) (o := { cls := .type "enumerate", data := .fields #[.none, .bool false, .ref s.heap.objs.size, rawInt 0, .none, .none] }) rfl
  rw [hz] at he
  exact ⟨⟨_, he, rfl⟩, h _ he (Heap.get?_push_of_some _ (Heap.get?_push_size _ B.free)) fun b u q => Heap.get?_push_of_some _ (Heap.get?_push_of_some _ q)⟩
/-- enumerate(xs), a list or a tuple -/
def iEnumA (K : PySem.W.Frag) (ta : TA) : TI := fun σ H R => ta σ H fun vs H1 => ∃ a xs, vs = [.ref a] ∧ ((SqL K H1 a xs ∧ R (Ite K a) H1) ∨ (SqT K H1 a xs ∧ R (Iet K a) H1))
theorem pi_enumA {X : Cx} {e : Expr} {ta : TA} {p pos tpos : Pos} {elts : List Expr} {kk : Nat} (hg : Gl X "enumerate") (hm : X.mg "enumerate" = none) (ha : PA X [e] ta) (hs : starEach [e] X.env = [(false, eval e X.env)]) :
    PI X (.Tuple elts kk tpos) (.Call (.Name "enumerate" p) [e] [] pos) (iEnumA X.K ta) := by
  refine ⟨fun pins s σ H R I h => ?_⟩
  refine Call_ (ld_blt I hg hm boot_enumerate (callWith_type1 (thn (ha.run pos pins s σ H _ I h) fun us s1 ⟨vs, H1, I1, r1, a, xs, ex, q⟩ => ?_) hs rfl))
  subst ex
  cases r1 with
  | cons r rr =>
    cases rr
    cases r
    have fp : ∀ b ∈ [s1.heap.objs.size + 1, s1.heap.objs.size], FpOk X pins H1 b := fun b hb => by
      have hle : s1.heap.objs.size ≤ b := by
        rcases List.mem_cons.mp hb with rfl | hb
        · exact Nat.le_succ _
        · rw [List.mem_singleton.mp hb]; exact Nat.le_refl _
      exact I1.fpOk hle (I1.hok.fresh hle)
    rcases q with ⟨hq, q⟩ | ⟨hq, q⟩
    · obtain ⟨its, rv, p', hz⟩ := I1.list hq
      refine call_enum1 (begins_list a its.toArray) p'.isList fun h' he ho hk => wpAny_pyIter_enum he ?_
      exact ⟨s1.heap.objs.size + 1, _, _, _, H1, rfl, I1.kept (t' := s1.toks) hk, turn_enum a (s1.heap.objs.size + 1) s1.heap.objs.size, ⟨⟨.none, he⟩, ⟨_, ho, rfl, rfl⟩, Nat.succ_ne_self _⟩, fp, q⟩
    · obtain ⟨its, rv, p', hz⟩ := I1.tuple hq
      refine call_enum1 (begins_tuple a its.toArray) p' fun h' he ho hk => wpAny_pyIter_enum he ?_
      exact ⟨s1.heap.objs.size + 1, _, _, _, H1, rfl, I1.kept (t' := s1.toks) hk, turn_et a (s1.heap.objs.size + 1) s1.heap.objs.size, ⟨⟨.none, he⟩, ⟨_, ho, rfl, rfl⟩, Nat.succ_ne_self _⟩, fp, q⟩
end Mn
end -- Sd14
section -- Sd15
set_option linter.all false
set_option autoImplicit false
set_option maxRecDepth 100000
namespace Mn
open PySem L2

/-- a call of a value: f is called with values by place and by name -/
def CallOk (W : Wo) (k : Nat) (f : Value) (n : Nat) (ks : List Str) (g : List Val → List (Str × Val) → Mem → Res Val) : Prop :=
  ∀ (X : Cx), At W X → Room k X.A → X.A.guards = some [] → ∀ (pins : List (Addr × PySem.Obj)) (σ : L2.St) (s : Shared) (H : Hp) (φ : List Addr) (M : Mem) (vs ws : List Val) (xs ys : List V) (us zs : List Value) (v : Val) (M' : Mem) (Q : VK),
    Inv X pins σ H s → RM W φ M H → vs.length = n → ws.length = ks.length → RVs W φ H vs xs → RVs W φ H ws ys → Vals xs us → Vals ys zs → g vs (ks.zip ws) M = .ok v M' → Kont W φ H v M' Q →
    wpAny (model X.prog X.w) X.A (call f us (ks.zip zs)) (EP X pins σ Q) X.xe s
structure Facts (W : Wo) (G : GT) (Γ : Gam) (k : Nat) : Prop where
  blt : ∀ x, G.blt.contains x = true → W.mg x = none
  glb : ∀ x v, Γ.glob x = some v → ∃ u uv, W.mg x = some uv ∧ RelV u uv ∧ ∀ φ H, RV W φ H v u
  fld : ∀ C f, Γ.fld C f = true → ∃ Ca, W.mg C = some (.ref Ca) ∧ Cls W.K Ca ∧ NoAttr W.K Ca f
  call : ∀ f n ks, cSig G f n ks = true → ∃ fa, W.mg f = some (.ref fa) ∧ PySem.W.keepIn W.K (.ref fa) = true ∧ CallOk W k (.ref fa) n ks fun vs kw M => Γ.call f vs kw M
  make : ∀ C n ks, cSigC G C n ks = true → ∃ Ca, W.mg C = some (.ref Ca) ∧ PySem.W.keepIn W.K (.ref Ca) = true ∧ CallOk W k (.ref Ca) n ks fun vs kw M => Γ.make C vs kw M
  meth : ∀ C m n ks, cSigM G C m n ks = true → ∃ Ca ga, W.mg C = some (.ref Ca) ∧ Cls W.K Ca ∧ Meth W.K Ca m ga ∧ CallOk W k (.ref ga) (n + 1) ks fun vs kw M => Γ.call (C ++ Str.ofString "." ++ m) vs kw M
/-- X runs what c tells -/
structure OkX (W : Wo) (G : GT) (Γ : Gam) (k : Nat) (c : CC) (X : Cx) : Prop where
  facts : Facts W G Γ k
  at_ : At W X
  sc : X.env.scope = c.sc
  N : X.N = c.N
  nd : X.N.Nodup
  fn : X.fn = c.fn
  calm : X.calm = true
  room : Room k X.A
  grd : X.A.guards = some []
  xe : X.xe = fun _ _ => False
def RecOk (W : Wo) (G : GT) (Γ : Gam) (k : Nat) (rec : CC → Expr → Option E) : Prop :=
  ∀ (c : CC) (X : Cx) (e : Expr) (x : E), OkX W G Γ k c X → rec c e = some x → PE X e (lE W (evE Γ x)) ∧ PT X e (lT W (evT Γ x))

theorem optAll_map {α β : Type} {f : α → Option β} : ∀ {l : List α} {r : List β}, optAll (l.map f) = some r → Paired (fun a b => f a = some b) l r
  | [], r, h => by cases h; exact .nil
  | a :: l, r, h => by
    rw [List.map_cons] at h
    cases e : f a with
    | none => rw [e] at h; cases h
    | some b =>
      rw [e] at h
      have h : (optAll (l.map f)).map (b :: ·) = some r := h
      cases e2 : optAll (l.map f) with
      | none => rw [e2] at h; cases h
      | some bs => rw [e2] at h; cases h; exact .cons e (optAll_map e2)
theorem star_cons {e : Expr} {es : List Expr} {env : PySem.Env} (h : isStar e = false) : starEach (e :: es) env = (false, eval e env) :: starEach es env := by
  cases e <;> first | rfl | (cases h; done)
theorem star_any {env : PySem.Env} {pos : Pos} : ∀ {es : List Expr}, es.any isStar = false → (backTo pos (starEach es env)).any (·.1) = false
  | [], _ => rfl
  | e :: es, h => by
    rw [List.any_cons, Bool.or_eq_false_iff] at h
    rw [star_cons h.1]
    show (false || (backTo pos (starEach es env)).any (·.1)) = false
    rw [star_any h.2]; rfl
theorem star_all {env : PySem.Env} {pos : Pos} : ∀ {es : List Expr}, es.any isStar = false → (backTo pos (starEach es env)).all (fun x => !x.1) = true
  | [], _ => rfl
  | e :: es, h => by
    rw [List.any_cons, Bool.or_eq_false_iff] at h
    rw [star_cons h.1]
    show (true && (backTo pos (starEach es env)).all (fun x => !x.1)) = true
    rw [star_all h.2]; rfl
theorem glB_gl {X : Cx} {c : CC} (hs : X.env.scope = c.sc) {x : Str} (h : glB c.sc x = true) : Gl X x := by
  unfold glB at h
  show X.env.scope.names.lookup x = _
  rw [hs]
  split at h
  · assumption
  · cases h
theorem okN_d {x : Str} (h : okN x = true) : (x == ("__debug__" : Str)) = false ∧ (x == ("__classdict__" : Str)) = false := by
  unfold okN at h
  simpa using h
theorem visB_vis {sc : Scope} {x : Str} (h : visB sc x = true) : Vis sc x := by
  unfold visB at h
  split at h
  · exact .inl (by assumption)
  · exact .inr (.inl (by assumption))
  · exact .inr (.inr (by assumption))
  · cases h
theorem slotOf_at {c : CC} {x : Str} {i : Nat} (h : slotOf c x = some i) : c.N[i]? = some x ∧ okN x = true := by
  unfold slotOf at h
  split at h
  · rename_i ho
    obtain ⟨hl, h1, _⟩ := List.findIdx?_eq_some_iff_getElem.mp h
    have e : c.N[i] = x := by simpa using h1
    exact ⟨by rw [← e]; simp [hl], ho⟩
  · cases h
section
variable {W : Wo} {G : GT} {Γ : Gam} {k : Nat} {c : CC} {X : Cx} {rec : CC → Expr → Option E}
theorem OkX.units (ok : OkX W G Γ k c X) : X.A.units + 80 < cLine := by have := ok.room.un; omega
theorem recs_ok {es : List Expr} {xs : List E} (h : recs rec c es = some xs) : es.length ≤ 1000 ∧ es.any isStar = false ∧ Paired (fun e x => rec c e = some x) es xs := by
  unfold recs at h
  split at h
  · rename_i hc
    rw [Bool.and_eq_true, decide_eq_true_eq, Bool.not_eq_true'] at hc
    exact ⟨hc.1, hc.2, optAll_map h⟩
  · cases h
theorem evEs_len {Γ : Gam} : ∀ {xs : List E} {ρ : Env} {M M' : Mem} {vs : List Val}, evEs Γ xs ρ M = .ok vs M' → vs.length = xs.length
  | [], ρ, M, M', vs, h => by cases h; rfl
  | x :: xs, ρ, M, M', vs, h => by
    have h : (evE Γ x ρ M).bind (fun v M => (evEs Γ xs ρ M).bind fun vs M => .ok (v :: vs) M) = .ok vs M' := h
    obtain ⟨a, M1, h1, h2⟩ := Res.bind_ok h
    obtain ⟨as, M2, h3, h4⟩ := Res.bind_ok h2
    cases h4
    rw [List.length_cons, List.length_cons, evEs_len h3]
theorem pa_list (ok : OkX W G Γ k c X) (hr : RecOk W G Γ k rec) {es : List Expr} {xs : List E} (h : Paired (fun e x => rec c e = some x) es xs) (hs : es.any isStar = false) : PA X es (lA W (evEs Γ xs)) := by
  induction h with
  | nil =>
    refine pa_weak pa_nil ?_
    rintro σ H Q ⟨φ, M, ρ, vs, M', r, re, e, q⟩
    cases e
    exact q φ H [] .refl r .nil
  | @cons e x es xs h hs' ih =>
    rw [List.any_cons, Bool.or_eq_false_iff] at hs
    refine pa_weak (pa_cons (hr c X e x ok h).1 (ih hs.2) (star_cons hs.1)) ?_
    rintro σ H Q ⟨φ, M, ρ, vs, M', r, re, ev, q⟩
    have ev : (evE Γ x ρ M).bind (fun v M => (evEs Γ xs ρ M).bind fun vs M => .ok (v :: vs) M) = .ok vs M' := ev
    obtain ⟨a, M1, h1, h2⟩ := Res.bind_ok ev
    obtain ⟨as, M2, h3, h4⟩ := Res.bind_ok h2
    cases h4
    exact ⟨φ, M, ρ, a, M1, r, re, h1, fun φ1 H1 u e1 r1 ru => ⟨φ1, M1, ρ, as, _, r1, re.mono e1, h3, fun φ2 H2 us e2 r2 rus => q φ2 H2 (u :: us) (e1.trans e2) r2 (.cons (ru.mono e2) rus)⟩⟩
/-- the truth of a value as a test -/
theorem pt_of (ok : OkX W G Γ k c X) {e : Expr} {x : E} (h : PE X e (lE W (evE Γ x))) (he : ∀ whole, isTrue e X.env whole = (do let v ← whole; standAt e.pos; holding [v] (truthy v))) : PT X e (lT W (evT Γ x)) := by
  refine pt_weak (pt_truth h he) ?_
  rintro σ H Q ⟨φ, M, ρ, b, M', r, re, e, q⟩
  obtain ⟨a, M1, h1, h2⟩ := Res.bind_ok e
  obtain ⟨h3, rfl⟩ := ofO_ok h2
  exact ⟨φ, M, ρ, a, M1, r, re, h1, fun φ1 H1 u e1 r1 ru => ⟨b, by rw [ok.at_.K]; exact truth_ok r1 ru h3, q φ1 H1 e1 r1⟩⟩
theorem pe_const {v : Val} {u : V} {e : Expr} {x : E} (h : PE X e (tC u)) (hx : ∀ ρ M, evE Γ x ρ M = .ok v M) (hr : ∀ φ H, RV W φ H v u) : PE X e (lE W (evE Γ x)) := by
  refine pe_weak h ?_
  rintro σ H Q ⟨φ, M, ρ, v', M', r, re, e, q⟩
  rw [hx] at e
  cases e
  exact q φ H u .refl r (hr φ H)
theorem c_name (ok : OkX W G Γ k c X) {s : Str} {x : E} {pos : Pos} (h : cName G c s = some x) : PE X (.Name s pos) (lE W (evE Γ x)) := by
  unfold cName at h
  split at h
  · rename_i hv
    cases e : slotOf c s with
    | none => rw [e] at h; cases h
    | some i =>
      rw [e] at h
      cases h
      obtain ⟨hN, ho⟩ := slotOf_at e
      obtain ⟨d1, d2⟩ := okN_d ho
      refine pe_weak (pe_var (i := i) (by rw [ok.N]; exact hN) (by rw [ok.sc]; exact visB_vis hv) d1 d2) ?_
      rintro σ H Q ⟨φ, M, ρ, v, M', r, re, e, q⟩
      have e : (match ρ[i]? with | some (some v) => Res.ok v M | _ => .stuck) = .ok v M' := e
      split at e
      · rename_i w hw
        cases e
        obtain ⟨u, h1, h2⟩ := re.get i _ hw
        exact ⟨u, h1, q φ H u .refl r h2⟩
      · cases e
  · split at h
    · rename_i hg
      rw [Bool.and_eq_true] at hg
      obtain ⟨d1, d2⟩ := okN_d hg.2
      split at h
      · cases h
        refine ⟨fun pins st σ H Q I hw => ?_⟩
        obtain ⟨φ, M, ρ, v, M', r, re, e, q⟩ := hw
        obtain ⟨e2, rfl⟩ := ofO_ok (show ofO (Γ.glob s) M = .ok v M' from e)
        obtain ⟨u, uv, h1, h2, h3⟩ := ok.facts.glb s v e2
        exact (pe_glob (v := u) (u := uv) (glB_gl ok.sc hg.1) (by rw [ok.at_.mg]; exact h1) h2 d1).run pins st σ H Q I (q φ H u .refl r (h3 φ H))
      · split at h
        · rename_i hb
          unfold bltB at hb
          simp only [Bool.and_eq_true, Bool.not_eq_true', beq_eq_false_iff_ne] at hb
          obtain ⟨⟨⟨b1, b2⟩, b3⟩, b4⟩ := hb
          cases e : tyOf s with
          | none => rw [e] at h; cases h
          | some t =>
            rw [e] at h
            cases h
            have hm : X.mg s = none := by rw [ok.at_.mg]; exact ok.facts.blt s b2
            have hv : bootBuiltins s = some (.type t) := by
              unfold tyOf at e
              split at e
              · rename_i z; subst z; cases e; exact PyProof.Rows.boot_int
              · split at e
                · rename_i z; subst z; cases e; exact PyProof.Rows.boot_bool
                · split at e
                  · rename_i z; subst z; cases e; exact PyProof.Rows.boot_str
                  · split at e
                    · rename_i z; subst z; cases e; exact PyProof.Rows.boot_tuple
                    · split at e
                      · rename_i z; subst z; cases e; exact PyProof.Rows.boot_list
                      · split at e
                        · rename_i z; subst z; cases e; exact PyProof.Rows.boot_dict
                        · cases e
            exact pe_const (v := .ty t) (u := .ty t) (pe_bltn (glB_gl ok.sc hg.1) hm hv rfl b4 d1) (fun _ _ => rfl) fun _ _ => .ty t
        · cases h
    · cases h
theorem c_const {q : Const} {x : E} {j : Nat} {pos : Pos} (h : cConst q = some x) : PE X (.Constant q j pos) (lE W (evE Γ x)) := by
  cases q with
  | none => cases h; exact pe_const (v := .non) pe_non (fun _ _ => rfl) fun _ _ => .non
  | bool b => cases h; exact pe_const (v := .bl b) pe_bl (fun _ _ => rfl) fun _ _ => .bl b
  | int i => cases h; exact pe_const (v := .int i) pe_int (fun _ _ => rfl) fun _ _ => .int i
  | str z => cases h; exact pe_const (v := .str z) pe_str (fun _ _ => rfl) fun _ _ => .str z
  | _ => cases h
theorem c_tup (ok : OkX W G Γ k c X) (hr : RecOk W G Γ k rec) {es : List Expr} {xs : List E} (h : recs rec c es = some xs) {j : Nat} {pos : Pos} : PE X (.Tuple es j pos) (lE W (evE Γ (.tup xs))) := by
  obtain ⟨h1, h2, h3⟩ := recs_ok h
  refine pe_weak (pe_tup (pa_list ok hr h3 h2)) ?_
  rintro σ H Q ⟨φ, M, ρ, v, M', r, re, e, q⟩
  have e : (evEs Γ xs ρ M).bind (fun vs M => Res.ok (.tup vs) M) = .ok v M' := e
  obtain ⟨vs, M1, e1, e2⟩ := Res.bind_ok e
  cases e2
  refine ⟨φ, M, ρ, vs, _, r, re, e1, fun φ1 H1 us x1 r1 rus => ⟨?_, fun p hp => (q.step x1).tup r1 rus hp⟩⟩
  rw [← rus.length, evEs_len e1, ← Paired.length h3, sizeLine_eq]
  omega
theorem c_lst (ok : OkX W G Γ k c X) (hr : RecOk W G Γ k rec) {es : List Expr} {xs : List E} (h : recs rec c es = some xs) {pos : Pos} : PE X (.List es pos) (lE W (evE Γ (.lst xs))) := by
  obtain ⟨h1, h2, h3⟩ := recs_ok h
  refine pe_weak (pe_lst (pa_list ok hr h3 h2)) ?_
  rintro σ H Q ⟨φ, M, ρ, v, M', r, re, e, q⟩
  have e : (evEs Γ xs ρ M).bind (fun vs M => new (.lst vs) M) = .ok v M' := e
  obtain ⟨vs, M1, e1, e2⟩ := Res.bind_ok e
  cases e2
  refine ⟨φ, M, ρ, vs, _, r, re, e1, fun φ1 H1 us x1 r1 rus => ⟨?_, fun p hp => (q.step x1).new r1 hp rfl ⟨_, upd_same, rus.mono (Ext.new hp)⟩⟩⟩
  rw [← rus.length, evEs_len e1, ← Paired.length h3, sizeLine_eq]
  omega
theorem c_dct {pos : Pos} : PE X (.Dict [] [] pos) (lE W (evE Γ (.dct [] []))) := by
  refine pe_weak pe_dnewK ?_
  rintro σ H Q ⟨φ, M, ρ, v, M', r, re, e, q⟩
  cases e
  exact fun p hp => q.new r hp rfl (.inl ⟨rfl, _, upd_same, .nil⟩)
/-- two expressions in a row, then an operation -/
theorem two_weak {r : R2} {g : Val → Val → Mem → Res Val} {f : Env → Mem → Res Val} {x y : E} (hr : ∀ a b H Q, l2 W g a b H Q → r a b H Q) (hf : ∀ ρ M, f ρ M = (evE Γ x ρ M).bind fun a M => (evE Γ y ρ M).bind fun b M => g a b M) :
    ∀ σ H Q, lE W f σ H Q → tOp r (lE W (evE Γ x)) (lE W (evE Γ y)) σ H Q := by
  rintro σ H Q ⟨φ, M, ρ, v, M', r0, re, e, q⟩
  rw [hf] at e
  obtain ⟨a, M1, e1, e2⟩ := Res.bind_ok e
  obtain ⟨b, M2, e3, e4⟩ := Res.bind_ok e2
  exact ⟨φ, M, ρ, a, M1, r0, re, e1, fun φ1 H1 u x1 r1 ru => ⟨φ1, M1, ρ, b, M2, r1, re.mono x1, e3, fun φ2 H2 w x2 r2 rw' => hr _ _ _ _ ⟨φ2, M2, a, b, v, M', r2, ru.mono x2, rw', e4, q.step (x1.trans x2)⟩⟩⟩
theorem c_bin (ok : OkX W G Γ k c X) {a b : Expr} {op : Operator} {x y : E} {pos : Pos} (ha : PE X a (lE W (evE Γ x))) (hb : PE X b (lE W (evE Γ y))) : PE X (.BinOp a op b pos) (lE W (evE Γ (.bin op x y))) :=
  pe_weak (pe_op (op_bin_ok ok.at_ op) ha hb) (two_weak (fun _ _ _ _ z => z) fun _ _ => rfl)
theorem c_neg {a : Expr} {x : E} {pos : Pos} (ha : PE X a (lE W (evE Γ x))) : PE X (.UnaryOp .USub a pos) (lE W (evE Γ (.neg x))) := by
  refine pe_weak (pe_un (op_neg_ok (W := W)) ha) ?_
  rintro σ H Q ⟨φ, M, ρ, v, M', r, re, e, q⟩
  obtain ⟨a, M1, e1, e2⟩ := Res.bind_ok (show (evE Γ x ρ M).bind (fun x M => match x with | .int i => .ok (.int (-i)) M | _ => .stuck) = .ok v M' from e)
  exact ⟨φ, M, ρ, a, M1, r, re, e1, fun φ1 H1 u x1 r1 ru => ⟨φ1, M1, a, v, M', r1, ru, e2, q.step x1⟩⟩
theorem c_not (ok : OkX W G Γ k c X) {a : Expr} {x : E} {pos : Pos} (ha : PE X a (lE W (evE Γ x))) (ht : PT X a (lT W (evT Γ x))) : PE X (.UnaryOp .Not a pos) (lE W (evE Γ (.not x))) ∧ PT X (.UnaryOp .Not a pos) (lT W (evT Γ (.not x))) := by
  constructor
  · refine pe_weak (pe_notT ha) ?_
    rintro σ H Q ⟨φ, M, ρ, v, M', r, re, e, q⟩
    obtain ⟨a, M1, e1, e2⟩ := Res.bind_ok (show (evE Γ x ρ M).bind (fun x M => ofO ((truth M x).map fun b => Val.bl (!b)) M) = .ok v M' from e)
    obtain ⟨e3, rfl⟩ := ofO_ok e2
    cases e4 : truth M1 a with
    | none => rw [e4] at e3; cases e3
    | some b =>
      rw [e4] at e3
      cases e3
      exact ⟨φ, M, ρ, a, M1, r, re, e1, fun φ1 H1 u x1 r1 ru => ⟨b, by rw [ok.at_.K]; exact truth_ok r1 ru e4, q φ1 H1 _ x1 r1 (.bl _)⟩⟩
  · refine pt_weak (pt_not ht) ?_
    rintro σ H Q ⟨φ, M, ρ, d, M', r, re, e, q⟩
    obtain ⟨v, M2, e0, e5⟩ := Res.bind_ok e
    obtain ⟨a, M1, e1, e2⟩ := Res.bind_ok (show (evE Γ x ρ M).bind (fun x M => ofO ((truth M x).map fun b => Val.bl (!b)) M) = .ok v M2 from e0)
    obtain ⟨e3, rfl⟩ := ofO_ok e2
    obtain ⟨e6, rfl⟩ := ofO_ok e5
    cases e4 : truth M1 a with
    | none => rw [e4] at e3; cases e3
    | some b =>
      rw [e4] at e3
      cases e3
      cases e6
      exact ⟨φ, M, ρ, b, M1, r, re, by unfold evT; rw [e1]; show ofO (truth M1 a) M1 = _; rw [e4]; rfl, fun φ1 H1 x1 r1 => q φ1 H1 x1 r1⟩
/-- a value's test again -/
theorem evT_of {x : E} {ρ : Env} {M M1 : Mem} {a : Val} {b : Bool} (e : evE Γ x ρ M = .ok a M1) (t : truth M1 a = some b) : evT Γ x ρ M = .ok b M1 := by
  unfold evT; rw [e]; show ofO (truth M1 a) M1 = _; rw [t]; rfl
theorem evT_inv {x : E} {ρ : Env} {M M1 : Mem} {b : Bool} (e : evT Γ x ρ M = .ok b M1) : ∃ a, evE Γ x ρ M = .ok a M1 ∧ truth M1 a = some b := by
  obtain ⟨a, M2, e1, e2⟩ := Res.bind_ok e
  obtain ⟨e3, rfl⟩ := ofO_ok e2
  exact ⟨a, e1, e3⟩
theorem c_ite (ok : OkX W G Γ k c X) {t a b : Expr} {x y z : E} {pos : Pos} (ht : PT X t (lT W (evT Γ x))) (ha : PE X a (lE W (evE Γ y))) (hb : PE X b (lE W (evE Γ z))) : PE X (.IfExp t a b pos) (lE W (evE Γ (.ite x y z))) := by
  refine pe_weak (pe_ifExp ht ha hb) ?_
  rintro σ H Q ⟨φ, M, ρ, v, M', r, re, e, q⟩
  obtain ⟨w, M1, e1, e2⟩ := Res.bind_ok (show (evE Γ x ρ M).bind (fun w M => match truth M w with | some true => evE Γ y ρ M | some false => evE Γ z ρ M | none => .stuck) = .ok v M' from e)
  cases e3 : truth M1 w with
  | none => rw [e3] at e2; cases e2
  | some d =>
    rw [e3] at e2
    refine ⟨φ, M, ρ, d, M1, r, re, evT_of e1 e3, fun φ1 H1 x1 r1 => ?_⟩
    cases d with
    | true => exact ⟨φ1, M1, ρ, v, M', r1, re.mono x1, e2, q.step x1⟩
    | false => exact ⟨φ1, M1, ρ, v, M', r1, re.mono x1, e2, q.step x1⟩
end
end Mn
end -- Sd15
section -- Sd16
set_option linter.all false
set_option autoImplicit false
set_option maxRecDepth 100000
namespace Mn
open PySem L2
section
variable {W : Wo} {G : GT} {Γ : Gam} {k : Nat} {c : CC} {X : Cx} {rec : CC → Expr → Option E}
/-! ### and, or -/
theorem c_bool (ok : OkX W G Γ k c X) (hr : RecOk W G Γ k rec) (op : BoolOp) {pos : Pos} : ∀ {es : List Expr} {xs : List E} {x : E}, Paired (fun e x => rec c e = some x) es xs → boolC op xs = some x →
    PE X (.BoolOp op es pos) (lE W (evE Γ x)) ∧ PW X (.BoolOp op es pos) (lT W (evT Γ x))
  | _, _, _, .nil, h => by cases h
  | _, _, _, .cons (b := y) h1 .nil, h => by
    cases h
    obtain ⟨pe, pt⟩ := hr c X _ _ ok h1
    cases op with
    | And => exact ⟨pe_one pe, pw_and1 pt⟩
    | Or => exact ⟨pe_one pe, pw_or1 pt⟩
  | _, _, x, .cons (b := y) h1 (.cons (b := y2) (l₂ := ys) h2 h3), h => by
    have h : (boolC op (y2 :: ys)).map (boolE op y) = some x := h
    cases e : boolC op (y2 :: ys) with
    | none => rw [e] at h; cases h
    | some z =>
      rw [e] at h
      obtain ⟨pe, pt⟩ := hr c X _ _ ok h1
      obtain ⟨qe, qw⟩ := c_bool ok hr op (.cons h2 h3) e
      cases op with
      | And =>
        cases h
        constructor
        · refine pe_weak (pe_andT pe qe) ?_
          rintro σ H Q ⟨φ, M, ρ, v, M', r, re, e, q⟩
          obtain ⟨a, M1, e1, e2⟩ := Res.bind_ok (show (evE Γ y ρ M).bind (fun x M => match truth M x with | some true => evE Γ z ρ M | some false => .ok x M | none => .stuck) = .ok v M' from e)
          cases e3 : truth M1 a with
          | none => rw [e3] at e2; cases e2
          | some d =>
            rw [e3] at e2
            refine ⟨φ, M, ρ, a, M1, r, re, e1, fun φ1 H1 u x1 r1 ru => ⟨d, by rw [ok.at_.K]; exact truth_ok r1 ru e3, ?_⟩⟩
            cases d with
            | true => exact ⟨φ1, M1, ρ, v, M', r1, re.mono x1, e2, q.step x1⟩
            | false => cases e2; exact q φ1 H1 u x1 r1 ru
        · refine ⟨fun wh pins s σ H Q I hw => (pw_and pt qw).run wh pins s σ H Q I ?_⟩
          obtain ⟨φ, M, ρ, b, M', r, re, e, q⟩ := hw
          obtain ⟨v, e0, e5⟩ := evT_inv e
          obtain ⟨a, M1, e1, e2⟩ := Res.bind_ok (show (evE Γ y ρ M).bind (fun x M => match truth M x with | some true => evE Γ z ρ M | some false => .ok x M | none => .stuck) = .ok v M' from e0)
          cases e3 : truth M1 a with
          | none => rw [e3] at e2; cases e2
          | some d =>
            rw [e3] at e2
            refine ⟨φ, M, ρ, d, M1, r, re, evT_of e1 e3, fun φ1 H1 x1 r1 => ?_⟩
            cases d with
            | true => exact ⟨φ1, M1, ρ, b, M', r1, re.mono x1, evT_of e2 e5, fun φ2 H2 x2 r2 => q φ2 H2 (x1.trans x2) r2⟩
            | false => cases e2; rw [e3] at e5; cases e5; exact q φ1 H1 x1 r1
      | Or =>
        cases h
        constructor
        · refine pe_weak (pe_orT pe qe) ?_
          rintro σ H Q ⟨φ, M, ρ, v, M', r, re, e, q⟩
          obtain ⟨a, M1, e1, e2⟩ := Res.bind_ok (show (evE Γ y ρ M).bind (fun x M => match truth M x with | some false => evE Γ z ρ M | some true => .ok x M | none => .stuck) = .ok v M' from e)
          cases e3 : truth M1 a with
          | none => rw [e3] at e2; cases e2
          | some d =>
            rw [e3] at e2
            refine ⟨φ, M, ρ, a, M1, r, re, e1, fun φ1 H1 u x1 r1 ru => ⟨d, by rw [ok.at_.K]; exact truth_ok r1 ru e3, ?_⟩⟩
            cases d with
            | false => exact ⟨φ1, M1, ρ, v, M', r1, re.mono x1, e2, q.step x1⟩
            | true => cases e2; exact q φ1 H1 u x1 r1 ru
        · refine ⟨fun wh pins s σ H Q I hw => (pw_or pt qw).run wh pins s σ H Q I ?_⟩
          obtain ⟨φ, M, ρ, b, M', r, re, e, q⟩ := hw
          obtain ⟨v, e0, e5⟩ := evT_inv e
          obtain ⟨a, M1, e1, e2⟩ := Res.bind_ok (show (evE Γ y ρ M).bind (fun x M => match truth M x with | some false => evE Γ z ρ M | some true => .ok x M | none => .stuck) = .ok v M' from e0)
          cases e3 : truth M1 a with
          | none => rw [e3] at e2; cases e2
          | some d =>
            rw [e3] at e2
            refine ⟨φ, M, ρ, d, M1, r, re, evT_of e1 e3, fun φ1 H1 x1 r1 => ?_⟩
            cases d with
            | false => exact ⟨φ1, M1, ρ, b, M', r1, re.mono x1, evT_of e2 e5, fun φ2 H2 x2 r2 => q φ2 H2 (x1.trans x2) r2⟩
            | true => cases e2; rw [e3] at e5; cases e5; exact q φ1 H1 x1 r1
/-! ### comparisons -/
theorem cmp_bl {op : CmpOp} {a b v : Val} {M M' : Mem} (h : cmpV op a b M = .ok v M') {d : Bool} (t : truth M' v = some d) : v = .bl d := by
  obtain ⟨q, h1, h2, h3⟩ := cmpV_ok h
  subst h2
  cases t
  rfl
theorem c_cmp (ok : OkX W G Γ k c X) {a b : Expr} {op : CmpOp} {x y : E} {pos : Pos} (ha : PE X a (lE W (evE Γ x))) (hb : PE X b (lE W (evE Γ y))) (hm : behindInMarks op b = false) :
    PE X (.Compare a [op] [b] pos) (lE W (evE Γ (.cmp op x y))) ∧ PT X (.Compare a [op] [b] pos) (lT W (evT Γ (.cmp op x y))) := by
  have two := two_weak (W := W) (Γ := Γ) (r := l2 W (cmpV op)) (g := cmpV op) (f := evE Γ (.cmp op x y)) (x := x) (y := y) (fun _ _ _ _ z => z) fun _ _ => rfl
  constructor
  · exact pe_weak (pe_cmpR (op_cmp_ok ok.at_ ok.units op) ha hb hm) two
  · refine pt_weak (pt_cmpR (op_cmp_ok ok.at_ ok.units op) ha hb hm) ?_
    rintro σ H Q ⟨φ, M, ρ, d, M', r, re, e, q⟩
    obtain ⟨v, e0, e5⟩ := evT_inv e
    refine two σ H _ ⟨φ, M, ρ, v, M', r, re, e0, fun φ1 H1 u x1 r1 ru => ?_⟩
    obtain ⟨p, M1, e1, e2⟩ := Res.bind_ok (show (evE Γ x ρ M).bind (fun p M => (evE Γ y ρ M).bind fun t M => cmpV op p t M) = .ok v M' from e0)
    obtain ⟨t, M2, e3, e4⟩ := Res.bind_ok e2
    have ev := cmp_bl e4 e5
    subst ev
    cases ru
    exact ⟨d, rfl, q φ1 H1 x1 r1⟩
theorem c_chain (ok : OkX W G Γ k c X) {a b d : Expr} {op op' : CmpOp} {x y z : E} {pos : Pos} (ha : PE X a (lE W (evE Γ x))) (hb : PE X b (lE W (evE Γ y))) (hd : PE X d (lE W (evE Γ z))) (hm : behindInMarks op' d = false) :
    PE X (.Compare a [op, op'] [b, d] pos) (lE W (evE Γ (.chain op op' x y z))) ∧ PT X (.Compare a [op, op'] [b, d] pos) (lT W (evT Γ (.chain op op' x y z))) := by
  have main : ∀ σ H Q, lE W (evE Γ (.chain op op' x y z)) σ H Q → tChain (l2 W (cmpV op)) (l2 W (cmpV op')) (lE W (evE Γ x)) (lE W (evE Γ y)) (lE W (evE Γ z)) σ H Q := by
    rintro σ H Q ⟨φ, M, ρ, v, M', r, re, e, q⟩
    obtain ⟨p, M1, e1, e2⟩ := Res.bind_ok (show (evE Γ x ρ M).bind (fun x M => (evE Γ y ρ M).bind fun y M => match cmpop op x y M with
      | some true => (evE Γ z ρ M).bind fun z M => ofO ((cmpop op' y z M).map .bl) M
      | some false => .ok (.bl false) M
      | none => .stuck) = .ok v M' from e)
    obtain ⟨t, M2, e3, e4⟩ := Res.bind_ok e2
    refine ⟨φ, M, ρ, p, M1, r, re, e1, fun φ1 H1 u x1 r1 ru => ⟨φ1, M1, ρ, t, M2, r1, re.mono x1, e3, fun φ2 H2 w x2 r2 rw' => ?_⟩⟩
    cases e5 : cmpop op p t M2 with
    | none => rw [e5] at e4; cases e4
    | some m =>
      rw [e5] at e4
      refine ⟨φ2, M2, p, t, .bl m, M2, r2, ru.mono x2, rw', by unfold cmpV; rw [e5]; rfl, fun φ3 H3 uu x3 r3 ruu => ?_⟩
      cases ruu
      refine ⟨m, rfl, ?_⟩
      cases m with
      | true =>
        obtain ⟨s, M3, e6, e7⟩ := Res.bind_ok e4
        exact ⟨φ3, M2, ρ, s, M3, r3, re.mono (x1.trans (x2.trans x3)), e6, fun φ4 H4 us x4 r4 rus => ⟨φ4, M3, t, s, v, M', r4, rw'.mono (x3.trans x4), rus, e7, q.step (x1.trans (x2.trans (x3.trans x4)))⟩⟩
      | false => cases e4; exact q φ3 H3 _ (x1.trans (x2.trans x3)) r3 (.bl _)
  have lm : lastMarks [op, op'] [b, d] = false := hm
  constructor
  · exact pe_weak (pe_chain (op_cmp_ok ok.at_ ok.units op) (op_cmp_ok ok.at_ ok.units op') ha hb hd lm) main
  · refine pt_weak (pt_chain (op_cmp_ok ok.at_ ok.units op) (op_cmp_ok ok.at_ ok.units op') ha hb hd lm) ?_
    rintro σ H Q ⟨φ, M, ρ, w, M', r, re, e, q⟩
    obtain ⟨v, e0, e5⟩ := evT_inv e
    refine main σ H _ ⟨φ, M, ρ, v, M', r, re, e0, fun φ1 H1 u x1 r1 ru => ?_⟩
    have ev : v = .bl w := by
      obtain ⟨p, M1, e1, e2⟩ := Res.bind_ok (show (evE Γ x ρ M).bind (fun x M => (evE Γ y ρ M).bind fun y M => match cmpop op x y M with
        | some true => (evE Γ z ρ M).bind fun z M => ofO ((cmpop op' y z M).map .bl) M
        | some false => .ok (.bl false) M
        | none => .stuck) = .ok v M' from e0)
      obtain ⟨t, M2, e3, e4⟩ := Res.bind_ok e2
      cases e6 : cmpop op p t M2 with
      | none => rw [e6] at e4; cases e4
      | some m =>
        rw [e6] at e4
        cases m with
        | true =>
          obtain ⟨s, M3, e7, e8⟩ := Res.bind_ok e4
          exact cmp_bl (op := op') e8 e5
        | false => cases e4; cases e5; rfl
    subst ev
    cases ru
    exact ⟨w, rfl, q φ1 H1 x1 r1⟩
/-! ### attributes, subscripts, slices -/
theorem base_of {o : Expr} {f : Str} {env : PySem.Env} {wh : Sem Value} (h : isBare o = false) : attributeBase o f env wh = wh := by
  unfold attributeBase
  split
  · cases h
  · rfl
theorem c_attr (ok : OkX W G Γ k c X) {o : Expr} {f : Str} {x : E} {pos : Pos} (ho : PE X o (lE W (evE Γ x))) (hb : isBare o = false) : PE X (.Attribute o f pos) (lE W (evE Γ (.attr x f))) := by
  refine pe_weak (pe_fld ho (base_of hb)) ?_
  rintro σ H Q ⟨φ, M, ρ, v, M', r, re, e, q⟩
  obtain ⟨a, M1, e1, e2⟩ := Res.bind_ok (show (evE Γ x ρ M).bind (fun x M => match x with
    | .ref n => match M[n]? with
      | some (.ins C fs) => if Γ.fld C f then ofO (fs.lookup f) M else .stuck
      | _ => .stuck
    | _ => .stuck) = .ok v M' from e)
  refine ⟨φ, M, ρ, a, M1, r, re, e1, fun φ1 H1 u x1 r1 ru => ?_⟩
  cases ru with
  | @ref n ad hn =>
    dsimp only at e2
    split at e2
    · rename_i C fs em
      split at e2
      · rename_i hf
        obtain ⟨e3, rfl⟩ := ofO_ok e2
        obtain ⟨Ca, dx, us, g1, g2, g3⟩ := r1.obj n _ ad em hn
        obtain ⟨Cb, f1, f2, f3⟩ := ok.facts.fld C f hf
        have ec : Cb = Ca := by rw [g1] at f1; cases f1; rfl
        subst ec
        obtain ⟨w, l1, l2⟩ : ∃ w, us.lookup f = some w ∧ RV W φ1 H1 v w := by
          clear e2 hf em g2
          revert e3
          induction g3 with
          | nil => intro e3; cases e3
          | @cons p q ps qs hh hs ih =>
            obtain ⟨p1, p2⟩ := p
            obtain ⟨q1, q2⟩ := q
            obtain ⟨h1, h2⟩ := hh
            dsimp only at h1 h2
            subst h1
            intro e3
            rw [List.lookup_cons] at e3
            rw [List.lookup_cons]
            cases z : f == p1 with
            | true => rw [z] at e3; cases e3; exact ⟨q2, rfl, h2⟩
            | false => rw [z] at e3; exact ih e3
        exact ⟨ad, Cb, dx, us, w, rfl, g2, by rw [ok.at_.K]; exact f2, by rw [ok.at_.K]; exact f3, l1, q φ1 H1 w x1 r1 l2⟩
      · cases e2
    · cases e2
  | _ => cases e2
theorem c_idx (ok : OkX W G Γ k c X) {a i : Expr} {x y : E} {pos : Pos} (ha : PE X a (lE W (evE Γ x))) (hi : PE X i (lE W (evE Γ y))) (hs : isSlice i = false) : PE X (.Subscript a i pos) (lE W (evE Γ (.idx x y))) :=
  pe_weak (pe_ix (ix_ok ok.at_ (by have := ok.units; omega)) ha hi (fun o j => by cases i <;> first | rfl | (cases hs; done))) (two_weak (fun _ _ _ _ z => z) fun _ _ => rfl)
def lO (W : Wo) (f : Env → Mem → Res (Option Int)) : TO := fun σ H Q => ∃ φ M ρ o M', RM W φ M H ∧ RE W φ H ρ σ ∧ f ρ M = .ok o M' ∧ ∀ φ' H', Ext W φ H φ' H' → RM W φ' M' H' → Q o H'
theorem po_of (ok : OkX W G Γ k c X) (hr : RecOk W G Γ k rec) {p : Option Expr} {l : E} (h : cPart rec c p = some l) : PO X p (lO W fun ρ M => part l.isNon (evE Γ l ρ M) M) := by
  cases p with
  | none =>
    cases h
    refine ⟨fun pins s σ H Q I hw => po_none.run pins s σ H Q I ?_⟩
    obtain ⟨φ, M, ρ, o, M', r, re, e, q⟩ := hw
    cases e
    exact q φ H .refl r
  | some e =>
    have h : (rec c e).bind (fun x => if x.isNon then none else some x) = some l := h
    cases e1 : rec c e with
    | none => rw [e1] at h; cases h
    | some x =>
      rw [e1] at h
      have h : (if x.isNon then none else some x) = some l := h
      split at h
      · cases h
      · rename_i hn
        cases h
        have hn : l.isNon = false := by simpa using hn
        refine ⟨fun pins s σ H Q I hw => (po_some (hr c X e l ok e1).1).run pins s σ H Q I ?_⟩
        obtain ⟨φ, M, ρ, o, M', r, re, ev, q⟩ := hw
        rw [hn] at ev
        obtain ⟨a, M1, e2, e3⟩ := Res.bind_ok (show (evE Γ l ρ M).bind (fun v M => match v with | .int i => Res.ok (some i) M | _ => .stuck) = .ok o M' from ev)
        refine ⟨φ, M, ρ, a, M1, r, re, e2, fun φ1 H1 u x1 r1 ru => ?_⟩
        cases ru with
        | int i => cases e3; exact ⟨i, rfl, q φ1 H1 x1 r1⟩
        | _ => cases e3
theorem c_sl (ok : OkX W G Γ k c X) (hr : RecOk W G Γ k rec) {a : Expr} {lo hi : Option Expr} {x l h : E} {p2 pos : Pos} (ha : PE X a (lE W (evE Γ x))) (hl : cPart rec c lo = some l) (hh : cPart rec c hi = some h) : PE X (.Subscript a (.Slice lo hi none p2) pos) (lE W (evE Γ (.sl x l h))) := by
  refine pe_weak (pe_slice (sl_ok ok.at_) ha (po_of ok hr hl) (po_of ok hr hh)) ?_
  rintro σ H Q ⟨φ, M, ρ, v, M', r, re, e, q⟩
  obtain ⟨a, M1, e1, e2⟩ := Res.bind_ok (show (evE Γ x ρ M).bind (fun x M => (part l.isNon (evE Γ l ρ M) M).bind fun l M => (part h.isNon (evE Γ h ρ M) M).bind fun h M => sliceB x l h M) = .ok v M' from e)
  obtain ⟨o1, M2, e3, e4⟩ := Res.bind_ok e2
  obtain ⟨o2, M3, e5, e6⟩ := Res.bind_ok e4
  exact ⟨φ, M, ρ, a, M1, r, re, e1, fun φ1 H1 u x1 r1 ru => ⟨φ1, M1, ρ, o1, M2, r1, re.mono x1, e3, fun φ2 H2 x2 r2 => ⟨φ2, M2, ρ, o2, M3, r2, re.mono (x1.trans x2), e5, fun φ3 H3 x3 r3 => ⟨φ3, M3, a, v, M', r3, ru.mono (x2.trans x3), e6, q.step (x1.trans (x2.trans x3))⟩⟩⟩⟩
theorem c_slr (ok : OkX W G Γ k c X) {a : Expr} {x : E} {j : Nat} {p1 p2 p3 pos : Pos} (ha : PE X a (lE W (evE Γ x))) : PE X (.Subscript a (.Slice none none (some (.UnaryOp .USub (.Constant (.int 1) j p1) p2)) p3) pos) (lE W (evE Γ (.slr x))) := by
  refine pe_weak (pe_revL ha) ?_
  rintro σ H Q ⟨φ, M, ρ, v, M', r, re, e, q⟩
  obtain ⟨a, M1, e1, e2⟩ := Res.bind_ok (show (evE Γ x ρ M).bind (fun x M => sliceRev x M) = .ok v M' from e)
  refine ⟨φ, M, ρ, a, M1, r, re, e1, fun φ1 H1 u x1 r1 ru => ?_⟩
  cases ru with
  | @ref n ad hn =>
    have e2 : (match M1[n]? with | some (.lst vs) => new (.lst vs.reverse) M1 | _ => .stuck) = .ok v M' := e2
    split at e2
    · rename_i vs em
      cases e2
      obtain ⟨us, g1, g2⟩ := r1.lst em hn
      exact ⟨ad, us, rfl, .inl (.inl g1), fun p hp => (q.step x1).new r1 hp rfl ⟨_, upd_same, g2.reverse.mono (Ext.new hp)⟩⟩
    · cases e2
  | _ => cases e2
end
end Mn
end -- Sd16
section -- Sd17
set_option linter.all false
set_option autoImplicit false
set_option maxRecDepth 100000
namespace Mn
open PySem L2
section
variable {W : Wo} {G : GT} {Γ : Gam} {k : Nat} {c : CC} {X : Cx} {rec : CC → Expr → Option E}
/-! ### built-in functions -/
theorem bltB_ok (ok : OkX W G Γ k c X) {f : Str} (h : bltB G c f = true) : Gl X f ∧ X.mg f = none ∧ f ≠ "__name__" ∧ (f == ("__debug__" : Str)) = false := by
  unfold bltB at h
  simp only [Bool.and_eq_true, Bool.not_eq_true', beq_eq_false_iff_ne] at h
  obtain ⟨⟨⟨b1, b2⟩, b3⟩, b4⟩ := h
  exact ⟨glB_gl ok.sc b1, by rw [ok.at_.mg]; exact ok.facts.blt f b2, b4, (okN_d b3).1⟩
theorem bf_ok (ok : OkX W G Γ k c X) {f : Str} {b : BF} (h : bfOf f = some b) :
    (∃ id, bootBuiltins f = some (.builtin id) ∧ CallR X (.builtin id) (lX W (bcall b))) ∨ (∃ T, bootBuiltins f = some (.type T) ∧ CallR X (.type T) (lX W (bcall b))) := by
  have hu := ok.units
  have hu' : X.A.units + 64 < cLine := by omega
  have wa := ok.at_
  have hc := ok.calm
  have m : (f, b) ∈ bfTab := PySem.mem_of_lookup h
  unfold bfTab at m
  rcases List.mem_cons.mp m with e | m
  · cases e; exact .inl ⟨_, (by decide +kernel), call_len_ok wa hu'⟩
  rcases List.mem_cons.mp m with e | m
  · cases e; exact .inl ⟨_, PyProof.Rows.boot_min, call_min_ok wa hc hu⟩
  rcases List.mem_cons.mp m with e | m
  · cases e; exact .inl ⟨_, PyProof.Rows.boot_max, call_max_ok wa hc hu⟩
  rcases List.mem_cons.mp m with e | m
  · cases e; exact .inl ⟨_, PyProof.Rows.boot_sum, call_sum_ok wa hc⟩
  rcases List.mem_cons.mp m with e | m
  · cases e; exact .inl ⟨_, PyProof.Rows.boot_all, call_all_ok wa hc⟩
  rcases List.mem_cons.mp m with e | m
  · cases e; exact .inl ⟨_, PyProof.Rows.boot_any, call_any_ok wa hc⟩
  rcases List.mem_cons.mp m with e | m
  · cases e; exact .inl ⟨_, (by decide +kernel), call_sorted_ok wa hu⟩
  rcases List.mem_cons.mp m with e | m
  · cases e; exact .inr ⟨_, PyProof.Rows.boot_list, call_list_ok wa hc⟩
  rcases List.mem_cons.mp m with e | m
  · cases e; exact .inr ⟨_, PyProof.Rows.boot_tuple, call_tuple_ok wa⟩
  rcases List.mem_cons.mp m with e | m
  · cases e; exact .inr ⟨_, PyProof.Rows.boot_int, call_int_ok⟩
  rcases List.mem_cons.mp m with e | m
  · cases e; exact .inr ⟨_, PyProof.Rows.boot_str, call_str_ok⟩
  rcases List.mem_cons.mp m with e | m
  · cases e; exact .inl ⟨_, by decide +kernel, call_repr_ok wa hu ok.grd⟩
  rcases List.mem_cons.mp m with e | m
  · cases e; exact .inl ⟨_, PyProof.Rows.boot_abs, call_abs_ok⟩
  rcases List.mem_cons.mp m with e | m
  · cases e; exact .inl ⟨_, by decide +kernel, call_isi_ok wa⟩
  cases m
theorem tcb_weak {r : List V → Hp → VK → Prop} {b : BF} {es : List E} (hr : ∀ xs H Q, lX W (bcall b) xs H Q → r xs H Q) : ∀ σ H Q, lE W (evE Γ (.bcall b es)) σ H Q → tCB r (lA W (evEs Γ es)) σ H Q := by
  rintro σ H Q ⟨φ, M, ρ, v, M', r0, re, e, q⟩
  obtain ⟨vs, M1, e1, e2⟩ := Res.bind_ok (show (evEs Γ es ρ M).bind (fun vs M => bcall b vs M) = .ok v M' from e)
  exact ⟨φ, M, ρ, vs, M1, r0, re, e1, fun φ1 H1 us x1 r1 rus => hr _ _ _ ⟨φ1, M1, vs, v, M', r1, rus, e2, q.step x1⟩⟩
theorem c_bf (ok : OkX W G Γ k c X) (hr : RecOk W G Γ k rec) {f : Str} {p pos : Pos} {es : List Expr} {xs : List E} {b : BF} (h : recs rec c es = some xs) (hb : bltB G c f = true) (hf : bfOf f = some b) (hne : es ≠ []) : PE X (.Call (.Name f p) es [] pos) (lE W (evE Γ (.bcall b xs))) := by
  obtain ⟨hl, hs, hp⟩ := recs_ok h
  obtain ⟨g1, g2, g3, g4⟩ := bltB_ok ok hb
  have pa := pa_list ok hr hp hs
  cases es with
  | nil => exact absurd rfl hne
  | cons e es =>
    rw [List.any_cons, Bool.or_eq_false_iff] at hs
    rcases bf_ok ok hf with ⟨id, h1, h2⟩ | ⟨T, h1, h2⟩
    · exact pe_weak (pe_callB h2 g1 g2 h1 pa g3 g4 (star_cons hs.1) (star_any hs.2)) (tcb_weak fun _ _ _ z => z)
    · exact pe_weak (pe_callTy h2 g1 g2 h1 pa g3 g4 (star_cons hs.1) (star_any hs.2)) (tcb_weak fun _ _ _ z => z)
/-! ### list(range(..)) -/
theorem irange_eq : ∀ (n : Nat) (lo : Int), irange lo n = (List.range n).map fun i => Val.int (lo + (i : Nat))
  | 0, _ => rfl
  | n + 1, lo => by
    rw [List.range_succ_eq_map, List.map_cons, List.map_map]
    show Val.int lo :: irange (lo + 1) n = _
    rw [irange_eq n (lo + 1)]
    congr 1
    · simp
    · apply List.map_congr_left
      intro i _
      show Val.int (lo + 1 + (i : Nat)) = Val.int (lo + ((i + 1 : Nat) : Int))
      congr 1
      omega
theorem irange_len (n : Nat) (lo : Int) : (irange lo n).length = n := by rw [irange_eq]; simp
theorem rv_ints {φ : List Addr} {H : Hp} : ∀ (l : List Nat) (g : Nat → Int), RVs W φ H (l.map fun i => Val.int (g i)) (l.map fun i => V.int (g i))
  | [], _ => .nil
  | _ :: l, g => .cons (.int _) (rv_ints l g)
theorem rv_rg {φ : List Addr} {H : Hp} (a b : Int) : RVs W φ H (irange a (b - a).toNat) (rgV a b) := by
  rw [irange_eq]
  exact rv_ints _ _
/-- what a range's values are -/
theorem range_cases {vs l : List Val} (h : rangeOf vs = some l) (h2 : vs.length ≤ 2) : (∃ j, vs = [.int j] ∧ smallI j = true ∧ l = irange 0 j.toNat) ∨ ∃ i j, vs = [.int i, .int j] ∧ smallI i = true ∧ smallI j = true ∧ l = irange i (j - i).toNat := by
  unfold rangeOf at h
  split at h
  · split at h
    · cases h; exact .inl ⟨_, rfl, by assumption, rfl⟩
    · cases h
  · split at h
    · rename_i hs
      rw [Bool.and_eq_true] at hs
      cases h
      exact .inr ⟨_, _, rfl, hs.1, hs.2, rfl⟩
    · cases h
  · simp at h2
  · cases h
theorem smallI_ok {i : Int} (h : smallI i = true) : -(2 ^ 62) ≤ i ∧ i < 2 ^ 62 := of_decide_eq_true h
def lR (W : Wo) (f : Env → Mem → Res (List Val)) : St → Hp → (Int → Int → Hp → Prop) → Prop := fun σ H Q => ∃ φ M ρ vs l M', RM W φ M H ∧ RE W φ H ρ σ ∧ f ρ M = .ok vs M' ∧ vs.length ≤ 2 ∧ rangeOf vs = some l ∧
  ∀ φ' H' a b, Ext W φ H φ' H' → RM W φ' M' H' → smallI a = true → smallI b = true → l = irange a (b - a).toNat → Q a b H'
theorem prg_of (ok : OkX W G Γ k c X) (hr : RecOk W G Γ k rec) {g : Str} {gs : List Expr} {ys : List E} {p pos : Pos} (hg : g = "range") (hb : bltB G c g = true) (h : recs rec c gs = some ys) (hl : (gs.length == 1 || gs.length == 2) = true) : PRg X (.Call (.Name g p) gs [] pos) (lR W (evEs Γ ys)) := by
  subst hg
  obtain ⟨g1, g2, _, _⟩ := bltB_ok ok hb
  obtain ⟨_, hs, hp⟩ := recs_ok h
  cases hp with
  | nil => simp at hl
  | @cons a x as xs h1 hp =>
    rw [List.any_cons, Bool.or_eq_false_iff] at hs
    have pa := (hr c X a x ok h1).1
    cases hp with
    | nil =>
      intro pins s σ H Q I hw
      obtain ⟨φ, M, ρ, vs, l, M', r, re, e, hl2, hl3, q⟩ := hw
      obtain ⟨v, M1, e1, e2⟩ := Res.bind_ok (show (evE Γ x ρ M).bind (fun v M => (evEs Γ [] ρ M).bind fun vs M => .ok (v :: vs) M) = .ok vs M' from e)
      cases e2
      refine prg_1 g1 g2 pa (star_cons hs.1) pins s σ H Q I ⟨φ, M, ρ, v, _, r, re, e1, fun φ1 H1 u x1 r1 ru => ?_⟩
      rcases range_cases hl3 hl2 with ⟨j, ev, s1, el⟩ | ⟨i, j, ev, _⟩
      · cases ev
        cases ru
        exact ⟨j, rfl, q φ1 H1 0 j x1 r1 (by decide) s1 (by rw [Int.sub_zero]; exact el)⟩
      · cases ev
    | @cons b y bs ys h2 hp =>
      cases hp with
      | cons _ _ => simp at hl
      | nil =>
        have hs2 := hs.2
        rw [List.any_cons, Bool.or_eq_false_iff] at hs2
        have pb := (hr c X b y ok h2).1
        intro pins s σ H Q I hw
        obtain ⟨φ, M, ρ, vs, l, M', r, re, e, hl2, hl3, q⟩ := hw
        obtain ⟨v, M1, e1, e2⟩ := Res.bind_ok (show (evE Γ x ρ M).bind (fun v M => (evEs Γ [y] ρ M).bind fun vs M => .ok (v :: vs) M) = .ok vs M' from e)
        obtain ⟨us, M2, e3, e4⟩ := Res.bind_ok e2
        obtain ⟨w, M3, e5, e6⟩ := Res.bind_ok (show (evE Γ y ρ M1).bind (fun v M => (evEs Γ [] ρ M).bind fun vs M => .ok (v :: vs) M) = .ok us M2 from e3)
        cases e6
        cases e4
        refine prg_2 g1 g2 pa pb (star_cons hs.1) (star_cons hs2.1) (star_any hs.2) pins s σ H Q I ⟨φ, M, ρ, v, M1, r, re, e1, fun φ1 H1 u x1 r1 ru => ⟨φ1, M1, ρ, w, _, r1, re.mono x1, e5, fun φ2 H2 z x2 r2 rz => ?_⟩⟩
        rcases range_cases hl3 hl2 with ⟨j, ev, _⟩ | ⟨i, j, ev, s1, s2, el⟩
        · cases ev
        · cases ev
          cases ru
          cases rz
          exact ⟨i, j, rfl, rfl, q φ2 H2 i j (x1.trans x2) r2 s1 s2 el⟩
theorem c_rng (ok : OkX W G Γ k c X) (hr : RecOk W G Γ k rec) {f : Str} {p pos : Pos} {es : List Expr} {x : E} (hb : bltB G c f = true) (h : cRng G rec c f es = some x) : PE X (.Call (.Name f p) es [] pos) (lE W (evE Γ x)) := by
  unfold cRng at h
  split at h
  · rename_i g gp gs gpos
    split at h
    · rename_i hc
      simp only [Bool.and_eq_true, Bool.or_eq_true, decide_eq_true_eq] at hc
      obtain ⟨⟨⟨h1, h2⟩, h3⟩, h4⟩ := hc
      cases e : recs rec c gs with
      | none => rw [e] at h; cases h
      | some ys =>
        rw [e] at h
        have pr := prg_of ok hr (p := gp) (pos := gpos) h2 h3 e (by simpa using h4)
        obtain ⟨g1, g2, _, _⟩ := bltB_ok ok hb
        have core : ∀ {b : BF} {σ : L2.St} {H : Hp} {Q : VK}, lE W (evE Γ (.bcall b [.rng ys])) σ H Q → ∃ φ M ρ vs l M' v M2, RM W φ M H ∧ RE W φ H ρ σ ∧ evEs Γ ys ρ M = .ok vs M' ∧ vs.length ≤ 2 ∧ rangeOf vs = some l ∧ l.length ≤ sizeLine ∧ bcall b [.tup l] M' = .ok v M2 ∧ Kont W φ H v M2 Q := fun {b σ H Q} hw => by
          obtain ⟨φ, M, ρ, v, M', r, re, ev, q⟩ := hw
          obtain ⟨us, M1, e1, e2⟩ := Res.bind_ok (show (evEs Γ [.rng ys] ρ M).bind (fun vs M => bcall b vs M) = .ok v M' from ev)
          obtain ⟨w, M2, e3, e4⟩ := Res.bind_ok (show (evE Γ (.rng ys) ρ M).bind (fun v M => (evEs Γ [] ρ M).bind fun vs M => .ok (v :: vs) M) = .ok us M1 from e1)
          cases e4
          obtain ⟨vs, M3, e5, e6⟩ := Res.bind_ok (show (evEs Γ ys ρ M).bind (fun vs M => match rangeOf vs with | some l => chk (decide (vs.length ≤ 2 ∧ l.length ≤ sizeLine)) (.ok (.tup l) M) | none => .stuck) = .ok w _ from e3)
          cases e7 : rangeOf vs with
          | none => rw [e7] at e6; cases e6
          | some l =>
            rw [e7] at e6
            obtain ⟨c1, c2⟩ := chk_ok e6
            cases c2
            obtain ⟨d1, d2⟩ := of_decide_eq_true c1
            exact ⟨φ, M, ρ, vs, l, _, v, M', r, re, e5, d1, e7, d2, e2, q⟩
        have rg : ∀ {a b : Int} {l : List Val}, smallI a = true → smallI b = true → l = irange a (b - a).toNat → l.length ≤ sizeLine → RgOk a b := fun {a b l} s1 s2 el hl => by
          subst el
          rw [irange_len, sizeLine_eq] at hl
          obtain ⟨p1, p2⟩ := smallI_ok s1
          obtain ⟨p3, p4⟩ := smallI_ok s2
          exact ⟨p1, p2, p3, p4, by omega⟩
        rcases h1 with h1 | h1
        · subst h1
          have hx : x = .bcall .list [.rng ys] := by
            have h : some (E.bcall .list [.rng ys]) = some x := h
            cases h; rfl
          subst hx
          refine pe_weak (pe_listRg ok.calm g1 g2 pr) ?_
          intro σ H Q hw
          obtain ⟨φ, M, ρ, vs, l, M', v, M2, r, re, e5, d1, e7, d2, e8, q⟩ := core hw
          refine ⟨φ, M, ρ, vs, l, M', r, re, e5, d1, e7, fun φ1 H1 a b x1 r1 s1 s2 el => ⟨rg s1 s2 el d2, fun t ht => ?_⟩⟩
          cases e8
          subst el
          exact (q.step x1).new r1 ht rfl ⟨_, upd_same, rv_rg a b⟩
        · subst h1
          have hx : x = .bcall .tuple [.rng ys] := by
            have h : some (E.bcall .tuple [.rng ys]) = some x := h
            cases h; rfl
          subst hx
          refine pe_weak (pe_tupRg ok.calm g1 g2 pr) ?_
          intro σ H Q hw
          obtain ⟨φ, M, ρ, vs, l, M', v, M2, r, re, e5, d1, e7, d2, e8, q⟩ := core hw
          refine ⟨φ, M, ρ, vs, l, M', r, re, e5, d1, e7, fun φ1 H1 a b x1 r1 s1 s2 el => ⟨rg s1 s2 el d2, fun t ht => ?_⟩⟩
          cases e8
          subst el
          exact (q.step x1).tup r1 (rv_rg a b) ht
    · cases h
  · cases h
/-! ### methods of lists and dicts -/
theorem isDict {h : Heap} {a : Addr} {o : PySem.Obj} (e : h.get? a = some o) (hd : o.dict = none) {v : Value} (hv : v = .ref a) : ∀ b, v = .ref b → ∃ ob, h.get? b = some ob ∧ ob.dict = none := fun b hb => by
  subst hv
  cases hb
  exact ⟨o, e, hd⟩
def bmTy : BM → String
  | .get => "dict"
  | .setdefault => "dict"
  | _ => "list"
theorem recv_ok (wa : At W X) {pins : List (Addr × PySem.Obj)} {σ : L2.St} {H : Hp} {s : Shared} {φ : List Addr} {M : Mem} (I : Inv X pins σ H s) (r : RM W φ M H) {m : BM} {x : Val} {u : V} {v : Value} (h : recvOk m M x = true) (rx : RV W φ H x u) (rv : RelV u v) :
    s.TypeIs v (bmTy m) ∧ ∀ b, v = .ref b → ∃ ob, s.heap.get? b = some ob ∧ ob.dict = none := by
  have lst : ∀ {vs : List Val}, lstOf M x = some vs → s.TypeIs v "list" ∧ ∀ b, v = .ref b → ∃ ob, s.heap.get? b = some ob ∧ ob.dict = none := fun {vs} e => by
    obtain ⟨a, xs, rfl, h1, h2⟩ := r.lstOf e rx
    cases rv
    obtain ⟨its, _, pl, _⟩ := I.list (by rw [wa.K]; exact h1)
    refine ⟨pl.isList.typeIs, ?_⟩
    obtain ⟨o, n, e1, c1, d1, _⟩ := pl
    exact isDict e1 d1 rfl
  have own : ∀ {p : Nat × List Val}, ownL M x = some p → s.TypeIs v "list" ∧ ∀ b, v = .ref b → ∃ ob, s.heap.get? b = some ob ∧ ob.dict = none := fun {p} e => by
    obtain ⟨a, _, e2, e3, _⟩ := ownL_ok r e rx
    subst e2
    exact lst (vs := p.2) (by simp [Mn.lstOf, e3])
  have dct : ∀ {p : Nat × List (Val × Val)}, ownD M x = some p → s.TypeIs v "dict" ∧ ∀ b, v = .ref b → ∃ ob, s.heap.get? b = some ob ∧ ob.dict = none := fun {p} e => by
    obtain ⟨a, rfl, e2, e3, e4⟩ := ownD_ok r e rx
    cases rv
    have ro := r.obj _ _ a e3 e4
    refine ⟨dct_type wa I ro, ?_⟩
    rcases ro with ⟨_, kk, g1, _⟩ | z
    · obtain ⟨_, _, _, _, o, _, _, g2, g3, _⟩ := I.hok a _ g1
      exact isDict g2 g3.2.1 rfl
    · obtain ⟨o, es, ep, xs, g1, g2, _⟩ := z.ob
      obtain ⟨g3, _, _⟩ := I.hok a _ g1
      exact isDict g3 g2.2.1 rfl
  cases m with
  | append => obtain ⟨p, e⟩ := Option.isSome_iff_exists.mp (show (ownL M x).isSome = true from h); exact own e
  | extend => obtain ⟨p, e⟩ := Option.isSome_iff_exists.mp (show (ownL M x).isSome = true from h); exact own e
  | pop => obtain ⟨p, e⟩ := Option.isSome_iff_exists.mp (show (ownL M x).isSome = true from h); exact own e
  | insert => obtain ⟨p, e⟩ := Option.isSome_iff_exists.mp (show (ownL M x).isSome = true from h); exact own e
  | count => obtain ⟨vs, e⟩ := Option.isSome_iff_exists.mp (show (lstOf M x).isSome = true from h); exact lst e
  | index => obtain ⟨vs, e⟩ := Option.isSome_iff_exists.mp (show (lstOf M x).isSome = true from h); exact lst e
  | get => obtain ⟨p, e⟩ := Option.isSome_iff_exists.mp (show (ownD M x).isSome = true from h); exact dct e
  | setdefault => obtain ⟨p, e⟩ := Option.isSome_iff_exists.mp (show (ownD M x).isSome = true from h); exact dct e
  | _ => cases h
end
end Mn
end -- Sd17
section -- Sd18
set_option linter.all false
set_option autoImplicit false
set_option maxRecDepth 100000
namespace Mn
open PySem L2
section
variable {W : Wo} {G : GT} {Γ : Gam} {k : Nat} {c : CC} {X : Cx} {rec : CC → Expr → Option E}
theorem bm_ok (ok : OkX W G Γ k c X) {m : Str} {b : BM} (h : bmOf m = some b) : ∃ id, PlainAttrs (bmTy b) ∧ Slot (bmTy b) m id ∧ typeOf (.builtin id) = pure (.type "method_descriptor") ∧ MtR X id (lM W (bmeth b)) := by
  have hu := ok.units
  have wa := ok.at_
  have q : (m, b) ∈ bmTab := PySem.mem_of_lookup h
  unfold bmTab at q
  rcases List.mem_cons.mp q with e | q
  · cases e; exact ⟨_, F.plainAttrs_list, F.slot_list_append, F.type_list_append, mt_append_ok wa⟩
  rcases List.mem_cons.mp q with e | q
  · cases e; exact ⟨_, F.plainAttrs_list, F.slot_list_pop, F.type_list_pop, mt_pop_ok wa⟩
  rcases List.mem_cons.mp q with e | q
  · cases e; exact ⟨_, F.plainAttrs_list, F.slot_list_insert, F.type_list_insert, mt_insert_ok wa⟩
  rcases List.mem_cons.mp q with e | q
  · cases e; exact ⟨_, F.plainAttrs_list, F.slot_list_count, F.type_list_count, mt_count_ok wa⟩
  rcases List.mem_cons.mp q with e | q
  · cases e; exact ⟨_, F.plainAttrs_dict, F.slot_dict_get, F.type_dict_get, mt_get_ok wa (by omega)⟩
  rcases List.mem_cons.mp q with e | q
  · cases e; exact ⟨_, F.plainAttrs_dict, F.slot_dict_setdefault, F.type_dict_setdefault, mt_setd_ok wa (by omega)⟩
  rcases List.mem_cons.mp q with e | q
  · cases e; exact ⟨_, F.plainAttrs_list, F.slot_list_extend, F.type_list_extend, mt_extend_ok wa⟩
  cases q
theorem c_bm (ok : OkX W G Γ k c X) (hr : RecOk W G Γ k rec) {o : Expr} {m : Str} {apos pos : Pos} {es : List Expr} {x : E} {xs : List E} {b : BM} (ho : PE X o (lE W (evE Γ x))) (h : recs rec c es = some xs) (hm : bmOf m = some b)
    (hb : isBare o = false) (hl : (apos.endLine == pos.line) = true) (hn : es.length < 28) : PE X (.Call (.Attribute o m apos) es [] pos) (lE W (evE Γ (.bmeth b x xs))) := by
  obtain ⟨_, hs, hp⟩ := recs_ok h
  obtain ⟨id, pa, slot, ty, mt⟩ := bm_ok ok hm
  have pl := pa_list ok hr hp hs
  refine ⟨fun pins s σ H Q I hw => ?_⟩
  obtain ⟨φ, M, ρ, v, M', r, re, e, q⟩ := hw
  obtain ⟨a, M1, e1, e2⟩ := Res.bind_ok (show (evE Γ x ρ M).bind (fun x M => if recvOk b M x then (evEs Γ xs ρ M).bind fun vs M => bmeth b x vs M else .stuck) = .ok v M' from e)
  split at e2
  · rename_i hv
    obtain ⟨vs, M2, e3, e4⟩ := Res.bind_ok e2
    refine wpAny_Call_method_late (base_of hb) ?_ hl rfl (thn (ho.run pins s σ H (fun u H1 => ∃ φ1, Ext W φ H φ1 H1 ∧ RM W φ1 M1 H1 ∧ RV W φ1 H1 a u) I ⟨φ, M, ρ, a, M1, r, re, e1, fun φ1 H1 u x1 r1 ru => ⟨φ1, x1, r1, ru⟩⟩) fun ov s1 ⟨u, H1, I1, ro, φ1, x1, r1, ru⟩ => ?_)
    · rw [star_all hs]
      show (true && true && decide (es.length + 0 + 0 < 30)) = true
      rw [decide_eq_true (by omega)]
      rfl
    · obtain ⟨t1, t2⟩ := recv_ok ok.at_ I1 r1 hv ru ro
      refine ⟨bmTy b, id, pa, slot, ty, t1, t2, ?_⟩
      have fin : ∀ us s2 xs' H2, Inv X pins σ H2 s2 → Vals xs' us → (∃ φ2, Ext W φ1 H1 φ2 H2 ∧ RM W φ2 M2 H2 ∧ RVs W φ2 H2 vs xs') → wpAny (model X.prog X.w) X.A (call (.builtin id) ([ov] ++ us)) (EP X pins σ Q) X.xe s2 := fun us s2 xs' H2 I2 rv ⟨φ2, x2, r2, rvs⟩ =>
        mt pins s2 σ H2 u xs' ov us Q I2 ro rv ⟨φ2, M2, a, vs, v, M', r2, ru.mono x2, rvs, e4, q.step (x1.trans x2)⟩
      have hA := pl.run pos pins s1 σ H1 (fun xs' H2 => ∃ φ2, Ext W φ1 H1 φ2 H2 ∧ RM W φ2 M2 H2 ∧ RVs W φ2 H2 vs xs') I1 ⟨φ1, M1, ρ, vs, M2, r1, re.mono x1, e3, fun φ2 H2 us x2 r2 rus => ⟨φ2, x2, r2, rus⟩⟩
      cases es with
      | nil =>
        cases hp
        cases e3
        exact Calls.callWith_builtin rfl (PySem.evalArgs_none (fin [] s1 [] H1 I1 .nil ⟨φ1, .refl, r1, .nil⟩))
      | cons e0 es =>
        rw [List.any_cons, Bool.or_eq_false_iff] at hs
        rw [star_cons hs.1] at hA ⊢
        refine Calls.callWith_builtin (by show (false || (backTo pos (starEach es X.env)).any (·.1)) = false; rw [star_any hs.2]; rfl) (Calls.evalArgs_plain ?_)
        exact thn hA fun us s2 ⟨xs', H2, I2, rv, z⟩ => fin us s2 xs' H2 I2 rv z
  · cases e2
/-! ### defs, classes, methods -/
theorem kw_names {env : PySem.Env} {pos : Pos} : ∀ {kws : List Keyword} {ks : List Str} {es : List Expr}, kwOf kws = some (ks, es) →
    (backToKw pos (keywordEach kws env)).all (·.1.isSome) = true ∧ (backToKw pos (keywordEach kws env)).filterMap (·.1) = ks ∧ (backToKw pos (keywordEach kws env)).any (·.1.isNone) = false
  | [], _, _, h => by cases h; exact ⟨rfl, rfl, rfl⟩
  | ⟨some x, e, p⟩ :: r, ks, es, h => by
    have h : (kwOf r).map (fun q => (x :: q.1, e :: q.2)) = some (ks, es) := h
    cases e1 : kwOf r with
    | none => rw [e1] at h; cases h
    | some q =>
      rw [e1] at h
      cases h
      obtain ⟨h1, h2, h3⟩ := kw_names (env := env) (pos := pos) e1
      refine ⟨?_, ?_, ?_⟩
      · show (true && (backToKw pos (keywordEach r env)).all (·.1.isSome)) = true
        rw [h1]; rfl
      · show x :: (backToKw pos (keywordEach r env)).filterMap (·.1) = _
        rw [h2]
      · show (false || (backToKw pos (keywordEach r env)).any (·.1.isNone)) = false
        rw [h3]; rfl
  | ⟨none, _, _⟩ :: _, _, _, h => by cases h
theorem pk_list (ok : OkX W G Γ k c X) (hr : RecOk W G Γ k rec) : ∀ {kws : List Keyword} {ks : List Str} {es : List Expr} {xs : List E}, kwOf kws = some (ks, es) → Paired (fun e x => rec c e = some x) es xs → PK X kws (lA W (evEs Γ xs)) ∧ ks.length = es.length
  | [], _, _, _, h, hp => by
    cases h
    cases hp
    refine ⟨⟨fun pos pins s σ H Q I hw => pk_nil.run pos pins s σ H Q I ?_⟩, rfl⟩
    obtain ⟨φ, M, ρ, vs, M', r, re, e, q⟩ := hw
    cases e
    exact q φ H [] .refl r .nil
  | ⟨some x, e, p⟩ :: r, ks, es, xs, h, hp => by
    have h : (kwOf r).map (fun q => (x :: q.1, e :: q.2)) = some (ks, es) := h
    cases e1 : kwOf r with
    | none => rw [e1] at h; cases h
    | some q =>
      rw [e1] at h
      cases h
      cases hp with
      | @cons _ y _ ys h1 h2 =>
        obtain ⟨g1, g2⟩ := pk_list ok hr e1 h2
        refine ⟨⟨fun pos pins s σ H Q I hw => (pk_cons (hr c X e y ok h1).1 g1).run pos pins s σ H Q I ?_⟩, by simp [g2]⟩
        obtain ⟨φ, M, ρ, vs, M', r, re, ev, q⟩ := hw
        obtain ⟨a, M1, h1, h2⟩ := Res.bind_ok (show (evE Γ y ρ M).bind (fun v M => (evEs Γ ys ρ M).bind fun vs M => .ok (v :: vs) M) = .ok vs M' from ev)
        obtain ⟨as, M2, h3, h4⟩ := Res.bind_ok h2
        cases h4
        exact ⟨φ, M, ρ, a, M1, r, re, h1, fun φ1 H1 u e1 r1 ru => ⟨φ1, M1, ρ, as, _, r1, re.mono e1, h3, fun φ2 H2 us e2 r2 rus => q φ2 H2 (u :: us) (e1.trans e2) r2 (.cons (ru.mono e2) rus)⟩⟩
  | ⟨none, _, _⟩ :: _, _, _, _, h, _ => by cases h
/-- what is called stands; the arguments are evaluated, then it runs -/
theorem with_run (ok : OkX W G Γ k c X) (hr : RecOk W G Γ k rec) {fv : Value} (hk : PySem.W.keepIn W.K fv = true) {args : List Expr} {kws : List Keyword} {as : List E} {p : List Str × List E} (ha : recs rec c args = some as) (hkw : cKw rec c kws = some p) {n : Nat}
    {g : List Val → List (Str × Val) → Mem → Res Val} (hc : CallOk W k fv n p.1 g) {pos : Pos} {pins : List (Addr × PySem.Obj)} {s : Shared} {σ : L2.St} {H : Hp} {φ : List Addr} {M : Mem} {ρ : Env} {Q : VK} {f0 : List Val} {x0 : List V} {u0 : List Value}
    (hn : n = f0.length + args.length) (I : Inv X pins σ H s) (r : RM W φ M H) (re : RE W φ H ρ σ) (r0 : RVs W φ H f0 x0) (v0 : Vals x0 u0) {v : Val} {M' : Mem}
    (e : ((evEs Γ as ρ M).bind fun vs M => (evEs Γ p.2 ρ M).bind fun ws M => g (f0 ++ vs) (p.1.zip ws) M) = .ok v M') (q : Kont W φ H v M' Q) :
    wpAny (model X.prog X.w) X.A (callWith pos fv u0 (backTo pos (starEach args X.env)) (backToKw pos (keywordEach kws X.env))) (EP X pins σ Q) X.xe s := by
  obtain ⟨_, hs, hp⟩ := recs_ok ha
  have pa := pa_list ok hr hp hs
  obtain ⟨q1, e1, h1⟩ : ∃ q1, kwOf kws = some q1 ∧ (recs rec c q1.2).map (fun es => (q1.1, es)) = some p := by
    unfold cKw at hkw
    cases z : kwOf kws with
    | none => rw [z] at hkw; cases hkw
    | some q1 => rw [z] at hkw; exact ⟨q1, rfl, hkw⟩
  obtain ⟨ks, es⟩ := q1
  cases e2 : recs rec c es with
  | none => simp only [e2] at h1; cases h1
  | some ys =>
    simp only [e2] at h1
    cases h1
    obtain ⟨_, _, hp2⟩ := recs_ok e2
    obtain ⟨pk, kl⟩ := pk_list ok hr e1 hp2
    obtain ⟨k1, k2, k3⟩ := kw_names (env := X.env) (pos := pos) e1
    obtain ⟨vs, M1, e3, e4⟩ := Res.bind_ok e
    obtain ⟨ws, M2, e5, e6⟩ := Res.bind_ok e4
    have hl1 : vs.length = args.length := by rw [evEs_len e3, ← Paired.length hp]
    have hl2 : ws.length = ks.length := by rw [evEs_len e5, ← Paired.length hp2, kl]
    have fin : ∀ us s2 xs H1, Inv X pins σ H1 s2 → Vals xs us → (∃ φ1, Ext W φ H φ1 H1 ∧ RM W φ1 M1 H1 ∧ RVs W φ1 H1 vs xs) →
        wpAny (model X.prog X.w) X.A (evalAll ((backToKw pos (keywordEach kws X.env)).map (·.2))) (fun zs s3 => X.K.In s3.heap ∧ wpAny (model X.prog X.w) X.A (call fv (u0 ++ us) (((backToKw pos (keywordEach kws X.env)).filterMap (·.1)).zip zs)) (EP X pins σ Q) X.xe s3) X.xe s2 := fun us s2 xs H1 I1 rv ⟨φ1, x1, r1, rvs⟩ => by
      refine thn (pk.run pos pins s2 σ H1 (fun ys H2 => ∃ φ2, Ext W φ1 H1 φ2 H2 ∧ RM W φ2 M2 H2 ∧ RVs W φ2 H2 ws ys) I1 ⟨φ1, M1, ρ, ws, M2, r1, re.mono x1, e5, fun φ2 H2 zs x2 r2 rz => ⟨φ2, x2, r2, rz⟩⟩) fun zs s3 ⟨ys', H2, I2, rz, φ2, x2, r2, rws⟩ => ⟨I2.kIn, ?_⟩
      rw [k2]
      exact hc X ok.at_ ok.room ok.grd pins σ s3 H2 φ2 M2 (f0 ++ vs) ws (x0 ++ xs) ys' (u0 ++ us) zs v M' Q I2 r2 (by rw [List.length_append, hl1, hn]) hl2 ((r0.mono (x1.trans x2)).append (rvs.mono x2)) rws (v0.append rv) rz e6 (q.step (x1.trans x2))
    have hA := pa.run pos pins s σ H (fun xs H1 => ∃ φ1, Ext W φ H φ1 H1 ∧ RM W φ1 M1 H1 ∧ RVs W φ1 H1 vs xs) I ⟨φ, M, ρ, vs, M1, r, re, e3, fun φ1 H1 us x1 r1 rus => ⟨φ1, x1, r1, rus⟩⟩
    have hk' : PySem.W.keepIn X.K fv = true := by rw [ok.at_.K]; exact hk
    cases args with
    | nil =>
      cases hp
      cases e3
      refine PySem.W.callWith_KW0 (h₀ := X.base) I.ok.mod.kin hk' k1 (fin [] s [] H I .nil ⟨φ, .refl, r, .nil⟩) ?_
      show (false || (backToKw pos (keywordEach kws X.env)).any (·.1.isNone)) = false
      rw [k3]; rfl
    | cons a args =>
      have hs2 := hs
      rw [List.any_cons, Bool.or_eq_false_iff] at hs2
      refine PySem.W.callWith_KW (h₀ := X.base) I.ok.mod.kin hk' k1 (thn hA fun us s2 ⟨xs, H1, I1, rv, z⟩ => fin us s2 xs H1 I1 rv z) ?_ (star_cons hs2.1)
      rw [star_any hs, k3]; rfl
theorem c_call (ok : OkX W G Γ k c X) (hr : RecOk W G Γ k rec) {f : Str} {p pos : Pos} {args : List Expr} {kws : List Keyword} {x : E} (h : cCall G rec c f args kws = some x) : PE X (.Call (.Name f p) args kws pos) (lE W (evE Γ x)) := by
  have un : ∀ {mk : List E → List Str → List E → E} {sg : Str → Nat → List Str → Bool}, ((recs rec c args).bind fun as => (cKw rec c kws).bind fun p => if glB c.sc f && okN f && sg f args.length p.1 then some (mk as p.1 p.2) else none) = some x →
      ∃ as q, recs rec c args = some as ∧ cKw rec c kws = some q ∧ glB c.sc f = true ∧ okN f = true ∧ sg f args.length q.1 = true ∧ x = mk as q.1 q.2 := fun {mk sg} h => by
    cases e1 : recs rec c args with
    | none => rw [e1] at h; cases h
    | some as =>
      rw [e1] at h
      cases e2 : cKw rec c kws with
      | none => rw [e2] at h; cases h
      | some q =>
        rw [e2] at h
        have h : (if glB c.sc f && okN f && sg f args.length q.1 then some (mk as q.1 q.2) else none) = some x := h
        split at h
        · rename_i hc
          simp only [Bool.and_eq_true] at hc
          cases h
          exact ⟨as, q, rfl, rfl, hc.1.1, hc.1.2, hc.2, rfl⟩
        · cases h
  unfold cCall at h
  split at h
  · obtain ⟨as, q, e1, e2, g1, g2, g3, rfl⟩ := un (sg := cSig G) h
    obtain ⟨fa, f1, f2, f3⟩ := ok.facts.call f _ _ g3
    refine ⟨fun pins s σ H Q I hw => ?_⟩
    obtain ⟨φ, M, ρ, v, M', r, re, ev, kq⟩ := hw
    exact wpAny_Call_Name_kw (ld_glob I (glB_gl ok.sc g1) (by rw [ok.at_.mg]; exact f1) (with_run ok hr f2 e1 e2 f3 (f0 := []) (by simp) I r re .nil .nil ev kq) (okN_d g2).1)
  · obtain ⟨as, q, e1, e2, g1, g2, g3, rfl⟩ := un (sg := cSigC G) h
    obtain ⟨fa, f1, f2, f3⟩ := ok.facts.make f _ _ g3
    refine ⟨fun pins s σ H Q I hw => ?_⟩
    obtain ⟨φ, M, ρ, v, M', r, re, ev, kq⟩ := hw
    exact wpAny_Call_Name_kw (ld_glob I (glB_gl ok.sc g1) (by rw [ok.at_.mg]; exact f1) (with_run ok hr f2 e1 e2 f3 (f0 := []) (by simp) I r re .nil .nil ev kq) (okN_d g2).1)
  · cases h
theorem ins_look {φ : List Addr} {H : Hp} {fs : List (Str × Val)} {us : List (Str × V)} (r : RFs W φ H fs us) {m : Str} (h : fs.lookup m = none) : us.lookup m = none := by
  induction r with
  | nil => rfl
  | @cons p q ps qs hh hs ih =>
    obtain ⟨p1, p2⟩ := p
    obtain ⟨q1, q2⟩ := q
    obtain ⟨h1, h2⟩ := hh
    dsimp only at h1
    subst h1
    rw [List.lookup_cons] at h ⊢
    cases z : m == p1 with
    | true => rw [z] at h; cases h
    | false => rw [z] at h; exact ih h
theorem call_tree {o : Expr} {m : Str} {apos pos : Pos} {args : List Expr} {kws : List Keyword} {env : PySem.Env} (hb : isBare o = false) (hl : (apos.endLine == pos.line) = true) (hs : args.any isStar = false) (hk : (backToKw pos (keywordEach kws env)).all (·.1.isSome) = true) (hn : args.length + kws.length < 28) :
    eval (.Call (.Attribute o m apos) args kws pos) env = (do
      let ov ← eval o env
      standAt apos.atName
      let (f, first) ← holding [ov] (getMethod ov m (do return (← importBound o env).getD true))
      callWith pos f first (backTo pos (starEach args env)) (backToKw pos (keywordEach kws env))) := by
  have form : methodCallForm (args.length + kws.length) (backTo pos (starEach args env)) (backToKw pos (keywordEach kws env)) = true := by
    unfold methodCallForm
    rw [star_all hs, hk]
    simp only [Bool.true_and, Bool.and_true, decide_eq_true_eq]
    split <;> omega
  rw [arm_eval_Call, base_of hb]
  congr 1
  funext ov
  congr 1
  funext _
  unfold methodCall calleeOf methodCallPos
  rw [form]
  simp only [Bool.not_true, Bool.false_or, hl, if_true]
  rfl
theorem c_um (ok : OkX W G Γ k c X) (hr : RecOk W G Γ k rec) {o : Expr} {m C : Str} {apos pos : Pos} {args : List Expr} {kws : List Keyword} {x : E} {as : List E} {p : List Str × List E} (ho : PE X o (lE W (evE Γ x))) (ha : recs rec c args = some as) (hkw : cKw rec c kws = some p)
    (hsig : cSigM G C m args.length p.1 = true) (hb : isBare o = false) (hl : (apos.endLine == pos.line) = true) (hn : args.length + kws.length < 28) :
    PE X (.Call (.Attribute o m apos) args kws pos) (lE W (evE Γ (.meth C m x as p.1 p.2))) := by
  obtain ⟨Ca, ga, f1, f2, f3, f4⟩ := ok.facts.meth C m _ _ hsig
  obtain ⟨_, hs, _⟩ := recs_ok ha
  have hks : ∃ es, kwOf kws = some (p.1, es) := by
    unfold cKw at hkw
    cases z : kwOf kws with
    | none => rw [z] at hkw; cases hkw
    | some q1 =>
      rw [z] at hkw
      have hkw : (recs rec c q1.2).map (fun es => (q1.1, es)) = some p := hkw
      cases z2 : recs rec c q1.2 with
      | none => rw [z2] at hkw; cases hkw
      | some ys => rw [z2] at hkw; cases hkw; exact ⟨q1.2, rfl⟩
  obtain ⟨es, hks⟩ := hks
  refine ⟨fun pins s σ H Q I hw => ?_⟩
  obtain ⟨φ, M, ρ, v, M', r, re, e, q⟩ := hw
  obtain ⟨a, M1, e1, e2⟩ := Res.bind_ok (show (evE Γ x ρ M).bind (fun x M => match x with
    | .ref n => match M[n]? with
      | some (.ins D fs) => if D = C ∧ fs.lookup m = none then (evEs Γ as ρ M).bind fun vs M => (evEs Γ p.2 ρ M).bind fun ws M => Γ.call (C ++ Str.ofString "." ++ m) (.ref n :: vs) (p.1.zip ws) M else .stuck
      | _ => .stuck
    | _ => .stuck) = .ok v M' from e)
  refine PySem.W.methodCall_KW (thn (ho.run pins s σ H (fun u H1 => ∃ φ1, Ext W φ H φ1 H1 ∧ RM W φ1 M1 H1 ∧ RV W φ1 H1 a u) I ⟨φ, M, ρ, a, M1, r, re, e1, fun φ1 H1 u x1 r1 ru => ⟨φ1, x1, r1, ru⟩⟩) fun ov s1 ⟨u, H1, I1, ro, φ1, x1, r1, ru⟩ => ?_) (call_tree hb hl hs (kw_names hks).1 hn)
  cases ru with
  | @ref n ad hn' =>
    dsimp only at e2
    split at e2
    · rename_i D fs em
      split at e2
      · rename_i hD
        obtain ⟨hD, hf⟩ := hD
        subst hD
        cases ro
        obtain ⟨Cb, dx, us, g1, g2, g3⟩ := r1.obj n _ ad em hn'
        have ec : Cb = Ca := by rw [g1] at f1; cases f1; rfl
        subst ec
        refine getmeth_ok I1 g2 (by rw [ok.at_.K]; exact f2) (by rw [ok.at_.K]; exact f3) (ins_look g3 hf) ?_
        exact with_run ok hr f3.kp ha hkw f4 (f0 := [.ref n]) (by simp; omega) I1 r1 (re.mono x1) (.cons (.ref hn') .nil) (.cons rfl .nil) e2 (q.step x1)
      · cases e2
    · cases e2
  | _ => cases e2
end
end Mn
end -- Sd18
section -- Sd19
set_option linter.all false
set_option autoImplicit false
set_option maxRecDepth 100000
namespace Mn
open PySem L2
/-- J walks what src tells -/
structure WalksS (W : Wo) (src : Src) (len : Nat) (J : It) (φ0 : List Addr) (H0 : Hp) : Prop where
  go : ∀ i φ H M v, Ext W φ0 H0 φ H → RM W φ M H → i < len → src.at M len i = some v → J.go i H ∧ ∀ x H2, J.yld i H x H2 → Ext W φ H φ H2 ∧ RM W φ M H2 ∧ RV W φ H2 v x
  stop : ∀ φ H M, Ext W φ0 H0 φ H → RM W φ M H → src.len M = some len → J.stop len H
def lI (W : Wo) (k : IK) (f : Env → Mem → Res (List Val)) : TI := fun σ H R => ∃ φ M ρ vs M' src len, RM W φ M H ∧ RE W φ H ρ σ ∧ f ρ M = .ok vs M' ∧ srcOf k vs M' = some src ∧ src.len M' = some len ∧
  ∀ φ' H' J, Ext W φ H φ' H' → RM W φ' M' H' → WalksS W src len J φ' H' → R J H'
section
variable {W : Wo} {φ φ' : List Addr} {H H' : Hp} {M : Mem}
theorem Sq.get_mu {n : Nat} {vs : List Val} (h : (Sq.mu n).get M = some vs) : M[n]? = some (.lst vs) ∨ M[n]? = some (.rol vs) := by
  have h : (match M[n]? with | some (.lst vs) => some vs | some (.rol vs) => some vs | _ => none) = some vs := h
  split at h
  · rename_i e; cases h; exact .inl e
  · rename_i e; cases h; exact .inr e
  · cases h
theorem sqOf_ref {n : Nat} {s : Sq} (h : sqOf M (.ref n) = some s) : s = .mu n ∧ ∃ vs, M[n]? = some (.lst vs) ∨ M[n]? = some (.rol vs) := by
  have h : (match M[n]? with | some (.lst _) => some (Sq.mu n) | some (.rol _) => some (.mu n) | _ => none) = some s := h
  split at h
  · rename_i vs e; cases h; exact ⟨rfl, vs, .inl e⟩
  · rename_i vs e; cases h; exact ⟨rfl, vs, .inr e⟩
  · cases h
theorem get_bind {o : Option (List Val)} {i : Nat} {v : Val} (h : o.bind (·[i]?) = some v) : ∃ vs, o = some vs ∧ vs[i]? = some v := by
  cases o with
  | none => cases h
  | some vs => exact ⟨vs, rfl, h⟩
theorem at_im {vs : List Val} {len i : Nat} {v : Val} (h : (Src.sq (.im vs)).at M len i = some v) : vs[i]? = some v := h
theorem at_rim {vs : List Val} {len i : Nat} {v : Val} (h : (Src.rev (.im vs)).at M len i = some v) : vs[len - 1 - i]? = some v := h
theorem map_len {o : Option (List Val)} {n : Nat} (h : o.map (·.length) = some n) : ∃ vs, o = some vs ∧ vs.length = n := by
  cases o with
  | none => cases h
  | some vs => cases h; exact ⟨vs, rfl, rfl⟩
theorem yes (r : RM W φ M H) {x : V} {v : Val} (h : RV W φ H v x) : Ext W φ H φ H ∧ RM W φ M H ∧ RV W φ H v x := ⟨.refl, r, h⟩
/-- a new tuple comes -/
theorem aside_tup (r : RM W φ M H) {p : Addr} {xs : List V} {vs : List Val} (hp : H p = none) (h : RVs W φ H vs xs) : Ext W φ H φ (upd H p (.tup xs)) ∧ RM W φ M (upd H p (.tup xs)) ∧ RV W φ (upd H p (.tup xs)) (.tup vs) (.ref p) :=
  ⟨Ext.upd (.inl hp), r.aside (.inl hp) (r.out hp), .tup (.of upd_same) (h.mono (Ext.upd (.inl hp)))⟩
theorem walk_list {n len : Nat} {a : Addr} (ha : φ[n]? = some a) : WalksS W (.sq (.mu n)) len (Itl W.K a) φ H := by
  refine ⟨fun i φ' H' M' v ex r _ hv => ?_, fun φ' H' M' ex r hl => ?_⟩
  · obtain ⟨vs, e1, e2⟩ := get_bind hv
    obtain ⟨xs, h1, h2⟩ := r.seqL (Sq.get_mu e1) (ex.pre n a ha)
    obtain ⟨u, e3, h3⟩ := h2.get e2
    refine ⟨⟨xs, u, h1, e3⟩, fun x H2 ⟨z, y⟩ => ?_⟩
    subst z
    have e4 := y xs h1
    rw [e3] at e4; cases e4
    exact yes r h3
  · obtain ⟨vs, e1, e2⟩ := map_len hl
    obtain ⟨xs, h1, h2⟩ := r.seqL (Sq.get_mu e1) (ex.pre n a ha)
    exact ⟨xs, h1, by rw [← h2.length, e2]; exact Nat.le_refl _⟩
theorem walk_tup {vs : List Val} {len : Nat} {a : Addr} {xs : List V} (ht : SqT W.K H a xs) (hv : RVs W φ H vs xs) (hlen : vs.length = len) : WalksS W (.sq (.im vs)) len (Itt W.K a) φ H := by
  subst hlen
  refine ⟨fun i φ' H' M' v ex r hlt hi => ?_, fun φ' H' M' ex r hl => ?_⟩
  · obtain ⟨u, e3, h3⟩ := (hv.mono ex).get (at_im hi)
    refine ⟨⟨xs, u, ex.tk _ _ ht, e3⟩, fun x H2 ⟨z, y⟩ => ?_⟩
    subst z
    have e4 := y xs (ex.tk _ _ ht)
    rw [e3] at e4; cases e4
    exact yes r h3
  · exact ⟨xs, ex.tk _ _ ht, by rw [← hv.length]; exact Nat.le_refl _⟩
/-- a walk whose items are known values, the store untouched -/
theorem walk_im {vs : List Val} {J : It} (hgo : ∀ i H, i < vs.length → J.go i H) (hy : ∀ i H x H2 v, vs[i]? = some v → J.yld i H x H2 → H2 = H ∧ ∀ φ, RV W φ H v x) (hs : ∀ H, J.stop vs.length H) {len : Nat} (hlen : vs.length = len) : WalksS W (.sq (.im vs)) len J φ H := by
  subst hlen
  refine ⟨fun i φ' H' M' v ex r hlt hi => ⟨hgo i H' hlt, fun x H2 y => ?_⟩, fun φ' H' M' ex r hl => hs H'⟩
  obtain ⟨rfl, h⟩ := hy i H' x H2 v (at_im hi) y
  exact yes r (h φ')
theorem irange_get {n i : Nat} {lo : Int} {v : Val} (h : (irange lo n)[i]? = some v) : v = .int (lo + (i : Nat)) ∧ i < n := by
  rw [irange_eq, List.getElem?_map] at h
  by_cases hi : i < n
  · rw [List.getElem?_range hi] at h; cases h; exact ⟨rfl, hi⟩
  · rw [List.getElem?_eq_none (by simp; omega)] at h; cases h
theorem walk_range {lo : Int} {n : Nat} : WalksS W (.sq (.im (irange lo n))) n (Itr lo n) φ H := by
  refine walk_im (J := Itr lo n) (fun i H' h => ?_) (fun i H' x H2 v e ⟨y1, y2⟩ => ⟨y1, fun φ => ?_⟩) (fun H' => ?_) (irange_len n lo)
  · rw [irange_len] at h; exact h
  · obtain ⟨rfl, _⟩ := irange_get e
    subst y2
    exact .int _
  · rw [irange_len]; exact Nat.le_refl _
theorem irangeC_eq : ∀ (n : Nat) (lo d : Int), irangeC lo d n = (List.range n).map fun i => Val.int (lo + (i : Nat) * d)
  | 0, _, _ => rfl
  | n + 1, lo, d => by
    rw [List.range_succ_eq_map, List.map_cons, List.map_map]
    show Val.int lo :: irangeC (lo + d) d n = _
    rw [irangeC_eq n (lo + d)]
    congr 1
    · simp
    · apply List.map_congr_left
      intro i _
      show Val.int (lo + d + (i : Nat) * d) = Val.int (lo + ((i + 1 : Nat) : Int) * d)
      congr 1
      have e : ((i + 1 : Nat) : Int) = (i : Int) + 1 := by omega
      rw [e, Int.add_mul]
      omega
theorem walk_rangeC {lo d : Int} {n : Nat} : WalksS W (.sq (.im (irangeC lo d n))) n (Itc lo d n) φ H := by
  have hl : (irangeC lo d n).length = n := by rw [irangeC_eq]; simp
  refine walk_im (J := Itc lo d n) (fun i H' h => ?_) (fun i H' x H2 v e ⟨y1, y2⟩ => ⟨y1, fun φ => ?_⟩) (fun H' => ?_) hl
  · rw [hl] at h; exact h
  · rw [irangeC_eq, List.getElem?_map] at e
    by_cases hi : i < n
    · rw [List.getElem?_range hi] at e; cases e; subst y2; exact .int _
    · rw [List.getElem?_eq_none (by simp; omega)] at e; cases e
  · rw [hl]; exact Nat.le_refl _
theorem walk_str {z : Str} : WalksS W (.sq (.im (z.cps.toList.map fun c => .str ⟨#[c]⟩))) z.cps.size (Its z) φ H := by
  refine walk_im (J := Its z) (fun i H' h => ?_) (fun i H' x H2 v e ⟨y1, d, y2, y3⟩ => ⟨y1, fun φ => ?_⟩) (fun H' => ?_) (by simp)
  · show i < z.cps.size
    simpa using h
  · subst y3
    rw [List.getElem?_map, Array.getElem?_toList, y2] at e
    cases e
    exact .str _
  · show z.cps.size ≤ (z.cps.toList.map fun c => Val.str ⟨#[c]⟩).length
    simp
theorem walk_revL {n len : Nat} {a : Addr} (ha : φ[n]? = some a) : WalksS W (.rev (.mu n)) len (Itv W.K a len) φ H := by
  refine ⟨fun i φ' H' M' v ex r hlt hv => ?_, fun φ' H' M' ex r hl => Nat.le_refl _⟩
  obtain ⟨vs, e1, e2⟩ := get_bind hv
  obtain ⟨xs, h1, h2⟩ := r.seqL (Sq.get_mu e1) (ex.pre n a ha)
  obtain ⟨u, e3, h3⟩ := h2.get e2
  refine ⟨⟨hlt, xs, u, h1, e3⟩, fun x H2 ⟨z, y⟩ => ?_⟩
  subst z
  have e4 := y xs h1
  rw [e3] at e4; cases e4
  exact yes r h3
theorem walk_revT {vs : List Val} {len : Nat} {a : Addr} {xs : List V} (ht : SqT W.K H a xs) (hv : RVs W φ H vs xs) : WalksS W (.rev (.im vs)) len (RT.ItvT W.K a len) φ H := by
  refine ⟨fun i φ' H' M' v ex r hlt hi => ?_, fun φ' H' M' ex r hl => Nat.le_refl _⟩
  obtain ⟨u, e3, h3⟩ := (hv.mono ex).get (at_rim hi)
  refine ⟨⟨hlt, xs, u, ex.tk _ _ ht, e3⟩, fun x H2 ⟨z, y⟩ => ?_⟩
  subst z
  have e4 := y xs (ex.tk _ _ ht)
  rw [e3] at e4; cases e4
  exact yes r h3
theorem walk_revR {a : Int} {n : Nat} : WalksS W (.rev (.im (irange a n))) n (Itc (a + (n : Nat) - 1) (-1) n) φ H := by
  refine ⟨fun i φ' H' M' v ex r hlt hi => ⟨hlt, fun x H2 ⟨z, y⟩ => ?_⟩, fun φ' H' M' ex r hl => Nat.le_refl _⟩
  subst z
  subst y
  obtain ⟨rfl, _⟩ := irange_get (at_rim hi)
  have e : a + ((n - 1 - i : Nat) : Int) = a + (n : Nat) - 1 + (i : Nat) * (-1) := by omega
  rw [e]
  exact yes r (.int _)
theorem walk_enL {n len : Nat} {a : Addr} (ha : φ[n]? = some a) : WalksS W (.enum (.mu n)) len (Ite W.K a) φ H := by
  refine ⟨fun i φ' H' M' v ex r _ hv => ?_, fun φ' H' M' ex r hl => ?_⟩
  · cases e0 : ((Sq.mu n).get M').bind (·[i]?) with
    | none => simp only [Src.at, e0] at hv; cases hv
    | some w =>
      simp only [Src.at, e0] at hv
      cases hv
      obtain ⟨vs, e1, e2⟩ := get_bind e0
      obtain ⟨xs, h1, h2⟩ := r.seqL (Sq.get_mu e1) (ex.pre n a ha)
      obtain ⟨u, e3, h3⟩ := h2.get e2
      refine ⟨⟨xs, u, h1, e3⟩, fun x H2 ⟨p, y, ex2, hp, z, hy⟩ => ?_⟩
      subst ex2; subst z
      have e4 := hy xs h1
      rw [e3] at e4; cases e4
      exact aside_tup r hp (.cons (.int _) (.cons h3 .nil))
  · obtain ⟨vs, e1, e2⟩ := map_len hl
    obtain ⟨xs, h1, h2⟩ := r.seqL (Sq.get_mu e1) (ex.pre n a ha)
    exact ⟨xs, h1, by rw [← h2.length, e2]; exact Nat.le_refl _⟩
theorem walk_enT {vs : List Val} {len : Nat} {a : Addr} {xs : List V} (ht : SqT W.K H a xs) (hv : RVs W φ H vs xs) (hlen : vs.length = len) : WalksS W (.enum (.im vs)) len (Iet W.K a) φ H := by
  subst hlen
  refine ⟨fun i φ' H' M' v ex r _ hv' => ?_, fun φ' H' M' ex r hl => ⟨xs, ex.tk _ _ ht, by rw [← hv.length]⟩⟩
  cases e0 : ((Sq.im vs).get M').bind (·[i]?) with
  | none => simp only [Src.at, e0] at hv'; cases hv'
  | some w =>
    simp only [Src.at, e0] at hv'
    cases hv'
    obtain ⟨ws, e1, e2⟩ := get_bind e0
    cases e1
    obtain ⟨u, e3, h3⟩ := (hv.mono ex).get e2
    refine ⟨⟨xs, u, ex.tk _ _ ht, e3⟩, fun x H2 ⟨p, y, ex2, hp, z, hy⟩ => ?_⟩
    subst ex2; subst z
    have e4 := hy xs (ex.tk _ _ ht)
    rw [e3] at e4; cases e4
    exact aside_tup r hp (.cons (.int _) (.cons h3 .nil))
theorem at_zip {s t : Sq} {len i : Nat} {v : Val} (h : (Src.zip s t).at M len i = some v) : ∃ vs ws a b, s.get M = some vs ∧ t.get M = some ws ∧ vs[i]? = some a ∧ ws[i]? = some b ∧ v = .tup [a, b] := by
  have h : (match (s.get M).bind (·[i]?), (t.get M).bind (·[i]?) with | some a, some b => some (Val.tup [a, b]) | _, _ => none) = some v := h
  split at h
  · rename_i a b h1 h2
    obtain ⟨vs, g1, g2⟩ := get_bind h1
    obtain ⟨ws, g3, g4⟩ := get_bind h2
    cases h
    exact ⟨vs, ws, a, b, g1, g3, g2, g4, rfl⟩
  · cases h
theorem len_zip {s t : Sq} {len : Nat} (h : (Src.zip s t).len M = some len) : ∃ vs ws, s.get M = some vs ∧ t.get M = some ws ∧ vs.length = len ∧ ws.length = len := by
  have h : (match s.get M, t.get M with | some a, some b => if a.length = b.length then some a.length else none | _, _ => none) = some len := h
  split at h
  · rename_i a b h1 h2
    split at h
    · rename_i e
      cases h
      exact ⟨a, b, h1, h2, rfl, e.symm⟩
    · cases h
  · cases h
theorem walk_zipL {n m len : Nat} {a b : Addr} (ha : φ[n]? = some a) (hb : φ[m]? = some b) : WalksS W (.zip (.mu n) (.mu m)) len (Itz W.K a b) φ H := by
  refine ⟨fun i φ' H' M' v ex r _ hv => ?_, fun φ' H' M' ex r hl => ?_⟩
  · obtain ⟨vs, ws, p, q, g1, g2, g3, g4, rfl⟩ := at_zip hv
    obtain ⟨xs, h1, h2⟩ := r.seqL (Sq.get_mu g1) (ex.pre n a ha)
    obtain ⟨ys, h3, h4⟩ := r.seqL (Sq.get_mu g2) (ex.pre m b hb)
    obtain ⟨u, e3, r3⟩ := h2.get g3
    obtain ⟨w, e4, r4⟩ := h4.get g4
    refine ⟨⟨xs, ys, u, w, h1, h3, e3, e4⟩, fun x H2 ⟨t, y, z, ex2, ht, zz, hy, hz⟩ => ?_⟩
    subst ex2; subst zz
    have q1 := hy xs h1
    have q2 := hz ys h3
    rw [e3] at q1; cases q1
    rw [e4] at q2; cases q2
    exact aside_tup r ht (.cons r3 (.cons r4 .nil))
  · obtain ⟨vs, ws, g1, g2, g3, g4⟩ := len_zip hl
    obtain ⟨xs, h1, h2⟩ := r.seqL (Sq.get_mu g1) (ex.pre n a ha)
    obtain ⟨ys, h3, h4⟩ := r.seqL (Sq.get_mu g2) (ex.pre m b hb)
    exact ⟨xs, ys, h1, h3, .inl (by rw [← h2.length, g3]; exact Nat.le_refl _)⟩
theorem walk_zipT {vs ws : List Val} {len : Nat} {a b : Addr} {xs ys : List V} (ha : SqT W.K H a xs) (hva : RVs W φ H vs xs) (hb : SqT W.K H b ys) (hvb : RVs W φ H ws ys) : WalksS W (.zip (.im vs) (.im ws)) len (RZ.ItzT W.K a b) φ H := by
  refine ⟨fun i φ' H' M' v ex r _ hv => ?_, fun φ' H' M' ex r hl => ?_⟩
  · obtain ⟨vs', ws', p, q, g1, g2, g3, g4, rfl⟩ := at_zip hv
    cases g1
    cases g2
    obtain ⟨u, e3, r3⟩ := (hva.mono ex).get g3
    obtain ⟨w, e4, r4⟩ := (hvb.mono ex).get g4
    have h1 := ex.tk _ _ ha
    have h3 := ex.tk _ _ hb
    refine ⟨⟨xs, ys, u, w, h1, h3, e3, e4⟩, fun x H2 ⟨t, y, z, ex2, ht, zz, hy, hz⟩ => ?_⟩
    subst ex2; subst zz
    have q1 := hy xs h1
    have q2 := hz ys h3
    rw [e3] at q1; cases q1
    rw [e4] at q2; cases q2
    exact aside_tup r ht (.cons r3 (.cons r4 .nil))
  · obtain ⟨vs', ws', g1, g2, g3, g4⟩ := len_zip hl
    cases g1
    cases g2
    exact ⟨xs, ys, ex.tk _ _ ha, ex.tk _ _ hb, .inl (by rw [← hva.length, g3]; exact Nat.le_refl _)⟩
end
end Mn
end -- Sd19
section -- Sd20
set_option linter.all false
set_option autoImplicit false
set_option maxRecDepth 100000
namespace Mn
open PySem L2
section
variable {W : Wo} {G : GT} {Γ : Gam} {k : Nat} {c : CC} {X : Cx} {rec : CC → Expr → Option E}
theorem ev_one {x : E} {ρ : Env} {M M' : Mem} {vs : List Val} (h : evEs Γ [x] ρ M = .ok vs M') : ∃ v, vs = [v] ∧ evE Γ x ρ M = .ok v M' := by
  obtain ⟨v, M1, e1, e2⟩ := Res.bind_ok (show (evE Γ x ρ M).bind (fun v M => (evEs Γ [] ρ M).bind fun vs M => .ok (v :: vs) M) = .ok vs M' from h)
  cases e2
  exact ⟨v, rfl, e1⟩
theorem src_ex {v : Val} {M : Mem} {src : Src} (h : srcOf .ex [v] M = some src) : (∃ s, v = .str s ∧ src = .sq (.im (s.cps.toList.map fun c => .str ⟨#[c]⟩))) ∨ (∃ vs, v = .tup vs ∧ src = .sq (.im vs)) ∨ ∃ n, v = .ref n ∧ src = .sq (.mu n) ∧ ∃ vs, M[n]? = some (.lst vs) ∨ M[n]? = some (.rol vs) := by
  cases v with
  | str s => cases h; exact .inl ⟨s, rfl, rfl⟩
  | tup vs => cases h; exact .inr (.inl ⟨vs, rfl, rfl⟩)
  | ref n =>
    have h : (sqOf M (.ref n)).map Src.sq = some src := h
    cases e : sqOf M (.ref n) with
    | none => rw [e] at h; cases h
    | some s =>
      rw [e] at h
      cases h
      obtain ⟨rfl, z⟩ := sqOf_ref e
      exact .inr (.inr ⟨n, rfl, rfl, z⟩)
  | _ => cases h
theorem pi_ex (ok : OkX W G Γ k c X) {tg e : Expr} {x : E} (he : PE X e (lE W (evE Γ x))) : PI X tg e (lI W .ex (evEs Γ [x])) := by
  refine ⟨fun pins s σ H R I hw => ?_⟩
  obtain ⟨φ, M, ρ, vs, M', src, len, r, re, ev, hs, hl, q⟩ := hw
  obtain ⟨v, rfl, e1⟩ := ev_one ev
  rcases src_ex hs with ⟨z, rfl, rfl⟩ | ⟨ws, rfl, rfl⟩ | ⟨n, rfl, rfl, ws, em⟩
  · have hl : some (z.cps.toList.map fun c => Val.str ⟨#[c]⟩).length = some len := hl
    have el : z.cps.size = len := by simpa using hl
    subst el
    exact (pi_str he).run pins s σ H R I ⟨φ, M, ρ, _, M', r, re, e1, fun φ1 H1 u x1 r1 ru => by cases ru; exact ⟨z, rfl, q φ1 H1 _ x1 r1 walk_str⟩⟩
  · have el : ws.length = len := by have hl : some ws.length = some len := hl; cases hl; rfl
    refine (pi_tup he).run pins s σ H R I ⟨φ, M, ρ, _, M', r, re, e1, fun φ1 H1 u x1 r1 ru => ?_⟩
    cases ru with
    | tup h1 h2 => exact ⟨_, rfl, ⟨_, by rw [ok.at_.K]; exact h1⟩, by rw [ok.at_.K]; exact q φ1 H1 _ x1 r1 (walk_tup h1 h2 el)⟩
  · refine (pi_list he).run pins s σ H R I ⟨φ, M, ρ, _, M', r, re, e1, fun φ1 H1 u x1 r1 ru => ?_⟩
    cases ru with
    | ref hn =>
      obtain ⟨xs, h1, _⟩ := r1.seqL em hn
      exact ⟨_, rfl, ⟨xs, by rw [ok.at_.K]; exact h1⟩, by rw [ok.at_.K]; exact q φ1 H1 _ x1 r1 (walk_list hn)⟩
theorem range_all {vs l : List Val} (h : rangeOf vs = some l) : (∃ j, vs = [.int j] ∧ smallI j = true ∧ l = irange 0 j.toNat) ∨ (∃ i j, vs = [.int i, .int j] ∧ smallI i = true ∧ smallI j = true ∧ l = irange i (j - i).toNat) ∨
    ∃ i j, vs = [.int i, .int j, .int (-1)] ∧ smallI i = true ∧ smallI j = true ∧ l = irangeC i (-1) (i - j).toNat := by
  unfold rangeOf at h
  split at h
  · split at h
    · cases h; exact .inl ⟨_, rfl, by assumption, rfl⟩
    · cases h
  · split at h
    · rename_i hs
      rw [Bool.and_eq_true] at hs
      cases h
      exact .inr (.inl ⟨_, _, rfl, hs.1, hs.2, rfl⟩)
    · cases h
  · split at h
    · rename_i hs
      simp only [Bool.and_eq_true, decide_eq_true_eq] at hs
      obtain ⟨⟨h1, h2⟩, h3⟩ := hs
      subst h3
      cases h
      exact .inr (.inr ⟨_, _, rfl, h1, h2, rfl⟩)
    · cases h
  · cases h
theorem src_rng {vs : List Val} {M : Mem} {src : Src} (h : srcOf .range vs M = some src) : ∃ l, rangeOf vs = some l ∧ src = .sq (.im l) := by
  have h : (rangeOf vs).map (fun l => Src.sq (.im l)) = some src := by
    cases vs with
    | nil => exact h
    | cons a r => exact h
  cases e : rangeOf vs with
  | none => rw [e] at h; cases h
  | some l => rw [e] at h; cases h; exact ⟨l, rfl, rfl⟩
theorem vals_int1 {φ : List Addr} {H : Hp} {j : Int} {us : List V} (r : RVs W φ H [.int j] us) : us = [.int j] := by
  cases r with
  | cons r1 r2 => cases r1; cases r2; rfl
theorem pi_rng (ok : OkX W G Γ k c X) (hr : RecOk W G Γ k rec) {tg : Expr} {p pos : Pos} {es : List Expr} {xs : List E} (h : recs rec c es = some xs) (hb : bltB G c "range" = true) (hl : (es.length == 1 || es.length == 2 || es.length == 3) = true) : PI X tg (.Call (.Name "range" p) es [] pos) (lI W .range (evEs Γ xs)) := by
  obtain ⟨g1, g2, _, _⟩ := bltB_ok ok hb
  obtain ⟨_, hs, hp⟩ := recs_ok h
  have pa := pa_list ok hr hp hs
  refine ⟨fun pins s σ H R I hw => ?_⟩
  obtain ⟨φ, M, ρ, vs, M', src, len, r, re, ev, hsrc, hlen, q⟩ := hw
  obtain ⟨l, e1, rfl⟩ := src_rng hsrc
  have hlen : l.length = len := by have hl : some l.length = some len := hlen; cases hl; rfl
  have n1 : vs.length = es.length := by rw [evEs_len ev, ← Paired.length hp]
  match es, hs, n1, pa, hl with
  | [a], hs, n1, pa, _ =>
    simp only [List.any_cons, List.any_nil, Bool.or_false] at hs
    refine (pi_range1 g1 g2 pa (star_cons hs)).run pins s σ H R I ⟨φ, M, ρ, vs, M', r, re, ev, fun φ1 H1 us x1 r1 rus => ?_⟩
    rcases range_all e1 with ⟨j, rfl, s1, rfl⟩ | ⟨i, j, rfl, _⟩ | ⟨i, j, rfl, _⟩
    · rw [irange_len] at hlen
      subst hlen
      exact ⟨j, vals_int1 rus, (smallI_ok s1).1, (smallI_ok s1).2, q φ1 H1 _ x1 r1 walk_range⟩
    · simp at n1
    · simp at n1
  | [a, b], hs, n1, pa, _ =>
    simp only [List.any_cons, List.any_nil, Bool.or_false, Bool.or_eq_false_iff] at hs
    have sb : starEach [b] X.env = [(false, eval b X.env)] := star_cons hs.2
    refine (pi_range2 g1 g2 pa (by rw [star_cons hs.1, sb]) sb).run pins s σ H R I ⟨φ, M, ρ, vs, M', r, re, ev, fun φ1 H1 us x1 r1 rus => ?_⟩
    rcases range_all e1 with ⟨j, rfl, _⟩ | ⟨i, j, rfl, s1, s2, rfl⟩ | ⟨i, j, rfl, _⟩
    · simp at n1
    · rw [irange_len] at hlen
      subst hlen
      refine ⟨i, j, ?_, ⟨(smallI_ok s1).1, (smallI_ok s1).2, (smallI_ok s2).1, (smallI_ok s2).2⟩, q φ1 H1 _ x1 r1 walk_range⟩
      cases rus with
      | cons r1 r2 => cases r1; rw [vals_int1 r2]
    · simp at n1
  | [a, b, d], hs, n1, pa, _ =>
    simp only [List.any_cons, List.any_nil, Bool.or_false, Bool.or_eq_false_iff] at hs
    refine (pi_range3 g1 g2 pa (star_cons hs.1) (star_any (by simp [hs.2.1, hs.2.2]))).run pins s σ H R I ⟨φ, M, ρ, vs, M', r, re, ev, fun φ1 H1 us x1 r1 rus => ?_⟩
    rcases range_all e1 with ⟨j, rfl, _⟩ | ⟨i, j, rfl, _⟩ | ⟨i, j, rfl, s1, s2, rfl⟩
    · simp at n1
    · simp at n1
    · have el : (i - j).toNat = len := by rw [← hlen, irangeC_eq]; simp
      subst el
      refine ⟨i, j, -1, (i - j).toNat, ?_, RgC.neg (smallI_ok s1).1 (smallI_ok s1).2 (smallI_ok s2).1 (smallI_ok s2).2, q φ1 H1 _ x1 r1 walk_rangeC⟩
      cases rus with
      | cons r1 r2 =>
        cases r1
        cases r2 with
        | cons r3 r4 => cases r3; rw [vals_int1 r4]
theorem src_en {v : Val} {M : Mem} {src : Src} (h : srcOf .enum [v] M = some src) : ∃ s, sqOf M v = some s ∧ src = .enum s := by
  have h : (sqOf M v).map Src.enum = some src := by cases v <;> exact h
  cases e : sqOf M v with
  | none => rw [e] at h; cases h
  | some s => rw [e] at h; cases h; exact ⟨s, rfl, rfl⟩
theorem src_rev {v : Val} {M : Mem} {src : Src} (h : srcOf .rev [v] M = some src) : ∃ s, sqOf M v = some s ∧ src = .rev s := by
  have h : (sqOf M v).map Src.rev = some src := by cases v <;> exact h
  cases e : sqOf M v with
  | none => rw [e] at h; cases h
  | some s => rw [e] at h; cases h; exact ⟨s, rfl, rfl⟩
theorem sq_cases {M : Mem} {v : Val} {s : Sq} (h : sqOf M v = some s) : (∃ vs, v = .tup vs ∧ s = .im vs) ∨ ∃ n, v = .ref n ∧ s = .mu n ∧ ∃ vs, M[n]? = some (.lst vs) ∨ M[n]? = some (.rol vs) := by
  cases v with
  | tup vs => cases h; exact .inl ⟨vs, rfl, rfl⟩
  | ref n => obtain ⟨rfl, z⟩ := sqOf_ref h; exact .inr ⟨n, rfl, rfl, z⟩
  | _ => cases h
theorem pi_en (ok : OkX W G Γ k c X) (hr : RecOk W G Γ k rec) {elts : List Expr} {kk : Nat} {p pos tpos : Pos} {a : Expr} {xs : List E} (h : recs rec c [a] = some xs) (hb : bltB G c "enumerate" = true) : PI X (.Tuple elts kk tpos) (.Call (.Name "enumerate" p) [a] [] pos) (lI W .enum (evEs Γ xs)) := by
  obtain ⟨g1, g2, _, _⟩ := bltB_ok ok hb
  obtain ⟨_, hs, hp⟩ := recs_ok h
  have pa := pa_list ok hr hp hs
  simp only [List.any_cons, List.any_nil, Bool.or_false] at hs
  cases hp with
  | @cons _ x _ _ h1 hp =>
    cases hp
    refine ⟨fun pins s σ H R I hw => ?_⟩
    obtain ⟨φ, M, ρ, vs, M', src, len, r, re, ev, hsrc, hlen, q⟩ := hw
    refine (pi_enumA g1 g2 pa (star_cons hs)).run pins s σ H R I ⟨φ, M, ρ, vs, M', r, re, ev, fun φ1 H1 us x1 r1 rus => ?_⟩
    obtain ⟨v, rfl, e1⟩ := ev_one ev
    obtain ⟨sq, e2, rfl⟩ := src_en hsrc
    obtain ⟨u, rfl, ru⟩ := RVs.one (vs := []) rus
    rcases sq_cases e2 with ⟨ws, rfl, rfl⟩ | ⟨n, rfl, rfl, ws, em⟩
    · have el : ws.length = len := by have hl : some ws.length = some len := hlen; cases hl; rfl
      cases ru with
      | tup h1 h2 => exact ⟨_, _, rfl, .inr ⟨by rw [ok.at_.K]; exact h1, by rw [ok.at_.K]; exact q φ1 H1 _ x1 r1 (walk_enT h1 h2 el)⟩⟩
    · cases ru with
      | ref hn =>
        obtain ⟨ys, h1, _⟩ := r1.seqL em hn
        exact ⟨_, ys, rfl, .inl ⟨by rw [ok.at_.K]; exact h1, by rw [ok.at_.K]; exact q φ1 H1 _ x1 r1 (walk_enL hn)⟩⟩
theorem pi_rv (ok : OkX W G Γ k c X) (hr : RecOk W G Γ k rec) {tg : Expr} {p pos : Pos} {a : Expr} {xs : List E} (h : recs rec c [a] = some xs) (hb : bltB G c "reversed" = true) : PI X tg (.Call (.Name "reversed" p) [a] [] pos) (lI W .rev (evEs Γ xs)) := by
  obtain ⟨g1, g2, _, _⟩ := bltB_ok ok hb
  obtain ⟨_, hs, hp⟩ := recs_ok h
  simp only [List.any_cons, List.any_nil, Bool.or_false] at hs
  cases hp with
  | @cons _ x _ _ h1 hp =>
    cases hp
    refine ⟨fun pins s σ H R I hw => ?_⟩
    obtain ⟨φ, M, ρ, vs, M', src, len, r, re, ev, hsrc, hlen, q⟩ := hw
    obtain ⟨v, rfl, e1⟩ := ev_one ev
    refine (RT.pi_revA g1 g2 (hr c X a x ok h1).1 (star_cons hs)).run pins s σ H R I ⟨φ, M, ρ, v, M', r, re, e1, fun φ1 H1 u x1 r1 ru => ?_⟩
    obtain ⟨sq, e2, rfl⟩ := src_rev hsrc
    rcases sq_cases e2 with ⟨ws, rfl, rfl⟩ | ⟨n, rfl, rfl, ws, em⟩
    · have el : ws.length = len := by have hl : some ws.length = some len := hlen; cases hl; rfl
      cases ru with
      | tup h1 h2 => exact ⟨_, _, rfl, .inr ⟨by rw [ok.at_.K]; exact h1, by rw [ok.at_.K, ← h2.length, el]; exact q φ1 H1 _ x1 r1 (walk_revT h1 h2)⟩⟩
    · cases ru with
      | ref hn =>
        obtain ⟨ys, h1, h2⟩ := r1.seqL em hn
        have el : ws.length = len := by
          have hl : ((Sq.mu n).get M').map (·.length) = some len := hlen
          obtain ⟨vs', e3, e4⟩ := map_len hl
          rcases Sq.get_mu e3 with z | z <;> rcases em with y | y <;> (rw [z] at y; cases y) <;> exact e4
        exact ⟨_, ys, rfl, .inl ⟨by rw [ok.at_.K]; exact h1, by rw [ok.at_.K, ← h2.length, el]; exact q φ1 H1 _ x1 r1 (walk_revL hn)⟩⟩
theorem pi_rvr (ok : OkX W G Γ k c X) (hr : RecOk W G Γ k rec) {tg : Expr} {g : Str} {p pos gp gpos : Pos} {gs : List Expr} {ys : List E} (hg : g = "range") (hb : bltB G c "reversed" = true) (hb2 : bltB G c g = true) (h : recs rec c gs = some ys) (hl : (gs.length == 1 || gs.length == 2) = true) :
    PI X tg (.Call (.Name "reversed" p) [.Call (.Name g gp) gs [] gpos] [] pos) (lI W .rev (evEs Γ [.rng ys])) := by
  obtain ⟨g1, g2, _, _⟩ := bltB_ok ok hb
  refine ⟨fun pins s σ H R I hw => ?_⟩
  obtain ⟨φ, M, ρ, vs, M', src, len, r, re, ev, hsrc, hlen, q⟩ := hw
  obtain ⟨v, rfl, e1⟩ := ev_one ev
  obtain ⟨ws, M1, e2, e3⟩ := Res.bind_ok (show (evEs Γ ys ρ M).bind (fun vs M => match rangeOf vs with | some l => chk (decide (vs.length ≤ 2 ∧ l.length ≤ sizeLine)) (.ok (.tup l) M) | none => .stuck) = .ok v M' from e1)
  cases e4 : rangeOf ws with
  | none => rw [e4] at e3; cases e3
  | some l =>
    rw [e4] at e3
    obtain ⟨c1, c2⟩ := chk_ok e3
    cases c2
    obtain ⟨d1, d2⟩ := of_decide_eq_true c1
    obtain ⟨sq, e5, rfl⟩ := src_rev hsrc
    cases e5
    have el : l.length = len := by have hl : some l.length = some len := hlen; cases hl; rfl
    refine (pi_revR g1 g2 (prg_of ok hr (p := gp) (pos := gpos) hg hb2 h hl) (star_cons rfl)).run pins s σ H R I ⟨φ, M, ρ, ws, l, _, r, re, e2, d1, e4, fun φ1 H1 a b x1 r1 s1 s2 hl => ?_⟩
    subst hl
    rw [irange_len] at el
    subst el
    refine ⟨(smallI_ok s1).1, (smallI_ok s1).2, (smallI_ok s2).1, (smallI_ok s2).2, ?_⟩
    exact q φ1 H1 _ x1 r1 walk_revR
theorem src_zip {v w : Val} {M : Mem} {src : Src} (h : srcOf .zip [v, w] M = some src) : (∃ vs ws, v = .tup vs ∧ w = .tup ws ∧ src = .zip (.im vs) (.im ws)) ∨ ∃ n m, v = .ref n ∧ w = .ref m ∧ src = .zip (.mu n) (.mu m) ∧ (∃ vs, M[n]? = some (.lst vs) ∨ M[n]? = some (.rol vs)) ∧ ∃ vs, M[m]? = some (.lst vs) ∨ M[m]? = some (.rol vs) := by
  have h : (match sqOf M v, sqOf M w with
    | some (.im s), some (.im t) => some (Src.zip (.im s) (.im t))
    | some (.mu s), some (.mu t) => some (.zip (.mu s) (.mu t))
    | _, _ => none) = some src := by cases v <;> exact h
  split at h
  · rename_i s t h1 h2
    cases h
    rcases sq_cases h1 with ⟨vs, rfl, e⟩ | ⟨n, rfl, e, _⟩
    · cases e
      rcases sq_cases h2 with ⟨ws, rfl, e⟩ | ⟨n, rfl, e, _⟩
      · cases e; exact .inl ⟨_, _, rfl, rfl, rfl⟩
      · cases e
    · cases e
  · rename_i s t h1 h2
    cases h
    rcases sq_cases h1 with ⟨vs, rfl, e⟩ | ⟨n, rfl, e, z1⟩
    · cases e
    · cases e
      rcases sq_cases h2 with ⟨ws, rfl, e⟩ | ⟨m, rfl, e, z2⟩
      · cases e
      · cases e; exact .inr ⟨_, _, rfl, rfl, rfl, z1, z2⟩
  · cases h
theorem pi_zp (ok : OkX W G Γ k c X) (hr : RecOk W G Γ k rec) {elts : List Expr} {kk : Nat} {p pos tpos : Pos} {a b : Expr} {xs : List E} (h : recs rec c [a, b] = some xs) (hb : bltB G c "zip" = true) : PI X (.Tuple elts kk tpos) (.Call (.Name "zip" p) [a, b] [] pos) (lI W .zip (evEs Γ xs)) := by
  obtain ⟨g1, g2, _, _⟩ := bltB_ok ok hb
  obtain ⟨_, hs, hp⟩ := recs_ok h
  have pa := pa_list ok hr hp hs
  simp only [List.any_cons, List.any_nil, Bool.or_false, Bool.or_eq_false_iff] at hs
  have n2 : xs.length = 2 := by rw [← Paired.length hp]; rfl
  refine ⟨fun pins s σ H R I hw => ?_⟩
  obtain ⟨φ, M, ρ, vs, M', src, len, r, re, ev, hsrc, hlen, q⟩ := hw
  have n1 : vs.length = 2 := by rw [evEs_len ev, n2]
  refine (RZ.pi_zipA g1 g2 pa (star_cons hs.1) (star_any (by simp [hs.2]))).run pins s σ H R I ⟨φ, M, ρ, vs, M', r, re, ev, fun φ1 H1 us x1 r1 rus => ?_⟩
  match vs, n1, hsrc, rus with
  | [v, w], _, hsrc, rus =>
    obtain ⟨u, z, rfl, ru, rz⟩ := RVs.two rus
    rcases src_zip hsrc with ⟨vs, ws, rfl, rfl, rfl⟩ | ⟨n, m, rfl, rfl, rfl, ⟨vs, e1⟩, ws, e2⟩
    · cases ru with
      | tup h1 h2 =>
        cases rz with
        | tup h3 h4 => exact ⟨_, _, _, _, rfl, .inr ⟨by rw [ok.at_.K]; exact h1, by rw [ok.at_.K]; exact h3, by rw [ok.at_.K]; exact q φ1 H1 _ x1 r1 (walk_zipT h1 h2 h3 h4)⟩⟩
    · cases ru with
      | ref hn =>
        cases rz with
        | ref hm =>
          obtain ⟨ys, h1, _⟩ := r1.seqL e1 hn
          obtain ⟨zs, h2, _⟩ := r1.seqL e2 hm
          exact ⟨_, _, ys, zs, rfl, .inl ⟨by rw [ok.at_.K]; exact h1, by rw [ok.at_.K]; exact h2, by rw [ok.at_.K]; exact q φ1 H1 _ x1 r1 (walk_zipL hn hm)⟩⟩
end
end Mn
end -- Sd20
section -- Sd21
set_option linter.all false
set_option autoImplicit false
set_option maxRecDepth 100000
namespace Mn
open PySem L2
section
variable {W : Wo} {G : GT} {Γ : Gam} {k : Nat} {c : CC} {X : Cx} {rec : CC → Expr → Option E}
theorem omap {α β : Type} {o : Option α} {f : α → β} {b : β} (h : o.map f = some b) : ∃ a, o = some a ∧ b = f a := by
  cases o with
  | none => cases h
  | some a => cases h; exact ⟨a, rfl, rfl⟩
theorem obind {α β : Type} {o : Option α} {f : α → Option β} {b : β} (h : o.bind f = some b) : ∃ a, o = some a ∧ f a = some b := by
  cases o with
  | none => cases h
  | some a => exact ⟨a, rfl, h⟩
theorem recs_one (ok : OkX W G Γ k c X) (hr : RecOk W G Γ k rec) {e : Expr} {xs : List E} (h : recs rec c [e] = some xs) : ∃ x, xs = [x] ∧ PE X e (lE W (evE Γ x)) := by
  obtain ⟨_, _, hp⟩ := recs_ok h
  cases hp with
  | @cons _ x _ _ h1 hp => cases hp; exact ⟨x, rfl, (hr c X e x ok h1).1⟩
theorem pi_of (ok : OkX W G Γ k c X) (hr : RecOk W G Γ k rec) {tg iter : Expr} {p : IK × List E} (h : cIt G rec c tg iter = some p) : PI X tg iter (lI W p.1 (evEs Γ p.2)) ∧ ∀ x, foldedSetIterable iter X.env x = pure x := by
  have ex : ∀ {e : Expr} {p : IK × List E}, (recs rec c [e]).map (fun x => (IK.ex, x)) = some p → PI X tg e (lI W p.1 (evEs Γ p.2)) := fun {e p} h => by
    obtain ⟨xs, h1, rfl⟩ := omap h
    obtain ⟨x, rfl, pe⟩ := recs_one ok hr h1
    exact pi_ex ok pe
  unfold cIt at h
  split at h
  · rename_i f fp args kws pos
    refine ⟨?_, fun x => rfl⟩
    split at h
    · rename_i hb
      split at h
      · rename_i e
        subst e
        split at h
        · split at h
          · rename_i hl
            obtain ⟨xs, h1, rfl⟩ := omap h
            exact pi_rng ok hr h1 hb hl
          · cases h
        · cases h
      · split at h
        · rename_i e
          subst e
          split at h
          · obtain ⟨xs, h1, rfl⟩ := omap h
            exact pi_en ok hr h1 hb
          · cases h
        · split at h
          · rename_i e
            subst e
            split at h
            · split at h
              · rename_i hc
                simp only [Bool.and_eq_true, decide_eq_true_eq] at hc
                obtain ⟨xs, h1, rfl⟩ := omap h
                exact pi_rvr ok hr hc.1.1 hb hc.1.2 h1 hc.2
              · obtain ⟨xs, h1, rfl⟩ := omap h
                exact pi_rv ok hr h1 hb
            · obtain ⟨xs, h1, rfl⟩ := omap h
              exact pi_rv ok hr h1 hb
            · cases h
          · split at h
            · rename_i e
              subst e
              split at h
              · obtain ⟨xs, h1, rfl⟩ := omap h
                exact pi_zp ok hr h1 hb
              · cases h
            · exact ex h
    · exact ex h
  · cases h
  · rename_i hn hs
    refine ⟨ex h, fun x => ?_⟩
    cases iter <;> first | rfl | exact (hs _ _ _ rfl).elim
/-! ### targets -/
def lG (W : Wo) (t : T) : TG := fun x σ H Q => ∃ φ M v ρ ρ', RM W φ M H ∧ RV W φ H v x ∧ RE W φ H ρ σ ∧ asgT M t v ρ = some ρ' ∧ ∀ σ', RE W φ H ρ' σ' → (∀ own : List Nat, (∀ i ∈ t.slots 8, i ∈ own) → L2.wipe σ' own = L2.wipe σ own) → Q σ' H
theorem wipe_set {σ : L2.St} {i : Nat} {x : Option V} : ∀ {own : List Nat}, i ∈ own → L2.wipe (σ.set i x) own = L2.wipe σ own
  | v :: vs, h => by
    unfold L2.wipe
    by_cases e : i ∈ vs
    · rw [wipe_set e]
    · have : i = v := by rcases List.mem_cons.mp h with z | z; exact z; exact absurd z e
      subst this
      have key : ∀ (l : List Nat) (τ : L2.St), L2.wipe (τ.set i x) l = (L2.wipe τ l).set i (if i ∈ l then none else x) := fun l => by
        induction l with
        | nil => intro τ; simp [L2.wipe]
        | cons a l ih =>
          intro τ
          unfold L2.wipe
          rw [ih]
          by_cases ea : a = i
          · subst ea; simp
          · rw [List.set_comm _ _ (Ne.symm ea)]
            have : (i ∈ a :: l) = (i ∈ l) := by simp [Ne.symm ea]
            simp only [this]
      rw [key, List.set_set]
theorem locB_loc {x : Str} (ok : OkX W G Γ k c X) (h : locB c x = true) : Loc X.env.scope x ∧ (X.fn x = true ∨ X.env.scope.names.lookup x = some .local) := by
  unfold locB at h
  rw [ok.sc, ok.fn]
  split at h
  · rename_i e; exact ⟨.inl e, .inr e⟩
  · rename_i e; exact ⟨.inr e, .inl h⟩
  · cases h
theorem gs_set {ρ ρ' : Env} {M : Mem} {i : Nat} {v : Val} (h : asgT M (.nm i) v ρ = some ρ') : ρ' = ρ.set i (some v) := by
  have h : (if i < ρ.length then some (ρ.set i (some v)) else none) = some ρ' := h
  split at h
  · cases h; rfl
  · cases h
theorem assign_star {t : Expr} {ts : List Expr} {env : PySem.Env} (h : isStar t = false) : (assignEach (t :: ts) env) = (false, assign t env) :: assignEach ts env := by
  cases t <;> first | rfl | (cases h; done)
theorem pg_of (ok : OkX W G Γ k c X) : ∀ (n : Nat) (tg : Expr) (t : T), tgC c n tg = some t → n ≤ 8 → isStar tg = false ∧
    PG X tg (fun x σ H Q => ∃ φ M v ρ ρ', RM W φ M H ∧ RV W φ H v x ∧ RE W φ H ρ σ ∧ asgT M t v ρ = some ρ' ∧ ∀ σ', RE W φ H ρ' σ' → (∀ own : List Nat, (∀ i ∈ t.slots n, i ∈ own) → L2.wipe σ' own = L2.wipe σ own) → Q σ' H) := by
  intro n
  induction n with
  | zero =>
    intro tg t h _
    cases tg with
    | Name x p =>
      have h : (if locB c x then (slotOf c x).map T.nm else none) = some t := h
      split at h
      · rename_i hl
        obtain ⟨i, e, rfl⟩ := omap h
        obtain ⟨h1, h2⟩ := locB_loc ok hl
        obtain ⟨hN, _⟩ := slotOf_at e
        refine ⟨rfl, ⟨fun pins s σ H v u Q I r hw => (pg_name ok.nd (by rw [ok.N]; exact hN) h1 h2).run pins s σ H v u Q I r ?_⟩⟩
        obtain ⟨φ, M, w, ρ, ρ', rm, rv, re, ea, q⟩ := hw
        rw [gs_set ea] at q
        exact q _ (re.set i rv) fun own hi => wipe_set (hi i (by show i ∈ [i]; simp))
      · cases h
    | _ => cases h
  | succ n ih =>
    intro tg t h hn
    cases tg with
    | Name x p =>
      have h : (if locB c x then (slotOf c x).map T.nm else none) = some t := h
      split at h
      · rename_i hl
        obtain ⟨i, e, rfl⟩ := omap h
        obtain ⟨h1, h2⟩ := locB_loc ok hl
        obtain ⟨hN, _⟩ := slotOf_at e
        refine ⟨rfl, ⟨fun pins s σ H v u Q I r hw => (pg_name ok.nd (by rw [ok.N]; exact hN) h1 h2).run pins s σ H v u Q I r ?_⟩⟩
        obtain ⟨φ, M, w, ρ, ρ', rm, rv, re, ea, q⟩ := hw
        rw [gs_set ea] at q
        exact q _ (re.set i rv) fun own hi => wipe_set (hi i (by show i ∈ [i]; simp))
      · cases h
    | Tuple es j p =>
      have h : (optAll (es.map (tgC c n))).map T.tp = some t := h
      obtain ⟨ts, e1, rfl⟩ := omap h
      have hp := optAll_map e1
      have stars : ∀ {es : List Expr} {ts : List T}, Paired (fun a b => tgC c n a = some b) es ts → (assignEach es X.env).length = ts.length ∧ (assignEach es X.env).findIdx? (·.1) = none := fun {es ts} hp => by
        induction hp with
        | nil => exact ⟨rfl, rfl⟩
        | @cons a b as bs h1 h2 ih2 =>
          rw [assign_star (ih a b h1 (by omega)).1]
          refine ⟨by simp [ih2.1], ?_⟩
          rw [List.findIdx?_cons]
          simp [ih2.2]
      have each : ∀ {es : List Expr} {ts : List T}, Paired (fun a b => tgC c n a = some b) es ts →
          PGs X es (fun xs σ H Q => ∃ φ M vs ρ ρ', RM W φ M H ∧ RVs W φ H vs xs ∧ RE W φ H ρ σ ∧ asgTs M ts vs ρ = some ρ' ∧ ∀ σ', RE W φ H ρ' σ' → (∀ own : List Nat, (∀ t ∈ ts, ∀ i ∈ t.slots n, i ∈ own) → L2.wipe σ' own = L2.wipe σ own) → Q σ' H) := fun {es ts} hp => by
        induction hp with
        | nil =>
          refine ⟨fun pins s σ H vs us Q I r hw => pgs_nil.run pins s σ H vs us Q I r ?_⟩
          obtain ⟨φ, M, ws, ρ, ρ', rm, rv, re, ea, q⟩ := hw
          cases ws with
          | nil => cases rv; cases ea; exact ⟨rfl, q σ re fun _ _ => rfl⟩
          | cons _ _ => cases ea
        | @cons a b as bs h1 h2 ih2 =>
          refine ⟨fun pins s σ H vs us Q I r hw => (pgs_cons (ih a b h1 (by omega)).2 ih2 (by rw [assign_star (ih a b h1 (by omega)).1]; rfl)).run pins s σ H vs us Q I r ?_⟩
          obtain ⟨φ, M, ws, ρ, ρ', rm, rv, re, ea, q⟩ := hw
          cases rv with
          | nil => cases ea
          | @cons w x ws xs r1 r2 =>
            have ea : (match asgT M b w ρ with | some ρ' => asgTs M bs ws ρ' | none => none) = some ρ' := ea
            cases e2 : asgT M b w ρ with
            | none => rw [e2] at ea; cases ea
            | some ρ1 =>
              rw [e2] at ea
              exact ⟨x, xs, rfl, φ, M, w, ρ, ρ1, rm, r1, re, e2, fun σ1 re1 w1 => ⟨φ, M, ws, ρ1, ρ', rm, r2, re1, ea, fun σ2 re2 w2 => q σ2 re2 fun own hi =>
                (w2 own fun t ht => hi t (List.mem_cons_of_mem _ ht)).trans (w1 own fun i hi' => hi b List.mem_cons_self i hi')⟩⟩
      obtain ⟨s1, s2⟩ := stars hp
      refine ⟨rfl, ⟨fun pins s σ H v u Q I r hw => (pg_tup ok.calm (each hp) s1 s2).run pins s σ H v u Q I r ?_⟩⟩
      obtain ⟨φ, M, w, ρ, ρ', rm, rv, re, ea, q⟩ := hw
      cases rv with
      | @tup vs xs a h1 h2 =>
        have ea : asgTs M ts vs ρ = some ρ' := ea
        have ln : ∀ {ts : List T} {vs : List Val} {ρ ρ' : Env}, asgTs M ts vs ρ = some ρ' → vs.length = ts.length := fun {ts} => by
          induction ts with
          | nil => intro vs ρ ρ' h; cases vs with | nil => rfl | cons _ _ => cases h
          | cons t ts ih3 =>
            intro vs ρ ρ' h
            cases vs with
            | nil => cases h
            | cons w vs =>
              have h : (match asgT M t w ρ with | some ρ' => asgTs M ts vs ρ' | none => none) = some ρ' := h
              cases e2 : asgT M t w ρ with
              | none => rw [e2] at h; cases h
              | some ρ1 => rw [e2] at h; simp [ih3 h]
        refine ⟨a, xs, rfl, by rw [ok.at_.K]; exact h1, by rw [← h2.length, ln ea], φ, M, vs, ρ, ρ', rm, h2, re, ea, fun σ' re' w' => q σ' re' fun own hi => w' own fun t ht i hi' => hi i ?_⟩
        show i ∈ (ts.map (T.slots n)).flatten
        simp only [List.mem_flatten, List.mem_map]
        exact ⟨_, ⟨t, ht, rfl⟩, hi'⟩
      | _ => cases ea
    | _ => cases h
theorem pg_ok (ok : OkX W G Γ k c X) {tg : Expr} {t : T} (h : tgC c 8 tg = some t) : PG X tg (lG W t) := (pg_of ok 8 tg t h (Nat.le_refl _)).2
end
end Mn
end -- Sd21
section -- Sd22
set_option linter.all false
set_option autoImplicit false
set_option maxRecDepth 100000
namespace Mn
open PySem L2
section
variable {W : Wo} {φ φ' : List Addr} {M : Mem} {H H' : Hp}
/-- an object that stands beside the store comes into it -/
theorem RM.adopt {p : Addr} {o : Obj} (r : RM W φ M H) (hn : ∀ n, 0 < n → φ[n]? ≠ some p) (ho : owns o = true) (h : RO W (φ ++ [p]) H p o) : RM W (φ ++ [p]) (M ++ [o]) H := by
  have split : ∀ (n : Nat) (on : Obj) (a : Addr), (M ++ [o])[n]? = some on → (φ ++ [p])[n]? = some a → (M[n]? = some on ∧ φ[n]? = some a) ∨ (n = M.length ∧ on = o ∧ a = p) := fun n on a h1 h2 => by
    by_cases hl : n < M.length
    · rw [List.getElem?_append_left hl] at h1
      rw [List.getElem?_append_left (by rw [r.len]; exact hl)] at h2
      exact .inl ⟨h1, h2⟩
    · have hl' : n < (M ++ [o]).length := (List.getElem?_eq_some_iff.mp h1).1
      have e : n = M.length := by simp at hl'; omega
      subst e
      refine .inr ⟨rfl, ?_, ?_⟩
      · rw [List.getElem?_append_right (Nat.le_refl _)] at h1; simp at h1; exact h1.symm
      · rw [← r.len, List.getElem?_append_right (Nat.le_refl _)] at h2; simp at h2; exact h2.symm
  have e0 : Ex0 W φ H (φ ++ [p]) H := ⟨fun n a e => by rw [List.getElem?_append_left (List.getElem?_eq_some_iff.mp e).1]; exact e, .refl⟩
  refine ⟨by simp [r.len], by simp, fun n on h1 => ?_, fun n m a on om h1 h2 h3 h4 h5 h6 => ?_, fun n on a h1 h2 => ?_⟩
  · by_cases hl : n < M.length
    · rw [List.getElem?_append_left hl] at h1; exact r.own n on h1
    · have hl' : n < (M ++ [o]).length := (List.getElem?_eq_some_iff.mp h1).1
      have e : n = M.length := by simp at hl'; omega
      subst e
      rw [List.getElem?_append_right (Nat.le_refl _)] at h1
      simp at h1
      subst h1
      exact ⟨fun _ => r.ne, fun _ => ho⟩
  · rcases split n on a h1 h5 with ⟨k1, k2⟩ | ⟨rfl, rfl, rfl⟩
    · rcases split m om a h2 h6 with ⟨j1, j2⟩ | ⟨rfl, rfl, rfl⟩
      · exact r.inj n m a on om k1 j1 h3 h4 k2 j2
      · exact absurd k2 (hn n ((r.own n on k1).mp h3))
    · rcases split m om a h2 h6 with ⟨j1, j2⟩ | ⟨rfl, rfl, _⟩
      · exact absurd j2 (hn m ((r.own m om j1).mp h4))
      · rfl
  · rcases split n on a h1 h2 with ⟨k1, k2⟩ | ⟨rfl, rfl, rfl⟩
    · exact (r.obj n on a k1 k2).keep0 e0 rfl
    · exact h
theorem Ext.adopt {p : Addr} (e : Ext W φ H φ' H') (h : H p = none) : Ext W φ H (φ' ++ [p]) H' := by
  refine ⟨fun n a z => ?_, e.tk, fun a u ha hn => ?_⟩
  · have z2 := e.pre n a z
    rw [List.getElem?_append_left (List.getElem?_eq_some_iff.mp z2).1]; exact z2
  · obtain ⟨z1, z2⟩ := e.frm a u ha hn
    refine ⟨z1, fun n h0 q => ?_⟩
    by_cases hl : n < φ'.length
    · rw [List.getElem?_append_left hl] at q; exact z2 n h0 q
    · rw [List.getElem?_append_right (by omega)] at q
      cases hk : n - φ'.length with
      | zero => rw [hk] at q; simp at q; subst q; rw [h] at ha; cases ha
      | succ k => rw [hk] at q; simp at q
end
section
variable {W : Wo} {G : GT} {Γ : Gam} {k : Nat} {c : CC} {X : Cx} {rec : CC → Expr → Option E}
theorem wipe_get (σ : L2.St) (i : Nat) : ∀ l : List Nat, (L2.wipe σ l)[i]? = if i ∈ l then (σ[i]?).map (fun _ => none) else σ[i]?
  | [] => by simp [L2.wipe]
  | a :: l => by
    unfold L2.wipe
    rw [List.getElem?_set, wipe_get σ i l]
    by_cases e : a = i
    · subst e
      rw [wipe_length]
      by_cases hl : a < σ.length
      · simp [hl]
      · simp [hl]
    · have e' : ¬ i = a := fun z => e z.symm
      simp [e, e']
theorem wipe_twice {σ : L2.St} (l : List Nat) : L2.wipe (L2.wipe σ l) l = L2.wipe σ l := by
  refine List.ext_getElem? fun i => ?_
  rw [wipe_get, wipe_get]
  split
  · simp [Function.comp_def]
  · rfl
theorem ok_blk (ok : OkX W G Γ k c X) (scope : Scope) (s : Shared) (H : Hp) (C : Addr) (cl : List (Str × Addr)) (fp : List Addr) : OkX W G Γ k (blkCC c scope) (X.blk s H scope (compEnvC scope cl C X.env) fp) :=
  ⟨ok.facts, ⟨ok.at_.prog, ok.at_.w, ok.at_.K, ok.at_.mg⟩, by show relS scope X.env.scope = relS scope c.sc; rw [ok.sc], ok.N, ok.nd, rfl, ok.calm, ok.room, ok.grd, rfl⟩
theorem pts_of (ok : OkX W G Γ k c X) (hr : RecOk W G Γ k rec) {ifs : List Expr} {cs : List E} (h : recs rec c ifs = some cs) (hl : ifs.length ≤ 1) : PTs X ifs (lT W (evC Γ cs)) := by
  obtain ⟨_, _, hp⟩ := recs_ok h
  cases hp with
  | nil =>
    refine ⟨fun pins s σ H Q I hw => pts_nil.run pins s σ H Q I ?_⟩
    obtain ⟨φ, M, ρ, b, M', r, re, e, q⟩ := hw
    cases e
    exact q φ H .refl r
  | @cons e x es xs h1 hp =>
    cases hp with
    | cons _ _ => simp at hl
    | nil =>
      refine ⟨fun pins s σ H Q I hw => (pts_one (hr c X e x ok h1).2).run pins s σ H Q I ?_⟩
      obtain ⟨φ, M, ρ, b, M', r, re, ev, q⟩ := hw
      obtain ⟨v, M1, e1, e2⟩ := Res.bind_ok (show (evE Γ x ρ M).bind (fun v M => match truth M v with | some true => evC Γ [] ρ M | some false => .ok false M | none => .stuck) = .ok b M' from ev)
      cases e3 : truth M1 v with
      | none => rw [e3] at e2; cases e2
      | some d =>
        rw [e3] at e2
        cases d with
        | true => cases e2; exact ⟨φ, M, ρ, true, _, r, re, evT_of e1 e3, q⟩
        | false => cases e2; exact ⟨φ, M, ρ, false, _, r, re, evT_of e1 e3, q⟩
theorem c_comp (ok : OkX W G Γ k c X) (hr : RecOk W G Γ k rec) {elt : Expr} {scope : Scope} {gens : List Comprehension} {x : E} {pos : Pos} (h : cComp G rec c elt scope gens = some x) :
    PE X (.ListComp elt gens scope pos) (lE W (evE Γ x)) ∧ (∀ {i : Nat} {y : Str} {py spos : Pos}, c.N[i]? = some y → locL c y = true → swYes c y py pos scope = true → PS X (.Assign [.Name y py] (.ListComp elt gens scope pos) spos) (tAsg (lE W (evE Γ x)) (gName i))) := by
  unfold cComp at h
  split at h
  · rename_i tg iter ifs
    split at h
    · rename_i hb
      rw [Bool.and_eq_true, decide_eq_true_eq] at hb
      obtain ⟨hb1, hb2⟩ := hb
      obtain ⟨p, h1, h⟩ := obind h
      obtain ⟨t, h2, h⟩ := obind h
      obtain ⟨cs, h3, h⟩ := obind h
      obtain ⟨e, h4, h⟩ := obind h
      split at h
      · rename_i hsl
        cases h
        have hsl : ∀ i ∈ t.slots 8, i ∈ (ownOf c.N scope).map (·.2) := fun i hi => by simpa using List.all_eq_true.mp hsl i hi
        obtain ⟨pi, hs⟩ := pi_of ok hr h1
        have bo := blkOk_by (N := X.N) (sc := X.env.scope) (scope := scope) (own := ownOf c.N scope) (by rw [ok.N, ok.sc]; exact hb1)
        have hg := fun s H C cl fp => pg_ok (ok_blk ok scope s H C cl fp) h2
        have ht := fun s H C cl fp => pts_of (ok_blk ok scope s H C cl fp) hr h3 hb2
        have he := fun s H C cl fp => (hr _ _ elt e (ok_blk ok scope s H C cl fp) h4).1
        have main : ∀ σ H Q, lE W (evE Γ (.comp p.1 p.2 t ((ownOf c.N scope).map (·.2)) cs e)) σ H Q → tLc (lI W p.1 (evEs Γ p.2)) (lG W t) (lT W (evC Γ cs)) (lE W (evE Γ e)) ((ownOf c.N scope).map (·.2)) σ H Q := by
          generalize (ownOf c.N scope).map (·.2) = own at hsl
          rintro σ H Q ⟨φ, M, ρ, v, M', r, re, ev, q⟩
          obtain ⟨vs, M1, e1, e2⟩ := Res.bind_ok (show (evEs Γ p.2 ρ M).bind (fun vs M => match srcOf p.1 vs M with
            | none => .stuck
            | some src => match src.len M with
              | none => .stuck
              | some len => if len ≤ sizeLine then
                  (compL (fun ρ M => (evC Γ cs ρ M).bind fun b M => if b then (evE Γ e ρ M).bind fun v M => .ok (some v) M else .ok none M) src t (wipeE ρ own) len len [] M).bind fun l M => new (.lst l) M
                else .stuck) = .ok v M' from ev)
          cases e3 : srcOf p.1 vs M1 with
          | none => rw [e3] at e2; cases e2
          | some src =>
            rw [e3] at e2
            dsimp only at e2
            cases e4 : src.len M1 with
            | none => rw [e4] at e2; cases e2
            | some len =>
              rw [e4] at e2
              dsimp only at e2
              split at e2
              · rename_i hlen
                obtain ⟨l, M2, e5, e6⟩ := Res.bind_ok e2
                cases e6
                refine ⟨φ, M, ρ, vs, M1, src, len, r, re, e1, e3, e4, fun φ1 H1 J x1 r1 wk D hD => ?_⟩
                refine ⟨fun i m Hc => ∃ φ2 Mc acc us, m = len - i ∧ i ≤ len ∧ Ext W φ1 H1 φ2 Hc ∧ RM W φ2 Mc Hc ∧ (∀ n, 0 < n → φ2[n]? ≠ some D) ∧ Hc D = some (.lst us) ∧ RVs W φ2 Hc acc.reverse us ∧ acc.length ≤ i ∧
                  compL (fun ρ M => (evC Γ cs ρ M).bind fun b M => if b then (evE Γ e ρ M).bind fun v M => .ok (some v) M else .ok none M) src t (wipeE ρ own) len (len - i) acc Mc = .ok l M2, ⟨len, φ1, M1, [], [], by omega, Nat.zero_le _, Ext.aside .refl hD (.inl hD), r1.aside (.inl hD) (r1.out hD), r1.out hD, upd_same, .nil, Nat.le_refl _, e5⟩, ?_⟩
                rintro i m Hc ⟨φ2, Mc, acc, us, rfl, hi, x2, r2, nD, eD, rv, la, ec⟩
                by_cases hlt : i < len
                · obtain ⟨n, en⟩ : ∃ n, len - i = n + 1 := ⟨len - i - 1, by omega⟩
                  rw [en] at ec
                  have ei : len - (n + 1) = i := by omega
                  have ec : (match src.at Mc len (len - (n + 1)) with
                    | none => .stuck
                    | some v => match asgT Mc t v (wipeE ρ own) with
                      | none => .stuck
                      | some ρ' => match (evC Γ cs ρ' Mc).bind (fun b M => if b then (evE Γ e ρ' M).bind fun v M => Res.ok (some v) M else .ok none M) with
                        | .ok none M' => compL (fun ρ M => (evC Γ cs ρ M).bind fun b M => if b then (evE Γ e ρ M).bind fun v M => .ok (some v) M else .ok none M) src t (wipeE ρ own) len n acc M'
                        | .ok (some w) M' => compL (fun ρ M => (evC Γ cs ρ M).bind fun b M => if b then (evE Γ e ρ M).bind fun v M => .ok (some v) M else .ok none M) src t (wipeE ρ own) len n (w :: acc) M'
                        | _ => .stuck) = Res.ok l M2 := ec
                  rw [ei] at ec
                  cases e7 : src.at Mc len i with
                  | none => rw [e7] at ec; cases ec
                  | some w =>
                    rw [e7] at ec
                    dsimp only at ec
                    cases e8 : asgT Mc t w (wipeE ρ own) with
                    | none => rw [e8] at ec; cases ec
                    | some ρ' =>
                      rw [e8] at ec
                      dsimp only at ec
                      obtain ⟨g1, g2⟩ := wk.go i φ2 Hc Mc w x2 r2 hlt e7
                      have en2 : len - (i + 1) = n := by omega
                      refine .inr ⟨g1, fun H' => ∃ φ2 Mc acc us, i + 1 ≤ len ∧ Ext W φ1 H1 φ2 H' ∧ RM W φ2 Mc H' ∧ (∀ n, 0 < n → φ2[n]? ≠ some D) ∧ H' D = some (.lst us) ∧ RVs W φ2 H' acc.reverse us ∧ acc.length ≤ i + 1 ∧
                        compL (fun ρ M => (evC Γ cs ρ M).bind fun b M => if b then (evE Γ e ρ M).bind fun v M => .ok (some v) M else .ok none M) src t (wipeE ρ own) len (len - (i + 1)) acc Mc = .ok l M2,
                        fun H' ⟨φ3, M3, acc3, us3, z⟩ => ⟨len - (i + 1), by omega, φ3, M3, acc3, us3, rfl, z⟩, fun y H2 hy => ?_⟩
                      obtain ⟨x3, r3, rw3⟩ := g2 y H2 hy
                      have x13 := x2.trans x3
                      obtain ⟨d2, n2⟩ := x3.frm D _ eD nD
                      refine ⟨φ2, Mc, w, wipeE ρ own, ρ', r3, rw3, ((re.mono (x1.trans x13)).wipe own), e8, fun σ' re' hw => ⟨(hw own hsl).trans (wipe_twice own), ?_⟩⟩
                      cases e9 : evC Γ cs ρ' Mc with
                      | exc C fs M => rw [e9] at ec; cases ec
                      | stuck => rw [e9] at ec; cases ec
                      | ok b M3 =>
                        rw [e9] at ec
                        refine ⟨φ2, Mc, ρ', b, M3, r3, re', e9, fun φ3 H3 x4 r4 => ?_⟩
                        obtain ⟨d3, n3⟩ := x4.frm D _ d2 n2
                        cases b with
                        | false =>
                          have ec : compL (fun ρ M => (evC Γ cs ρ M).bind fun b M => if b then (evE Γ e ρ M).bind fun v M => .ok (some v) M else .ok none M) src t (wipeE ρ own) len n acc M3 = .ok l M2 := ec
                          exact ⟨φ3, M3, acc, us, by omega, x13.trans x4, r4, n3, d3, rv.mono (x3.trans x4), by omega, by rw [en2]; exact ec⟩
                        | true =>
                          cases e10 : evE Γ e ρ' M3 with
                          | exc C fs M => simp only [Res.bind, if_true, e10] at ec; cases ec
                          | stuck => simp only [Res.bind, if_true, e10] at ec; cases ec
                          | ok u M4 =>
                            simp only [Res.bind, if_true, e10] at ec
                            refine ⟨φ3, M3, ρ', u, M4, r4, re'.mono x4, e10, fun φ4 H4 uu x5 r5 ru => ?_⟩
                            obtain ⟨d4, n4⟩ := x5.frm D _ d3 n3
                            have mu : Mut (H4 D) := by rw [d4]; trivial
                            have lu : us.length = acc.length := by rw [← rv.length, List.length_reverse]
                            refine ⟨us, d4, by omega, φ4, M4, u :: acc, us ++ [uu], by omega, Ext.aside (x13.trans (x4.trans x5)) hD (.inr mu), r5.aside (.inr mu) n4, n4, upd_same, ?_, by simp; omega, by rw [en2]; exact ec⟩
                            rw [List.reverse_cons]
                            exact ((rv.mono (x3.trans (x4.trans x5))).append (.cons ru .nil)).mono0 ⟨fun _ _ z => z, TK.upd (.inr mu)⟩
                · have ei : i = len := by omega
                  subst ei
                  rw [Nat.sub_self] at ec
                  have ec : (if src.len Mc = some i then Res.ok acc.reverse Mc else .stuck) = .ok l M2 := ec
                  split at ec
                  · rename_i hl
                    cases ec
                    refine .inl ⟨wk.stop φ2 Hc _ x2 r2 hl, ?_⟩
                    have x3 := Ext.adopt x2 hD
                    have e0 : Ex0 W φ2 Hc (φ2 ++ [D]) Hc := ⟨fun n a z => by rw [List.getElem?_append_left (List.getElem?_eq_some_iff.mp z).1]; exact z, .refl⟩
                    exact q _ _ (.ref D) (x1.trans x3) (r2.adopt nD rfl ⟨us, eD, rv.mono0 e0⟩) (.ref (by rw [← r2.len, List.getElem?_append_right (Nat.le_refl _)]; simp))
                  · cases ec
              · cases e2
        refine ⟨pe_weak (pe_lc ok.calm ok.nd pi bo hg ht he hs) main, fun {i y py spos} hN hL hsw => ?_⟩
        have hsw : (locL c y && (py.line == pos.line) && !(scope.names.any fun (n, k) => n == y && (k == .local || k == .cell))) = true := hsw
        simp only [Bool.and_eq_true, Bool.not_eq_true'] at hsw
        have hlx : X.env.scope.names.lookup y = some .local := by
          rw [ok.sc]
          unfold locL at hL
          split at hL
          · assumption
          · cases hL
        refine ⟨fun pins s σ H Dd I hw => (ps_setLc ok.calm ok.nd (by rw [ok.N]; exact hN) hlx (sw_true I.ok.kind hlx hsw.1.2 hsw.2) pi bo hg ht he hs).run pins s σ H Dd I ?_⟩
        exact main σ H _ hw
      · cases h
    · cases h
  · cases h
end
end Mn
end -- Sd22
section -- Sd23
set_option linter.all false
set_option autoImplicit false
set_option maxRecDepth 100000
namespace Mn
open PySem L2
section
variable {W : Wo} {G : GT} {Γ : Gam} {k : Nat} {c : CC} {X : Cx} {rec : CC → Expr → Option E}
theorem t_ite {t a b : Expr} {x y z : E} {pos : Pos} (ht : PT X t (lT W (evT Γ x))) (ha : PT X a (lT W (evT Γ y))) (hb : PT X b (lT W (evT Γ z))) : PT X (.IfExp t a b pos) (lT W (evT Γ (.ite x y z))) := by
  refine ⟨fun pins s σ H Q I hw => ?_⟩
  obtain ⟨φ, M, ρ, d, M', r, re, e, q⟩ := hw
  obtain ⟨v, e0, e5⟩ := evT_inv e
  obtain ⟨w, M1, e1, e2⟩ := Res.bind_ok (show (evE Γ x ρ M).bind (fun w M => match truth M w with | some true => evE Γ y ρ M | some false => evE Γ z ρ M | none => .stuck) = .ok v M' from e0)
  cases e3 : truth M1 w with
  | none => rw [e3] at e2; cases e2
  | some d' =>
    rw [e3] at e2
    show wpAny _ _ (isTrue t X.env (eval t X.env) >>= fun g => if g = true then isTrue a X.env (eval a X.env) else isTrue b X.env (eval b X.env)) _ _ s
    refine wpAny_bind (thn (ht.run pins s σ H (fun g H1 => g = d' ∧ ∃ φ1, Ext W φ H φ1 H1 ∧ RM W φ1 M1 H1) I ⟨φ, M, ρ, d', M1, r, re, evT_of e1 e3, fun φ1 H1 x1 r1 => ⟨rfl, φ1, x1, r1⟩⟩) fun g s1 ⟨H1, I1, eg, φ1, x1, r1⟩ => ?_)
    subst eg
    cases g with
    | true => exact ha.run pins s1 σ H1 Q I1 ⟨φ1, M1, ρ, d, M', r1, re.mono x1, evT_of e2 e5, fun φ2 H2 x2 r2 => q φ2 H2 (x1.trans x2) r2⟩
    | false => exact hb.run pins s1 σ H1 Q I1 ⟨φ1, M1, ρ, d, M', r1, re.mono x1, evT_of e2 e5, fun φ2 H2 x2 r2 => q φ2 H2 (x1.trans x2) r2⟩
theorem cE_ok (hr : RecOk W G Γ k rec) (ok : OkX W G Γ k c X) : ∀ {e : Expr} {x : E}, cE G rec c e = some x → PE X e (lE W (evE Γ x)) ∧ PT X e (lT W (evT Γ x)) := by
  intro e x h
  cases e with
  | Name s p => have z := c_name ok (pos := p) (show cName G c s = some x from h); exact ⟨z, pt_of ok z fun _ => rfl⟩
  | Constant q j p => have z := c_const (W := W) (Γ := Γ) (X := X) (j := j) (pos := p) (show cConst q = some x from h); exact ⟨z, pt_of ok z fun _ => rfl⟩
  | Tuple es j p =>
    obtain ⟨xs, h1, rfl⟩ := omap (show (recs rec c es).map E.tup = some x from h)
    have z := c_tup ok hr h1 (j := j) (pos := p)
    exact ⟨z, pt_of ok z fun _ => rfl⟩
  | List es p =>
    obtain ⟨xs, h1, rfl⟩ := omap (show (recs rec c es).map E.lst = some x from h)
    have z := c_lst ok hr h1 (pos := p)
    exact ⟨z, pt_of ok z fun _ => rfl⟩
  | Dict ks vs p =>
    cases ks with
    | cons _ _ => cases h
    | nil =>
      cases vs with
      | cons _ _ => cases h
      | nil =>
        cases h
        have z := c_dct (W := W) (Γ := Γ) (X := X) (pos := p)
        exact ⟨z, pt_of ok z fun _ => rfl⟩
  | BinOp a op b p =>
    obtain ⟨y, h1, h⟩ := obind (show (rec c a).bind (fun x => (rec c b).map fun y => E.bin op x y) = some x from h)
    obtain ⟨z, h2, rfl⟩ := omap h
    have z := c_bin (op := op) (pos := p) ok (hr c X a y ok h1).1 (hr c X b z ok h2).1
    exact ⟨z, pt_of ok z fun _ => rfl⟩
  | UnaryOp op a p =>
    cases op with
    | USub =>
      obtain ⟨y, h1, rfl⟩ := omap (show (rec c a).map E.neg = some x from h)
      have z := c_neg (pos := p) (hr c X a y ok h1).1
      exact ⟨z, pt_of ok z fun _ => rfl⟩
    | Not =>
      obtain ⟨y, h1, rfl⟩ := omap (show (rec c a).map E.not = some x from h)
      exact c_not ok (hr c X a y ok h1).1 (hr c X a y ok h1).2
    | _ => cases h
  | BoolOp op es p =>
    obtain ⟨xs, h1, h2⟩ := obind (show (recs rec c es).bind (boolC op) = some x from h)
    obtain ⟨_, _, hp⟩ := recs_ok h1
    obtain ⟨z1, z2⟩ := c_bool ok hr op (pos := p) hp h2
    exact ⟨z1, z2.pt⟩
  | IfExp t a b p =>
    obtain ⟨x1, h1, h⟩ := obind (show (rec c t).bind (fun x => (rec c a).bind fun y => (rec c b).map fun z => E.ite x y z) = some x from h)
    obtain ⟨x2, h2, h⟩ := obind h
    obtain ⟨x3, h3, rfl⟩ := omap h
    exact ⟨c_ite ok (hr c X t x1 ok h1).2 (hr c X a x2 ok h2).1 (hr c X b x3 ok h3).1, t_ite (hr c X t x1 ok h1).2 (hr c X a x2 ok h2).2 (hr c X b x3 ok h3).2⟩
  | Compare a ops bs p =>
    have h : cCmp rec c a ops bs = some x := h
    unfold cCmp at h
    split at h
    · split at h
      · cases h
      · rename_i hm
        obtain ⟨x1, h1, h⟩ := obind h
        obtain ⟨x2, h2, rfl⟩ := omap h
        exact c_cmp ok (hr c X _ _ ok h1).1 (hr c X _ _ ok h2).1 (by simpa using hm)
    · split at h
      · cases h
      · rename_i hm
        obtain ⟨x1, h1, h⟩ := obind h
        obtain ⟨x2, h2, h⟩ := obind h
        obtain ⟨x3, h3, rfl⟩ := omap h
        exact c_chain ok (hr c X _ _ ok h1).1 (hr c X _ _ ok h2).1 (hr c X _ _ ok h3).1 (by simpa using hm)
    · cases h
  | Attribute o f p =>
    have h : (if isBare o then none else (rec c o).map fun x => E.attr x f) = some x := h
    split at h
    · cases h
    · rename_i hb
      obtain ⟨y, h1, rfl⟩ := omap h
      have z := c_attr (pos := p) (f := f) ok (hr c X o y ok h1).1 (by simpa using hb)
      exact ⟨z, pt_of ok z fun _ => rfl⟩
  | Subscript a i p =>
    have z : PE X (.Subscript a i p) (lE W (evE Γ x)) := by
      have h : cSub rec c a i = some x := h
      unfold cSub at h
      split at h
      · obtain ⟨x1, h1, h⟩ := obind h
        obtain ⟨x2, h2, h⟩ := obind h
        obtain ⟨x3, h3, rfl⟩ := omap h
        exact c_sl ok hr (hr c X _ _ ok h1).1 h2 h3
      · obtain ⟨x1, h1, rfl⟩ := omap h
        exact c_slr ok (hr c X _ _ ok h1).1
      · cases h
      · rename_i n1 n2 n3
        obtain ⟨x1, h1, h⟩ := obind h
        obtain ⟨x2, h2, rfl⟩ := omap h
        refine c_idx ok (hr c X _ _ ok h1).1 (hr c X _ _ ok h2).1 ?_
        cases i <;> first | rfl | exact (n3 _ _ _ _ rfl).elim
    exact ⟨z, pt_of ok z fun _ => rfl⟩
  | ListComp elt gens scope p =>
    have z := (c_comp (pos := p) ok hr (show cComp G rec c elt scope gens = some x from h)).1
    exact ⟨z, pt_of ok z fun _ => rfl⟩
  | Call fn args kws p =>
    have z : PE X (.Call fn args kws p) (lE W (evE Γ x)) := by
      cases fn with
      | Name f fp =>
        have h : (match cCall G rec c f args kws with
          | some x => some x
          | none => match (generalizing := false) kws with | [] => cBlt G rec c f args | _ => none) = some x := h
        cases e1 : cCall G rec c f args kws with
        | some y => rw [e1] at h; cases h; exact c_call ok hr e1
        | none =>
          rw [e1] at h
          dsimp only at h
          split at h
          · unfold cBlt at h
            split at h
            · rename_i hb
              cases e2 : cRng G rec c f args with
              | some y => rw [e2] at h; cases h; exact c_rng ok hr hb e2
              | none =>
                rw [e2] at h
                dsimp only at h
                split at h
                · cases h
                · rename_i hn
                  obtain ⟨as, h1, h⟩ := obind h
                  obtain ⟨b, h2, rfl⟩ := omap h
                  exact c_bf ok hr h1 hb h2 fun z => by subst z; exact hn rfl
            · cases h
          · cases h
      | Attribute o m apos =>
        have h : cMeth G rec c o m apos p args kws = some x := h
        unfold cMeth at h
        split at h
        · rename_i hc
          simp only [Bool.and_eq_true, Bool.not_eq_true', decide_eq_true_eq] at hc
          obtain ⟨⟨hl, hb⟩, hn⟩ := hc
          split at h
          · rename_i C hm
            obtain ⟨x1, h1, h⟩ := obind h
            obtain ⟨as, h2, h⟩ := obind h
            obtain ⟨q, h3, h⟩ := obind h
            split at h
            · rename_i hsig
              cases h
              exact c_um ok hr (hr c X o x1 ok h1).1 h2 h3 hsig hb hl hn
            · cases h
          · split at h
            · obtain ⟨x1, h1, h⟩ := obind h
              obtain ⟨as, h2, h⟩ := obind h
              obtain ⟨b, h3, rfl⟩ := omap h
              exact c_bm ok hr (hr c X o x1 ok h1).1 h2 h3 hb hl (by simpa using hn)
            · cases h
        · cases h
      | _ => cases h
    exact ⟨z, pt_of ok z fun _ => by cases fn <;> rfl⟩
  | _ => cases h
theorem convE_ok : ∀ n : Nat, RecOk W G Γ k (convE G n)
  | 0 => fun c X e x _ h => by cases h
  | n + 1 => fun c X e x ok h => cE_ok (convE_ok n) ok h
theorem convE_star : ∀ {n : Nat} {c : CC} {e : Expr} {x : E}, convE G n c e = some x → isStar e = false
  | 0, _, _, _, h => by cases h
  | n + 1, c, e, x, h => by cases e <;> first | rfl | (cases h; done)
end
end Mn
end -- Sd23
section -- Sd24
set_option linter.all false
set_option autoImplicit false
set_option maxRecDepth 100000
namespace Mn
open PySem L2
/-- what is wanted behind a statement's end -/
def KZ (W : Wo) (φ : List Addr) (H : Hp) (fl : Fl) (ρ' : Env) (M' : Mem) (D : Ends) : Prop := ∀ φ' H' σ', Ext W φ H φ' H' → RM W φ' M' H' → RE W φ' H' ρ' σ' →
  match fl with
  | .nx => D.nx σ' H'
  | .rt v => ∀ u, RV W φ' H' v u → D.rt u H'
  | .bk => D.bk σ' H'
  | .ct => D.ct σ' H'
def lZ (W : Wo) (f : Env → Mem → SR) : TS := fun D σ H => ∃ φ M ρ fl ρ' M', RM W φ M H ∧ RE W φ H ρ σ ∧ f ρ M = .ok fl ρ' M' ∧ KZ W φ H fl ρ' M' D
section
variable {W : Wo} {φ φ' : List Addr} {H H' : Hp} {D : Ends} {fl : Fl} {ρ' : Env} {M' : Mem}
theorem KZ.step (e : Ext W φ H φ' H') (q : KZ W φ H fl ρ' M' D) : KZ W φ' H' fl ρ' M' D := fun φ2 H2 σ2 x r re => q φ2 H2 σ2 (e.trans x) r re
theorem Res.st_ok {α : Type} {r : Res α} {f : α → Mem → SR} {fl : Fl} {ρ : Env} {M2 : Mem} (h : r.st f = .ok fl ρ M2) : ∃ a M1, r = .ok a M1 ∧ f a M1 = .ok fl ρ M2 := by
  cases r with
  | ok a M1 => exact ⟨a, M1, rfl, h⟩
  | exc C fs M => cases h
  | stuck => cases h
theorem SR.seq_ok {r : SR} {f : Env → Mem → SR} {fl : Fl} {ρ : Env} {M2 : Mem} (h : r.seq f = .ok fl ρ M2) : (∃ ρ1 M1, r = .ok .nx ρ1 M1 ∧ f ρ1 M1 = .ok fl ρ M2) ∨ (r = .ok fl ρ M2 ∧ ∀ q, fl = .nx → q) := by
  cases r with
  | ok g ρ1 M1 =>
    cases g with
    | nx => exact .inl ⟨ρ1, M1, rfl, h⟩
    | rt v => cases h; exact .inr ⟨rfl, fun q z => nomatch z⟩
    | bk => cases h; exact .inr ⟨rfl, fun q z => nomatch z⟩
    | ct => cases h; exact .inr ⟨rfl, fun q z => nomatch z⟩
  | exc C fs M => cases h
  | stuck => cases h
end
section
variable {W : Wo} {G : GT} {Γ : Gam} {k : Nat} {c : CC} {X : Cx}
theorem ps_weak {st : Stmt} {t t' : TS} (h : PS X st t) (w : ∀ D σ H, t' D σ H → t D σ H) : PS X st t' := ⟨fun pins s σ H D I q => h.run pins s σ H D I (w D σ H q)⟩
theorem pss_weak {st : List Stmt} {t t' : TS} (h : PSs X st t) (w : ∀ D σ H, t' D σ H → t D σ H) : PSs X st t' := ⟨fun pins s σ H D I q => h.run pins s σ H D I (w D σ H q)⟩
def RecS (W : Wo) (G : GT) (Γ : Gam) (k : Nat) (rec : CC → Stmt → Option S) : Prop := ∀ (c : CC) (X : Cx) (st : Stmt) (x : S), OkX W G Γ k c X → rec c st = some x → PS X st (lZ W (evS Γ x))
theorem pss_of (ok : OkX W G Γ k c X) {rec : CC → Stmt → Option S} (hr : RecS W G Γ k rec) {l : List Stmt} {xs : List S} (h : recSs rec c l = some xs) : PSs X l (lZ W (evSs Γ xs)) := by
  have hp := optAll_map (f := rec c) h
  clear h
  induction hp with
  | nil =>
    refine pss_weak pss_nil ?_
    rintro D σ H ⟨φ, M, ρ, fl, ρ', M', r, re, e, q⟩
    cases e
    exact q φ H σ .refl r re
  | @cons st x l xs h1 h2 ih =>
    refine pss_weak (pss_cons (hr c X st x ok h1) ih) ?_
    rintro D σ H ⟨φ, M, ρ, fl, ρ', M', r, re, e, q⟩
    have e : (evS Γ x ρ M).seq (fun ρ M => evSs Γ xs ρ M) = .ok fl ρ' M' := e
    rcases SR.seq_ok e with ⟨ρ1, M1, e1, e2⟩ | ⟨e1, hn⟩
    · exact ⟨φ, M, ρ, .nx, ρ1, M1, r, re, e1, fun φ1 H1 σ1 x1 r1 re1 => ⟨φ1, M1, ρ1, fl, ρ', M', r1, re1, e2, q.step x1⟩⟩
    · refine ⟨φ, M, ρ, fl, ρ', M', r, re, e1, fun φ1 H1 σ1 x1 r1 re1 => ?_⟩
      have z := q φ1 H1 σ1 x1 r1 re1
      cases fl with
      | nx => exact hn _ rfl
      | rt v => exact z
      | bk => exact z
      | ct => exact z
/-- a value, then what is done with it -/
theorem st_weak {g : Env → Mem → SR} {x : E} {h : Val → Env → Mem → SR} (hg : ∀ ρ M, g ρ M = (evE Γ x ρ M).st fun v M => h v ρ M) {T : TS}
    (hT : ∀ D σ H φ M ρ v M1 fl ρ' M', RM W φ M H → RE W φ H ρ σ → evE Γ x ρ M = .ok v M1 → h v ρ M1 = .ok fl ρ' M' → KZ W φ H fl ρ' M' D → T D σ H) : ∀ D σ H, lZ W g D σ H → T D σ H := by
  rintro D σ H ⟨φ, M, ρ, fl, ρ', M', r, re, e, q⟩
  rw [hg] at e
  obtain ⟨v, M1, e1, e2⟩ := Res.st_ok e
  exact hT D σ H φ M ρ v M1 fl ρ' M' r re e1 e2 q
theorem swaps_no {e : Expr} {tg : Option Expr} {l : Nat} {env : PySem.Env} (h : isComp e = false) : swapsWith e tg l env = pure false := by
  cases e <;> first | rfl | (cases h; done)
theorem swaps1 {e tg : Expr} {l : Nat} {env : PySem.Env} (h : isComp e = false) : swapsWithSole [tg] e l env = pure false := by
  show swapsWith e (some tg) l env = pure false
  exact swaps_no h
theorem locL_ok (ok : OkX W G Γ k c X) {x : Str} (h : locL c x = true) : X.env.scope.names.lookup x = some .local := by
  rw [ok.sc]
  unfold locL at h
  split at h
  · assumption
  · cases h
theorem nm_inv {x : Str} {p : Pos} {t : T} (ok : OkX W G Γ k c X) (h : tgC c 8 (.Name x p) = some t) : ∃ i, t = .nm i ∧ c.N[i]? = some x ∧ Loc X.env.scope x ∧ (X.fn x = true ∨ X.env.scope.names.lookup x = some .local) := by
  have h : (if locB c x then (slotOf c x).map T.nm else none) = some t := h
  split at h
  · rename_i hl
    obtain ⟨i, e, rfl⟩ := omap h
    obtain ⟨h1, h2⟩ := locB_loc ok hl
    exact ⟨i, rfl, (slotOf_at e).1, h1, h2⟩
  · cases h
/-- name = e -/
theorem asg_weak {x : E} {i : Nat} : ∀ D σ H, lZ W (evS Γ (.asg (.nm i) x)) D σ H → tAsg (lE W (evE Γ x)) (gName i) D σ H := by
  rintro D σ H ⟨φ, M, ρ, fl, ρ', M', r, re, e, q⟩
  obtain ⟨v, M1, e1, e2⟩ := Res.st_ok (show (evE Γ x ρ M).st (fun v M => match asgT M (.nm i) v ρ with | some ρ' => .ok .nx ρ' M | none => .stuck) = .ok fl ρ' M' from e)
  cases e3 : asgT M1 (.nm i) v ρ with
  | none => rw [e3] at e2; cases e2
  | some ρ1 =>
    rw [e3] at e2
    cases e2
    have e4 := gs_set e3
    subst e4
    exact ⟨φ, M, ρ, v, _, r, re, e1, fun φ1 H1 u x1 r1 ru => q φ1 H1 _ x1 r1 ((re.mono x1).set i ru)⟩
theorem sw_false {c : CC} {elt : Expr} {gs : List Comprehension} {scope : Scope} {pos py : Pos} {y : Str} {l : Nat} {env : PySem.Env} (hn : env.scope.names = c.sc.names) (h : swYes c y py pos scope = false) : swapsWith (.ListComp elt gs scope pos) (some (.Name y py)) l env = pure false := by
  show pure (env.blockKind == .function && env.scope.names.lookup y == some .local && py.line == pos.line && !(scope.names.any fun (n, k) => n == y && (k == .local || k == .cell))) = pure false
  have e : (env.scope.names.lookup y == some .local) = locL c y := by
    rw [hn]
    unfold locL
    split
    · rename_i e; rw [e]; rfl
    · rename_i e
      cases e2 : c.sc.names.lookup y with
      | none => rfl
      | some k => cases k <;> first | rfl | exact (e e2).elim
  rw [e]
  unfold swYes at h
  congr 1
  cases env.blockKind == .function
  · rfl
  · simpa [Bool.and_assoc] using h
theorem s_name (ok : OkX W G Γ k c X) {x : Str} {px pos : Pos} {e : Expr} {y : E} {t : T} (ht : tgC c 8 (.Name x px) = some t) (he : convE G 24 c e = some y) (hs : swOk x px e = true) : PS X (.Assign [.Name x px] e pos) (lZ W (evS Γ (.asg t y))) := by
  obtain ⟨i, rfl, hN, h1, h2⟩ := nm_inv ok ht
  by_cases hc : isComp e = true
  · cases e with
    | ListComp elt gens scope p =>
      by_cases hy : swYes c x px p scope = true
      · have hl : locL c x = true := by
          have hs : (locL c x && (px.line == p.line) && !(scope.names.any fun (n, k) => n == x && (k == .local || k == .cell))) = true := hy
          simp only [Bool.and_eq_true] at hs
          exact hs.1.1
        exact ps_weak ((c_comp (pos := p) ok (convE_ok 23) (show cComp G (convE G 23) c elt scope gens = some y from he)).2 hN hl hy) asg_weak
      · have hy : swYes c x px p scope = false := by simpa using hy
        exact ps_weak (ps_set ok.nd (by rw [ok.N]; exact hN) h1 (convE_ok 24 c X _ y ok he).1 (sw_false (c := c) (by rw [ok.sc]) hy) h2) asg_weak
    | DictComp _ _ _ _ _ => cases hs
    | SetComp _ _ _ _ => cases hs
    | _ => cases hc
  · refine ps_weak (ps_set ok.nd (by rw [ok.N]; exact hN) h1 (convE_ok 24 c X e y ok he).1 (swaps_no (by simpa using hc)) h2) asg_weak
/-- (a, b) = e -/
theorem s_tup (ok : OkX W G Γ k c X) {ts : List Expr} {j : Nat} {pt pos : Pos} {e : Expr} {y : E} {t : T} (ht : tgC c 8 (.Tuple ts j pt) = some t) (he : convE G 24 c e = some y) (hc : isComp e = false) (hp : swappedStores [.Tuple ts j pt] e X.env = pure none) : PS X (.Assign [.Tuple ts j pt] e pos) (lZ W (evS Γ (.asg t y))) := by
  refine ps_weak (ps_asg (convE_ok 24 c X e y ok he).1 (pg_ok ok ht) (swaps1 hc) hp rfl) ?_
  rintro D σ H ⟨φ, M, ρ, fl, ρ', M', r, re, ev, q⟩
  obtain ⟨v, M1, e1, e2⟩ := Res.st_ok (show (evE Γ y ρ M).st (fun v M => match asgT M t v ρ with | some ρ' => .ok .nx ρ' M | none => .stuck) = .ok fl ρ' M' from ev)
  cases e3 : asgT M1 t v ρ with
  | none => rw [e3] at e2; cases e2
  | some ρ1 =>
    rw [e3] at e2
    cases e2
    exact ⟨φ, M, ρ, v, _, r, re, e1, fun φ1 H1 u x1 r1 ru => ⟨φ1, _, v, ρ, _, r1, ru, re.mono x1, e3, fun σ' re' _ => q φ1 H1 σ' x1 r1 re'⟩⟩
/-! ### o[i] = e, o.f = e -/
def lSet (W : Wo) : TSet := fun o i v H Q => ∃ φ M a b w M', RM W φ M H ∧ RV W φ H a o ∧ RV W φ H b i ∧ RV W φ H w v ∧ storeI a b w M = some M' ∧ ∀ φ' H', Ext W φ H φ' H' → RM W φ' M' H' → Q H'
theorem set_ok (ok : OkX W G Γ k c X) : PSet X (lSet W) := by
  intro pins s σ H o i v ov iv u Q I ro ri rv h
  have hu := ok.units
  obtain ⟨φ, M, a, b, w, M', r, ra, rb, rw', e, q⟩ := h
  cases ra with
  | @ref n ad hn =>
    cases em : M[n]? with
    | none => simp [storeI, em] at e
    | some ob =>
      have mu := (r.obj n ob ad em hn)
      cases ob with
      | lst vs =>
        obtain ⟨xs, h1, h2⟩ := r.lst em hn
        cases rb with
        | int j =>
          simp only [storeI, em] at e
          cases e2 : ixOf j vs.length with
          | none => simp only [e2] at e; cases e
          | some m =>
            simp only [e2] at e
            cases e
            have ex : Ext W φ H φ (upd H ad (.lst (xs.set m v))) := Ext.upd (.inr ⟨mu.mut rfl, n, (r.own n _ em).mp rfl, hn⟩)
            exact set_list pins s σ H _ _ v ov iv u Q I ro ri rv ⟨ad, xs, j, m, rfl, rfl, h1, by rw [← h2.length]; exact e2, q φ _ ex (r.set em rfl hn rfl ⟨_, upd_same, (RVs.set m rw' h2).mono ex⟩)⟩
        | _ => simp [storeI, em] at e
      | rol vs => simp [storeI, em] at e
      | ins C fs => simp [storeI, em] at e
      | dct kvs =>
        have e : (if fits kvs b && decide (kvs.length < sizeLine) then some (M.set n (.dct (dput kvs b w))) else none) = some M' := by simpa [storeI, em] using e
        split at e
        · rename_i hc
          rw [Bool.and_eq_true, decide_eq_true_eq] at hc
          cases e
          cases ro
          refine dct_put ok.at_ (by omega) I mu hc.1 rb ri rw' rv hc.2 fun ho s' I' ro' => ⟨_, I', ?_⟩
          exact q φ _ (Ext.upd (.inr ⟨mu.mut rfl, n, (r.own n _ em).mp rfl, hn⟩)) (r.set em rfl hn rfl ro')
        · cases e
  | _ => cases e
theorem s_idx (ok : OkX W G Γ k c X) {o i e : Expr} {p pos : Pos} {x y z : E} (ho : convE G 24 c o = some x) (hi : convE G 24 c i = some y) (he : convE G 24 c e = some z) (hs : isSlice i = false) (hc : isComp e = false) : PS X (.Assign [.Subscript o i p] e pos) (lZ W (evS Γ (.setIdx x y z))) := by
  refine ps_weak (ps_asg (convE_ok 24 c X e z ok he).1 (pg_sub (convE_ok 24 c X o x ok ho).1 (convE_ok 24 c X i y ok hi).1 (set_ok ok) (fun v => by cases i <;> first | rfl | (cases hs; done))) (swaps1 hc) (by unfold swappedStores; rfl) rfl) ?_
  rintro D σ H ⟨φ, M, ρ, fl, ρ', M', r, re, ev, q⟩
  obtain ⟨v, M1, e1, e2⟩ := Res.st_ok (show (evE Γ z ρ M).st (fun v M => (evE Γ x ρ M).st fun x M => (evE Γ y ρ M).st fun y M => match storeI x y v M with | some M' => .ok .nx ρ M' | none => .stuck) = .ok fl ρ' M' from ev)
  obtain ⟨a, M2, e3, e4⟩ := Res.st_ok e2
  obtain ⟨b, M3, e5, e6⟩ := Res.st_ok e4
  cases e7 : storeI a b v M3 with
  | none => rw [e7] at e6; cases e6
  | some M4 =>
    rw [e7] at e6
    cases e6
    exact ⟨φ, M, ρ, v, M1, r, re, e1, fun φ1 H1 u1 x1 r1 ru1 => ⟨φ1, M1, ρ, a, M2, r1, re.mono x1, e3, fun φ2 H2 u2 x2 r2 ru2 => ⟨φ2, M2, ρ, b, M3, r2, re.mono (x1.trans x2), e5, fun φ3 H3 u3 x3 r3 ru3 =>
      ⟨φ3, M3, a, b, v, _, r3, ru2.mono x3, ru3, ru1.mono (x2.trans x3), e7, fun φ4 H4 x4 r4 => q φ4 H4 σ (x1.trans (x2.trans (x3.trans x4))) r4 (re.mono (x1.trans (x2.trans (x3.trans x4))))⟩⟩⟩⟩
theorem put_fd {φ : List Addr} {H : Hp} {fs : List (Str × Val)} {us : List (Str × V)} (r : RFs W φ H fs us) {f : Str} {v : Val} {u : V} (rv : RV W φ H v u) : RFs W φ H (putFd f v fs) (putF f u us) := by
  induction r with
  | nil => exact .cons ⟨rfl, rv⟩ .nil
  | @cons p q ps qs hh hs ih =>
    obtain ⟨p1, p2⟩ := p
    obtain ⟨q1, q2⟩ := q
    obtain ⟨h1, h2⟩ := hh
    dsimp only at h1 h2
    subst h1
    unfold putFd putF
    by_cases e : p1 = f
    · rw [if_pos e, if_pos e]; exact .cons ⟨rfl, rv⟩ hs
    · rw [if_neg e, if_neg e]; exact .cons ⟨rfl, h2⟩ ih
theorem rfs_len {φ : List Addr} {H : Hp} {fs : List (Str × Val)} {us : List (Str × V)} (r : RFs W φ H fs us) : us.length = fs.length := (Paired.length r).symm
theorem s_attr (ok : OkX W G Γ k c X) {o e : Expr} {f : Str} {p pos : Pos} {x z : E} (ho : convE G 24 c o = some x) (he : convE G 24 c e = some z) (hc : isComp e = false) : PS X (.Assign [.Attribute o f p] e pos) (lZ W (evS Γ (.setAttr x f z))) := by
  refine ps_weak (ps_fld (convE_ok 24 c X o x ok ho).1 (convE_ok 24 c X e z ok he).1 (swaps_no hc)) ?_
  rintro D σ H ⟨φ, M, ρ, fl, ρ', M', r, re, ev, q⟩
  obtain ⟨v, M1, e1, e2⟩ := Res.st_ok (show (evE Γ z ρ M).st (fun v M => (evE Γ x ρ M).st fun x M => match storeA Γ.fld x f v M with | some M' => .ok .nx ρ M' | none => .stuck) = .ok fl ρ' M' from ev)
  obtain ⟨a, M2, e3, e4⟩ := Res.st_ok e2
  cases e7 : storeA Γ.fld a f v M2 with
  | none => rw [e7] at e4; cases e4
  | some M4 =>
    rw [e7] at e4
    cases e4
    refine ⟨φ, M, ρ, v, M1, r, re, e1, fun φ1 H1 u1 x1 r1 ru1 => ⟨φ1, M1, ρ, a, M2, r1, re.mono x1, e3, fun φ2 H2 u2 x2 r2 ru2 => ?_⟩⟩
    cases ru2 with
    | @ref n ad hn =>
      cases em : M2[n]? with
      | none => simp [storeA, em] at e7
      | some ob =>
        cases ob with
        | ins C fs =>
          simp only [storeA, em] at e7
          split at e7
          · rename_i hcc
            rw [Bool.and_eq_true, decide_eq_true_eq] at hcc
            cases e7
            obtain ⟨Ca, dx, us, g1, g2, g3⟩ := r2.obj n _ ad em hn
            obtain ⟨Cb, f1, f2, f3⟩ := ok.facts.fld C f hcc.1
            have ec : Cb = Ca := by rw [g1] at f1; cases f1; rfl
            subst ec
            have mu : Mut (H2 ad) := by rw [g2]; trivial
            have ex : Ext W φ2 H2 φ2 (upd H2 ad (.ins Cb dx (putF f u1 us))) := Ext.upd (.inr ⟨mu, n, (r2.own n _ em).mp rfl, hn⟩)
            exact ⟨ad, Cb, dx, us, rfl, g2, by rw [ok.at_.K]; exact f2, by rw [ok.at_.K]; exact f3, by rw [rfs_len g3]; exact hcc.2,
              q φ2 _ σ (x1.trans (x2.trans ex)) (r2.set em rfl hn rfl ⟨Cb, dx, _, g1, upd_same, Paired.mono (put_fd g3 (ru1.mono x2)) fun p q z => ⟨z.1, z.2.mono ex⟩⟩) (re.mono (x1.trans (x2.trans ex)))⟩
          · cases e7
        | _ => simp [storeA, em] at e7
    | _ => cases e7
/-- name += e -/
theorem s_aug (ok : OkX W G Γ k c X) {x : Str} {px pos : Pos} {e : Expr} {i : Nat} {y : E} (ht : tgC c 8 (.Name x px) = some (.nm i)) (he : convE G 24 c e = some y) : PS X (.AugAssign (.Name x px) .Add e pos) (lZ W (evS Γ (.aug i y))) := by
  obtain ⟨j, ej, hN, h1, h2⟩ := nm_inv ok ht
  cases ej
  refine ps_weak (ps_aug ok.nd (by rw [ok.N]; exact hN) h1 (convE_ok 24 c X e y ok he).1 ip_add h2) ?_
  rintro D σ H ⟨φ, M, ρ, fl, ρ', M', r, re, ev, q⟩
  have ev : (match ρ[i]? with
    | some (some (.int a)) => (evE Γ y ρ M).st fun v M => match v with | .int b => .ok .nx (ρ.set i (some (.int (a + b)))) M | _ => .stuck
    | _ => .stuck) = SR.ok fl ρ' M' := ev
  split at ev
  · rename_i a ea
    obtain ⟨v, M1, e1, e2⟩ := Res.st_ok ev
    obtain ⟨u, g1, g2⟩ := re.get i _ ea
    cases g2
    refine ⟨_, g1, φ, M, ρ, v, M1, r, re, e1, fun φ1 H1 u1 x1 r1 ru1 => ?_⟩
    cases ru1 with
    | int b =>
      cases e2
      exact ⟨a, b, rfl, rfl, q φ1 H1 _ x1 r1 ((re.mono x1).set i (.int _))⟩
    | _ => cases e2
  · cases ev
theorem s_expr (ok : OkX W G Γ k c X) {pos : Pos} {e : Expr} {y : E} (he : convE G 24 c e = some y) (hc : isComp e = false) : PS X (.Expr e pos) (lZ W (evS Γ (.expr y))) := by
  refine ps_weak (ps_expr (convE_ok 24 c X e y ok he).1 (swaps_no hc)) ?_
  refine st_weak (g := evS Γ (.expr y)) (x := y) (h := fun _ ρ M => .ok .nx ρ M) (fun _ _ => rfl) ?_
  intro D σ H φ M ρ v M1 fl ρ' M' r re e1 e2 q
  cases e2
  exact ⟨φ, M, ρ, v, _, r, re, e1, fun φ1 H1 u x1 r1 ru => q φ1 H1 σ x1 r1 (re.mono x1)⟩
theorem s_ret (ok : OkX W G Γ k c X) {pos : Pos} {e : Expr} {y : E} (he : convE G 24 c e = some y) : PS X (.Return (some e) pos) (lZ W (evS Γ (.ret y))) := by
  refine ps_weak (ps_ret (convE_ok 24 c X e y ok he).1) ?_
  refine st_weak (g := evS Γ (.ret y)) (x := y) (h := fun v ρ M => .ok (.rt v) ρ M) (fun _ _ => rfl) ?_
  intro D σ H φ M ρ v M1 fl ρ' M' r re e1 e2 q
  cases e2
  exact ⟨φ, M, ρ, v, _, r, re, e1, fun φ1 H1 u x1 r1 ru => q φ1 H1 σ x1 r1 (re.mono x1) u ru⟩
theorem s_retN {pos : Pos} : PS X (.Return none pos) (lZ W (evS Γ (.ret .non))) := by
  refine ps_weak ps_retN ?_
  refine st_weak (Γ := Γ) (g := evS Γ (.ret .non)) (x := .non) (h := fun v ρ M => .ok (.rt v) ρ M) (fun _ _ => rfl) ?_
  intro D σ H φ M ρ v M1 fl ρ' M' r re e1 e2 q
  cases e1
  cases e2
  exact q φ H σ .refl r re .non .non
theorem s_if (ok : OkX W G Γ k c X) {rec : CC → Stmt → Option S} (hr : RecS W G Γ k rec) {pos : Pos} {t : Expr} {a b : List Stmt} {x : E} {as bs : List S} (ht : convE G 24 c t = some x) (ha : recSs rec c a = some as) (hb : recSs rec c b = some bs) : PS X (.If t a b pos) (lZ W (evS Γ (.ite x as bs))) := by
  refine ps_weak (ps_if (convE_ok 24 c X t x ok ht).2 (pss_of ok hr ha) (pss_of ok hr hb)) ?_
  rintro D σ H ⟨φ, M, ρ, fl, ρ', M', r, re, ev, q⟩
  obtain ⟨d, M1, e1, e2⟩ := Res.st_ok (show (evT Γ x ρ M).st (fun k M => if k then evSs Γ as ρ M else evSs Γ bs ρ M) = .ok fl ρ' M' from ev)
  refine ⟨φ, M, ρ, d, M1, r, re, e1, fun φ1 H1 x1 r1 => ?_⟩
  cases d with
  | true => exact ⟨φ1, M1, ρ, fl, ρ', M', r1, re.mono x1, e2, q.step x1⟩
  | false => exact ⟨φ1, M1, ρ, fl, ρ', M', r1, re.mono x1, e2, q.step x1⟩
theorem s_for (ok : OkX W G Γ k c X) {rec : CC → Stmt → Option S} (hr : RecS W G Γ k rec) {pos : Pos} {tg iter : Expr} {body : List Stmt} {t : T} {p : IK × List E} {bs : List S} (ht : tgC c 8 tg = some t) (hi : cIt G (convE G 24) c tg iter = some p) (hb : recSs rec c body = some bs) :
    PS X (.For tg iter body [] pos) (lZ W (evS Γ (.for p.1 p.2 t bs))) := by
  obtain ⟨pi, hs⟩ := pi_of ok (convE_ok 24) hi
  refine ps_weak (ps_for (by rw [ok.xe]; exact PassesOwn.never) ok.calm pi (pg_ok ok ht) (pss_of ok hr hb) hs) ?_
  rintro D σ H ⟨φ, M, ρ, fl, ρ', M', r, re, ev, q⟩
  obtain ⟨vs, M1, e1, e2⟩ := Res.st_ok (show (evEs Γ p.2 ρ M).st (fun vs M => match srcOf p.1 vs M with
    | none => .stuck
    | some src => match src.len M with
      | none => .stuck
      | some len => forL (fun ρ M => evSs Γ bs ρ M) src t len len ρ M) = .ok fl ρ' M' from ev)
  cases e3 : srcOf p.1 vs M1 with
  | none => rw [e3] at e2; cases e2
  | some src =>
    rw [e3] at e2
    dsimp only at e2
    cases e4 : src.len M1 with
    | none => rw [e4] at e2; cases e2
    | some len =>
      rw [e4] at e2
      dsimp only at e2
      refine ⟨φ, M, ρ, vs, M1, src, len, r, re, e1, e3, e4, fun φ1 H1 J x1 r1 wk => ?_⟩
      refine ⟨fun i m σc Hc => ∃ φ2 Mc ρc, m = len - i ∧ i ≤ len ∧ Ext W φ1 H1 φ2 Hc ∧ RM W φ2 Mc Hc ∧ RE W φ2 Hc ρc σc ∧ forL (fun ρ M => evSs Γ bs ρ M) src t len (len - i) ρc Mc = .ok fl ρ' M', ⟨len, φ1, M1, ρ, by omega, Nat.zero_le _, .refl, r1, re.mono x1, e2⟩, ?_⟩
      rintro i m σc Hc ⟨φ2, Mc, ρc, rfl, hi, x2, r2, re2, ec⟩
      by_cases hlt : i < len
      · obtain ⟨n, en⟩ : ∃ n, len - i = n + 1 := ⟨len - i - 1, by omega⟩
        rw [en] at ec
        have ei : len - (n + 1) = i := by omega
        have ec : (match src.at Mc len (len - (n + 1)) with
          | none => .stuck
          | some v => match asgT Mc t v ρc with
            | none => .stuck
            | some ρ' => match evSs Γ bs ρ' Mc with
              | .ok .nx ρ2 M2 => forL (fun ρ M => evSs Γ bs ρ M) src t len n ρ2 M2
              | .ok .ct ρ2 M2 => forL (fun ρ M => evSs Γ bs ρ M) src t len n ρ2 M2
              | .ok .bk ρ2 M2 => .ok .nx ρ2 M2
              | r => r) = SR.ok fl ρ' M' := ec
        rw [ei] at ec
        cases e7 : src.at Mc len i with
        | none => rw [e7] at ec; cases ec
        | some w =>
          rw [e7] at ec
          dsimp only at ec
          cases e8 : asgT Mc t w ρc with
          | none => rw [e8] at ec; cases ec
          | some ρ1 =>
            rw [e8] at ec
            dsimp only at ec
            obtain ⟨g1, g2⟩ := wk.go i φ2 Hc Mc w x2 r2 hlt e7
            have en2 : len - (i + 1) = n := by omega
            refine .inr ⟨g1, fun σ' H' => ∃ φ2 Mc ρc, i + 1 ≤ len ∧ Ext W φ1 H1 φ2 H' ∧ RM W φ2 Mc H' ∧ RE W φ2 H' ρc σ' ∧ forL (fun ρ M => evSs Γ bs ρ M) src t len (len - (i + 1)) ρc Mc = .ok fl ρ' M',
              fun σ' H' ⟨φ3, M3, ρ3, z⟩ => ⟨len - (i + 1), by omega, φ3, M3, ρ3, rfl, z⟩, fun y H2 hy => ?_⟩
            obtain ⟨x3, r3, rw3⟩ := g2 y H2 hy
            refine ⟨φ2, Mc, w, ρc, ρ1, r3, rw3, re2.mono x3, e8, fun σ' re' _ => ?_⟩
            cases e9 : evSs Γ bs ρ1 Mc with
            | exc C fs M => rw [e9] at ec; cases ec
            | stuck => rw [e9] at ec; cases ec
            | ok f2 ρ2 M2 =>
              rw [e9] at ec
              refine ⟨φ2, Mc, ρ1, f2, ρ2, M2, r3, re', e9, fun φ3 H3 σ3 x4 r4 re4 => ?_⟩
              cases f2 with
              | nx => exact ⟨φ3, M2, ρ2, by omega, x2.trans (x3.trans x4), r4, re4, by rw [en2]; exact ec⟩
              | ct => exact ⟨φ3, M2, ρ2, by omega, x2.trans (x3.trans x4), r4, re4, by rw [en2]; exact ec⟩
              | bk => cases ec; exact q φ3 H3 σ3 (x1.trans (x2.trans (x3.trans x4))) r4 re4
              | rt v => cases ec; exact q φ3 H3 σ3 (x1.trans (x2.trans (x3.trans x4))) r4 re4
      · have ei : i = len := by omega
        subst ei
        rw [Nat.sub_self] at ec
        have ec : (if src.len Mc = some i then SR.ok .nx ρc Mc else .stuck) = .ok fl ρ' M' := ec
        split at ec
        · rename_i hl
          cases ec
          exact .inl ⟨wk.stop φ2 Hc _ x2 r2 hl, q φ2 Hc σc (x1.trans x2) r2 re2⟩
        · cases ec
theorem s_while (ok : OkX W G Γ k c X) {rec : CC → Stmt → Option S} (hr : RecS W G Γ k rec) {pos : Pos} {t : Expr} {body : List Stmt} {x : E} {bs : List S} (ht : convE G 24 c t = some x) (hb : recSs rec c body = some bs) : PS X (.While t body [] pos) (lZ W (evS Γ (.while x bs))) := by
  refine ps_weak (ps_while (by rw [ok.xe]; exact PassesOwn.never) (convE_ok 24 c X t x ok ht).2 (pss_of ok hr hb)) ?_
  rintro D σ H ⟨φ, M, ρ, fl, ρ', M', r, re, ev, q⟩
  refine ⟨fun m σc Hc => ∃ φ2 Mc ρc, Ext W φ H φ2 Hc ∧ RM W φ2 Mc Hc ∧ RE W φ2 Hc ρc σc ∧ whileL (fun ρ M => evT Γ x ρ M) (fun ρ M => evSs Γ bs ρ M) m ρc Mc = .ok fl ρ' M', ⟨Γ.fuel, φ, M, ρ, .refl, r, re, ev⟩, ?_⟩
  rintro m σc Hc ⟨φ2, Mc, ρc, x2, r2, re2, ec⟩
  cases m with
  | zero => cases ec
  | succ n =>
    obtain ⟨d, M1, e1, e2⟩ := Res.st_ok (show (evT Γ x ρc Mc).st (fun b M => if b then
      (match evSs Γ bs ρc M with
        | .ok .nx ρ2 M2 => whileL (fun ρ M => evT Γ x ρ M) (fun ρ M => evSs Γ bs ρ M) n ρ2 M2
        | .ok .ct ρ2 M2 => whileL (fun ρ M => evT Γ x ρ M) (fun ρ M => evSs Γ bs ρ M) n ρ2 M2
        | .ok .bk ρ2 M2 => .ok .nx ρ2 M2
        | r => r) else .ok .nx ρc M) = .ok fl ρ' M' from ec)
    refine ⟨φ2, Mc, ρc, d, M1, r2, re2, e1, fun φ3 H3 x3 r3 => ?_⟩
    cases d with
    | false => cases e2; exact q φ3 H3 σc (x2.trans x3) r3 (re2.mono x3)
    | true =>
      simp only [if_true] at e2 ⊢
      refine ⟨fun σ' H' => ∃ φ2 Mc ρc, Ext W φ H φ2 H' ∧ RM W φ2 Mc H' ∧ RE W φ2 H' ρc σ' ∧ whileL (fun ρ M => evT Γ x ρ M) (fun ρ M => evSs Γ bs ρ M) n ρc Mc = .ok fl ρ' M', fun σ' H' ⟨φ3, M3, ρ3, z⟩ => ⟨n, Nat.lt_succ_self _, φ3, M3, ρ3, z⟩, ?_⟩
      cases e9 : evSs Γ bs ρc M1 with
      | exc C fs M => rw [e9] at e2; cases e2
      | stuck => rw [e9] at e2; cases e2
      | ok f2 ρ2 M2 =>
        rw [e9] at e2
        refine ⟨φ3, M1, ρc, f2, ρ2, M2, r3, re2.mono x3, e9, fun φ4 H4 σ4 x4 r4 re4 => ?_⟩
        cases f2 with
        | nx => exact ⟨φ4, M2, ρ2, x2.trans (x3.trans x4), r4, re4, e2⟩
        | ct => exact ⟨φ4, M2, ρ2, x2.trans (x3.trans x4), r4, re4, e2⟩
        | bk => cases e2; exact q φ4 H4 σ4 (x2.trans (x3.trans x4)) r4 re4
        | rt v => cases e2; exact q φ4 H4 σ4 (x2.trans (x3.trans x4)) r4 re4
end
end Mn
end -- Sd24
section -- Sd25
set_option linter.all false
set_option autoImplicit false
set_option maxRecDepth 100000
namespace Mn
open PySem L2
section
variable {W : Wo} {G : GT} {Γ : Gam} {k : Nat} {c : CC} {X : Cx}
theorem block_fn {env : PySem.Env} (h : env.scope.kind = .function) : env.blockKind = .function := by unfold Env.blockKind; rw [h]; rfl
theorem swap2 {x y : Str} {px py pt p2 : Pos} {a b : Expr} {j k2 : Nat} {env : PySem.Env} (hk : env.scope.kind = .function) (hx : env.scope.names.lookup x = some .local) (hy : env.scope.names.lookup y = some .local) (hl : (py.line == px.line) = true) (hn : x ≠ y)
    (hs : isStar a = false ∧ isStar b = false) (hf : ([a, b].all (foldedForSure 8)) = false) (hc : ([a, b].all (constantsAlone 8)) = false) : swappedStores [.Tuple [.Name x px, .Name y py] j pt] (.Tuple [a, b] k2 p2) env = pure (some [x, y]) := by
  have kx : env.kindOf x = some .local := hx
  have ky : env.kindOf y = some .local := hy
  have st : ∀ e : Expr, isStar e = false → (match e with | .Starred .. => true | _ => false) = false := fun e h => by cases e <;> first | rfl | (cases h; done)
  have he : ([x, y].eraseDups.length != [x, y].length) = false := by
    have : (y == x) = false := by simpa using (Ne.symm hn)
    simp [List.eraseDups_cons, this]
  unfold swappedStores
  simp only [block_fn hk, kx, ky, hl, hf, hc, List.any_cons, List.any_nil, List.filterMap_cons, List.filterMap_nil, st a hs.1, st b hs.2, List.head?_cons, Option.map_some, Option.getD_some, Expr.pos]
  simp [he]
  have nst : ∀ {e : Expr} {q : Prop}, isStar e = false → ((match e with | .Starred .. => true | _ => false) = true → q) := fun {e q} h z => by rw [st e h] at z; cases z
  rw [if_neg (by
    rintro (q | q)
    · cases a <;> first | (cases q; done) | (cases hs.1; done)
    · cases b <;> first | (cases q; done) | (cases hs.2; done)), if_pos (by simpa using he)]
theorem swap3 {x y z : Str} {px py pz pt p2 : Pos} {a b d : Expr} {j k2 : Nat} {env : PySem.Env} (hk : env.scope.kind = .function) (hx : env.scope.names.lookup x = some .local) (hy : env.scope.names.lookup y = some .local) (hz : env.scope.names.lookup z = some .local)
    (hl : (py.line == px.line) = true) (hl2 : (pz.line == px.line) = true) (hn : [x, y, z].Nodup)
    (hs : isStar a = false ∧ isStar b = false ∧ isStar d = false) (hf : ([a, b, d].all (foldedForSure 8)) = false) (hc : ([a, b, d].all (constantsAlone 8)) = false) : swappedStores [.Tuple [.Name x px, .Name y py, .Name z pz] j pt] (.Tuple [a, b, d] k2 p2) env = pure (some [x, y, z]) := by
  have kx : env.kindOf x = some .local := hx
  have ky : env.kindOf y = some .local := hy
  have kz : env.kindOf z = some .local := hz
  have st : ∀ e : Expr, isStar e = false → (match e with | .Starred .. => true | _ => false) = false := fun e h => by cases e <;> first | rfl | (cases h; done)
  simp only [List.nodup_cons, List.mem_cons, List.not_mem_nil, or_false, not_or] at hn
  have he : ([x, y, z].eraseDups.length != [x, y, z].length) = false := by
    have h1 : (y == x) = false := by simpa using (Ne.symm hn.1.1)
    have h2 : (z == x) = false := by simpa using (Ne.symm hn.1.2)
    have h3 : (z == y) = false := by simpa using (Ne.symm hn.2.1)
    simp [List.eraseDups_cons, h1, h2, h3]
  unfold swappedStores
  simp only [block_fn hk, kx, ky, kz, hl, hl2, hf, hc, List.any_cons, List.any_nil, List.filterMap_cons, List.filterMap_nil, st a hs.1, st b hs.2.1, st d hs.2.2, List.head?_cons, Option.map_some, Option.getD_some, Expr.pos]
  simp [he]
  rw [if_neg (by
    rintro (q | q | q)
    · cases a <;> first | (cases q; done) | (cases hs.1; done)
    · cases b <;> first | (cases q; done) | (cases hs.2.1; done)
    · cases d <;> first | (cases q; done) | (cases hs.2.2; done)), if_pos (by simpa using he)]
theorem plain_nm (ok : OkX W G Γ k c X) {x : Str} {p : Pos} {n : Nat} {t : T} (h : tgC c n (.Name x p) = some t) : ∃ i, t = .nm i ∧ c.N[i]? = some x := by
  have h : (if locB c x then (slotOf c x).map T.nm else none) = some t := by cases n <;> exact h
  split at h
  · obtain ⟨i, e, rfl⟩ := omap h
    exact ⟨i, rfl, (slotOf_at e).1⟩
  · cases h
theorem slot_ne {N : List Str} {x y : Str} {i j : Nat} (hx : N[i]? = some x) (hy : N[j]? = some y) (h : x ≠ y) : i ≠ j := fun z => by subst z; rw [hx] at hy; cases hy; exact h rfl
theorem plain_name {t : Expr} {l : Nat} (h : (match t with | .Name x p => locL c x && p.line == l | _ => false) = true) : ∃ x p, t = .Name x p ∧ locL c x = true ∧ (p.line == l) = true := by
  cases t with
  | Name x p => rw [Bool.and_eq_true] at h; exact ⟨x, p, rfl, h.1, h.2⟩
  | _ => cases h
theorem asgTs_nil {M : Mem} {vs : List Val} {ρ ρ' : Env} (h : asgTs M [] vs ρ = some ρ') : vs = [] ∧ ρ' = ρ := by
  cases vs with
  | nil => cases h; exact ⟨rfl, rfl⟩
  | cons _ _ => cases h
theorem asgTs_nm {M : Mem} {i : Nat} {ts : List T} {vs : List Val} {ρ ρ' : Env} (h : asgTs M (.nm i :: ts) vs ρ = some ρ') : ∃ v ws, vs = v :: ws ∧ asgTs M ts ws (ρ.set i (some v)) = some ρ' := by
  cases vs with
  | nil => cases h
  | cons v ws =>
    have h : (match asgT M (.nm i) v ρ with | some ρ' => asgTs M ts ws ρ' | none => none) = some ρ' := h
    cases e : asgT M (.nm i) v ρ with
    | none => rw [e] at h; cases h
    | some ρ1 =>
      rw [e] at h
      have e2 := gs_set e
      subst e2
      exact ⟨v, ws, rfl, h⟩
theorem fm_lt {α β : Type} {f : α → Option β} : ∀ {l : List α}, (∃ x ∈ l, f x = none) → (l.filterMap f).length < l.length
  | [], ⟨x, h, _⟩ => (List.not_mem_nil h).elim
  | a :: l, ⟨x, h, e⟩ => by
    have le := List.length_filterMap_le f l
    rw [List.filterMap_cons]
    cases e2 : f a with
    | none => exact Nat.lt_succ_of_le le
    | some b =>
      rcases List.mem_cons.mp h with rfl | h
      · rw [e] at e2; cases e2
      · exact Nat.succ_lt_succ (fm_lt ⟨x, h, e⟩)
theorem swap_none {c : CC} {ts vs : List Expr} {j k2 : Nat} {pt p2 : Pos} {env : PySem.Env} (hn : env.scope.names = c.sc.names) (h : parNo c ts vs = true) : swappedStores [.Tuple ts j pt] (.Tuple vs k2 p2) env = pure none := by
  have kl : ∀ x, (env.kindOf x == some .local) = locL c x := fun x => by
    show (env.scope.names.lookup x == some .local) = _
    rw [hn]
    unfold locL
    split
    · rename_i e; rw [e]; rfl
    · rename_i e
      cases e2 : c.sc.names.lookup x with
      | none => rfl
      | some k => cases k <;> first | rfl | exact (e e2).elim
  unfold swappedStores
  dsimp only
  by_cases h1 : (!(ts.length == 2 || ts.length == 3) || vs.length != ts.length || env.blockKind != .function) = true
  · rw [if_pos h1]
  rw [if_neg h1]
  split
  · rfl
  split
  · rfl
  rename_i h3
  split
  · rfl
  rename_i h4
  exfalso
  simp only [parNo, Bool.or_eq_true] at h
  simp only [Bool.or_eq_true, not_or] at h1 h3
  rcases h with ((h | h) | h) | h
  · exact h1.1.1 h
  · exact h1.1.2 h
  · exact h4 h
  · obtain ⟨t, ht, e⟩ := List.any_eq_true.mp h
    refine h3.1 (bne_iff_ne.mpr (Nat.ne_of_lt (fm_lt ⟨t, ht, ?_⟩)))
    cases t with
    | Name x p =>
      have e : (!(locL c x && p.line == lineOf ts)) = true := e
      rw [← kl x, Bool.not_eq_true'] at e
      show (if env.kindOf x == some .local && p.line == lineOf ts then some x else none) = none
      rw [e]; rfl
    | _ => rfl
theorem s_par (ok : OkX W G Γ k c X) {ts vs : List Expr} {j k2 : Nat} {pt p2 pos : Pos} {y : E} {t : T} (ht : tgC c 8 (.Tuple ts j pt) = some t) (he : convE G 24 c (.Tuple vs k2 p2) = some y) (hp : parOk c ts vs = true) : PS X (.Assign [.Tuple ts j pt] (.Tuple vs k2 p2) pos) (lZ W (evS Γ (.asg t y))) := by
  obtain ⟨tl, e1, rfl⟩ := omap (show (optAll (ts.map (tgC c 7))).map T.tp = some t from ht)
  have hts := optAll_map e1
  obtain ⟨xs, e2, rfl⟩ := omap (show (recs (convE G 23) c vs).map E.tup = some y from he)
  obtain ⟨_, hs, hvs⟩ := recs_ok e2
  have pa := pa_list ok (convE_ok (W := W) (Γ := Γ) (k := k) 23) hvs hs
  unfold parOk at hp
  simp only [Bool.and_eq_true, Bool.or_eq_true, Bool.not_eq_true', decide_eq_true_eq, beq_iff_eq] at hp
  obtain ⟨⟨⟨⟨⟨hl, hl2⟩, hpl⟩, hnd⟩, hf⟩, hc⟩ := hp
  have main : ∀ {D : Ends} {σ : L2.St} {H : Hp}, lZ W (evS Γ (.asg (.tp tl) (.tup xs))) D σ H → ∃ φ M ρ us M1 ρ1, RM W φ M H ∧ RE W φ H ρ σ ∧ evEs Γ xs ρ M = .ok us M1 ∧ asgTs M1 tl us ρ = some ρ1 ∧ KZ W φ H .nx ρ1 M1 D := fun {D σ H} hw => by
    obtain ⟨φ, M, ρ, fl, ρ', M', r, re, ev, q⟩ := hw
    obtain ⟨v, M1, g1, g2⟩ := Res.st_ok (show ((evEs Γ xs ρ M).bind fun vs M => Res.ok (Val.tup vs) M).st (fun v M => match asgT M (.tp tl) v ρ with | some ρ' => .ok .nx ρ' M | none => .stuck) = .ok fl ρ' M' from ev)
    obtain ⟨us, M2, g3, g4⟩ := Res.bind_ok g1
    cases g4
    cases g5 : asgTs M1 tl us ρ with
    | none =>
      have g2 : (match asgTs M1 tl us ρ with | some ρ' => SR.ok .nx ρ' M1 | none => .stuck) = .ok fl ρ' M' := g2
      rw [g5] at g2; cases g2
    | some ρ1 =>
      have g2 : (match asgTs M1 tl us ρ with | some ρ' => SR.ok .nx ρ' M1 | none => .stuck) = .ok fl ρ' M' := g2
      rw [g5] at g2
      cases g2
      exact ⟨φ, M, ρ, us, _, _, r, re, g3, g5, q⟩
  rcases hl with hl | hl
  · match ts, vs, hl, hl2, hpl, hnd, hts, hs, hf, hc, pa with
    | [t1, t2], [v1, v2], _, _, hpl, hnd, q0, hs, hf, hc, pa =>
      simp only [plainTs, List.all_cons, List.all_nil, Bool.and_true, Bool.and_eq_true] at hpl
      obtain ⟨x, px, rfl, lx, _⟩ := plain_name hpl.1
      obtain ⟨z, pz, rfl, lz, ll⟩ := plain_name hpl.2
      have hxz : x ≠ z := by
        intro e; subst e
        have : [x, x].Nodup := hnd
        simp at this
      simp only [List.any_cons, List.any_nil, Bool.or_false, Bool.or_eq_false_iff] at hs
      cases q0 with
      | cons a1 q1 =>
        cases q1 with
        | cons a2 q2 =>
          cases q2
          obtain ⟨i1, rfl, n1⟩ := plain_nm ok a1
          obtain ⟨i2, rfl, n2⟩ := plain_nm ok a2
          refine ⟨fun pins s σ H D I hw => (ps_par ok.calm ok.nd (by rw [ok.N]; exact n1) (by rw [ok.N]; exact n2) (slot_ne n1 n2 hxz) (locL_ok ok lx) (locL_ok ok lz) pa (swap2 I.ok.kind (locL_ok ok lx) (locL_ok ok lz) ll hxz hs hf hc) (swaps1 rfl)).run pins s σ H D I ?_⟩
          obtain ⟨φ, M, ρ, us, M1, ρ1, r, re, g1, g2, q⟩ := main hw
          obtain ⟨u1, us1, rfl, g3⟩ := asgTs_nm g2
          obtain ⟨u2, us2, rfl, g4⟩ := asgTs_nm g3
          obtain ⟨rfl, rfl⟩ := asgTs_nil g4
          refine ⟨φ, M, ρ, _, M1, r, re, g1, fun φ1 H1 ws x1 r1 rws => ?_⟩
          obtain ⟨w1, w2, rfl, rw1, rw2⟩ := RVs.two rws
          exact ⟨w1, w2, rfl, q φ1 H1 _ x1 r1 (((re.mono x1).set i1 rw1).set i2 rw2)⟩
  · match ts, vs, hl, hl2, hpl, hnd, hts, hs, hf, hc, pa with
    | [t1, t2, t3], [v1, v2, v3], _, _, hpl, hnd, q0, hs, hf, hc, pa =>
      simp only [plainTs, List.all_cons, List.all_nil, Bool.and_true, Bool.and_eq_true] at hpl
      obtain ⟨x, px, rfl, lx, _⟩ := plain_name hpl.1
      obtain ⟨z, pz, rfl, lz, ll⟩ := plain_name hpl.2.1
      obtain ⟨w, pw, rfl, lw, ll2⟩ := plain_name hpl.2.2
      have nd : [x, z, w].Nodup := hnd
      have nd2 := nd
      simp only [List.nodup_cons, List.mem_cons, List.not_mem_nil, or_false, not_or] at nd2
      simp only [List.any_cons, List.any_nil, Bool.or_false, Bool.or_eq_false_iff] at hs
      cases q0 with
      | cons a1 q1 =>
        cases q1 with
        | cons a2 q2 =>
          cases q2 with
          | cons a3 q3 =>
            cases q3
            obtain ⟨i1, rfl, n1⟩ := plain_nm ok a1
            obtain ⟨i2, rfl, n2⟩ := plain_nm ok a2
            obtain ⟨i3, rfl, n3⟩ := plain_nm ok a3
            refine ⟨fun pins s σ H D I hw => (ps_par3 ok.calm ok.nd (by rw [ok.N]; exact n1) (by rw [ok.N]; exact n2) (by rw [ok.N]; exact n3) (slot_ne n1 n2 nd2.1.1) (slot_ne n1 n3 nd2.1.2) (slot_ne n2 n3 nd2.2.1) (locL_ok ok lx) (locL_ok ok lz) (locL_ok ok lw) pa
              (swap3 I.ok.kind (locL_ok ok lx) (locL_ok ok lz) (locL_ok ok lw) ll ll2 nd hs hf hc) (swaps1 rfl)).run pins s σ H D I ?_⟩
            obtain ⟨φ, M, ρ, us, M1, ρ1, r, re, g1, g2, q⟩ := main hw
            obtain ⟨u1, us1, rfl, g3⟩ := asgTs_nm g2
            obtain ⟨u2, us2, rfl, g4⟩ := asgTs_nm g3
            obtain ⟨u3, us3, rfl, g5⟩ := asgTs_nm g4
            obtain ⟨rfl, rfl⟩ := asgTs_nil g5
            refine ⟨φ, M, ρ, _, M1, r, re, g1, fun φ1 H1 ws x1 r1 rws => ?_⟩
            cases rws with
            | cons rw1 rws =>
              obtain ⟨w2, w3, rfl, rw2, rw3⟩ := RVs.two rws
              exact ⟨_, w2, w3, rfl, q φ1 H1 _ x1 r1 ((((re.mono x1).set i1 rw1).set i2 rw2).set i3 rw3)⟩
/-! ### all statements -/
theorem cS_ok (ok : OkX W G Γ k c X) {rec : CC → Stmt → Option S} (hr : RecS W G Γ k rec) {st : Stmt} {x : S} (h : cS G (convE G 24) rec c st = some x) : PS X st (lZ W (evS Γ x)) := by
  unfold cS at h
  split at h
  · rename_i tg e pos
    unfold cAsg at h
    split at h
    · split at h
      · rename_i hs
        obtain ⟨t, h1, h⟩ := obind h
        obtain ⟨y, h2, rfl⟩ := omap h
        exact s_name ok h1 h2 hs
      · cases h
    · split at h
      · split at h
        · rename_i hp
          obtain ⟨t, h1, h⟩ := obind h
          obtain ⟨y, h2, rfl⟩ := omap h
          rw [Bool.or_eq_true] at hp
          rcases hp with hp | hp
          · exact s_par ok h1 h2 hp
          · exact s_tup ok h1 h2 rfl (swap_none (c := c) (by rw [ok.sc]) hp)
        · cases h
      · rename_i hn
        split at h
        · cases h
        · rename_i hc
          obtain ⟨t, h1, h⟩ := obind h
          obtain ⟨y, h2, rfl⟩ := omap h
          exact s_tup ok h1 h2 (by simpa using hc) (by unfold swappedStores; cases e <;> first | rfl | exact (hn _ _ _ rfl).elim)
    · split at h
      · cases h
      · rename_i hc
        simp only [Bool.or_eq_true, not_or, Bool.not_eq_true] at hc
        obtain ⟨y1, h1, h⟩ := obind h
        obtain ⟨y2, h2, h⟩ := obind h
        obtain ⟨y3, h3, rfl⟩ := omap h
        exact s_idx ok h1 h2 h3 hc.1 hc.2
    · split at h
      · cases h
      · rename_i hc
        obtain ⟨y1, h1, h⟩ := obind h
        obtain ⟨y3, h3, rfl⟩ := omap h
        exact s_attr ok h1 h3 (by simpa using hc)
    · cases h
  · obtain ⟨t, h1, h⟩ := obind h
    split at h
    · obtain ⟨y, h2, rfl⟩ := omap h
      exact s_aug ok h1 h2
    · cases h
  · split at h
    · cases h
    · rename_i hc
      obtain ⟨y, h2, rfl⟩ := omap h
      exact s_expr ok h2 (by simpa using hc)
  · obtain ⟨y, h2, rfl⟩ := omap h
    exact s_ret ok h2
  · cases h
    exact s_retN
  · obtain ⟨y1, h1, h⟩ := obind h
    obtain ⟨y2, h2, h⟩ := obind h
    obtain ⟨y3, h3, rfl⟩ := omap h
    exact s_if ok hr h1 h2 h3
  · obtain ⟨y1, h1, h⟩ := obind h
    obtain ⟨y2, h2, h⟩ := obind h
    obtain ⟨y3, h3, rfl⟩ := omap h
    exact s_for ok hr h1 h2 h3
  · obtain ⟨y1, h1, h⟩ := obind h
    obtain ⟨y3, h3, rfl⟩ := omap h
    exact s_while ok hr h1 h3
  · cases h
    refine ps_weak ps_break ?_
    rintro D σ H ⟨φ, M, ρ, fl, ρ', M', r, re, e, q⟩
    cases e
    exact q φ H σ .refl r re
  · cases h
    refine ps_weak ps_continue ?_
    rintro D σ H ⟨φ, M, ρ, fl, ρ', M', r, re, e, q⟩
    cases e
    exact q φ H σ .refl r re
  · cases h
    refine ps_weak ps_pass ?_
    rintro D σ H ⟨φ, M, ρ, fl, ρ', M', r, re, e, q⟩
    cases e
    exact q φ H σ .refl r re
  · cases h
theorem convS_ok : ∀ n : Nat, RecS W G Γ k (convS G n)
  | 0 => fun c X st x _ h => by cases h
  | n + 1 => fun c X st x ok h => cS_ok ok (convS_ok n) h
theorem convB_ok (ok : OkX W G Γ k c X) {body : List Stmt} {xs : List S} (h : convB G c body = some xs) : PSs X body (lZ W (evSs Γ xs)) := by
  unfold convB dropDoc at h
  split at h
  · refine pss_weak (pss_cons ps_doc (pss_of ok (convS_ok 16) h)) ?_
    rintro D σ H hw
    exact hw
  · exact pss_of ok (convS_ok 16) h
end
end Mn
end -- Sd25
section -- Sd26
set_option linter.all false
set_option autoImplicit false
set_option maxRecDepth 100000
namespace Mn
open PySem L2
/-- no exception leaves -/
def noX : CXT := fun _ _ _ _ _ _ => False
def noE : XK := fun _ _ _ => False
/-- the function at fa does what run tells, its arguments bound to ps -/
def FnG (W : Wo) (k : Nat) (fa : Addr) (F : FuncData) (ps : List Str) (run : List Val → Mem → Res Val) : Prop :=
  ∀ (base : Heap) (A : Around) (outer : List PySem.Env) (s : Shared) (H : Hp) (args : Args) (us : List Value) (xs : List V) (φ : List Addr) (M : Mem) (vs : List Val) (v : Val) (M' : Mem) (Q : VK),
    Room k A → A.guards = some [] → Env0 W.prog W.w W.K W.mg base A outer s H → BindsTo s F args (ps.zip us) → us.length = ps.length → Vals xs us → RM W φ M H → RVs W φ H vs xs → run vs M = .ok v M' → Kont W φ H v M' Q →
    codeAny (model W.prog W.w) A (.call (.ref fa) args) (CR noX outer W.prog W.w H s Q noE) s
/-- the def fd stands at fa -/
structure DefOk (W : Wo) (G : GT) (fd : FD) (fa : Addr) (F : FuncData) : Prop where
  ex : ∃ (name qual : Str) (params : Arguments) (body : List Stmt) (scope : Scope) (dV kV doc pm : Value) (an : Option Addr) (cdv ct oc : Value) (od : Option Addr) (osl : Array (Option Value)) (N : List Str),
    F = PySem.W.fnOf name qual params body scope dV kV doc pm an cdv ct ∧ W.K.lookup fa = some ⟨oc, od, .func (PySem.W.fnOf name qual params body scope dV kV doc pm an cdv ct), osl⟩ ∧ PySem.W.codeIn W.K cdv qual = true ∧ FnScope N fd.ps scope ∧
    convB G ⟨scope, N, fun _ => true⟩ body = some fd.body ∧ fd.n = N.length
section
variable {W : Wo} {G : GT} {Γ : Gam} {k : Nat}
theorem re_start {φ : List Addr} {H : Hp} {n : Nat} {vs : List Val} {xs : List V} {N : List Str} (r : RVs W φ H vs xs) (hn : n = N.length) : RE W φ H (startE n vs) (L2.start N xs) := by
  subst hn
  have hl := r.length
  refine ⟨by simp [startE, L2.start, hl], fun i v h => ?_⟩
  unfold startE at h
  unfold L2.start
  by_cases hi : i < vs.length
  · rw [List.getElem?_append_left (by simpa using hi), List.getElem?_map] at h
    rw [List.getElem?_append_left (by simp; omega), List.getElem?_map]
    cases e : vs[i]? with
    | none => rw [e] at h; cases h
    | some w =>
      rw [e] at h
      cases h
      obtain ⟨u, h1, h2⟩ := r.get e
      exact ⟨u, by rw [h1]; rfl, h2⟩
  · rw [List.getElem?_append_right (by simpa using hi), List.getElem?_replicate] at h
    split at h <;> cases h
theorem ret_ok {r : SR} {v : Val} {M' : Mem} (h : retOf r = .ok v M') : (∃ ρ, r = .ok .nx ρ M' ∧ v = .non) ∨ ∃ ρ, r = .ok (.rt v) ρ M' := by
  cases r with
  | ok f ρ M =>
    cases f with
    | nx => cases h; exact .inl ⟨ρ, rfl, rfl⟩
    | rt w => cases h; exact .inr ⟨ρ, rfl⟩
    | _ => cases h
  | _ => cases h
theorem fn_body {fd : FD} {fa : Addr} {F : FuncData} (d : DefOk W G fd fa F) (facts : Facts W G Γ k) : FnG W (k + 1) fa F fd.ps (runB Γ fd) := by
  obtain ⟨name, qual, params, body, scope, dV, kV, doc, pm, an, cdv, ct, oc, od, osl, N, rfl, lk, hcd, S, conv, hn⟩ := d.ex
  intro base A outer s H args us xs φ M vs v M' Q room grd env0 bind len vals rm rvs run kont
  have inK : W.K.In s.heap := env0.mod.kin.keeps fun b o e => (env0.bs b o e).1
  have noL : s.heap.NoLimit := env0.mod.nolimit.keeps fun b o e => (env0.bs b o e).1
  have kinds : ∀ y ∈ fd.ps.zip us, scope.names.lookup y.1 = some .local ∨ (scope.names.lookup y.1 = some .cell ∧ ((cellsFrom (s.heap.objs.size + 1) scope.names []).lookup y.1).isSome = true) := by
    rintro ⟨n, z⟩ hy
    exact (S.par n (List.of_mem_zip hy).1).imp (fun q => q) fun q => ⟨q, PySem.W.cellsFrom_some _ _ _ (.inl q)⟩
  refine codeAny_call_function room.depth (inK _ _ lk) rfl S.co S.gen rfl (PySem.W.codeRec_of inK hcd) (bind _ _ _ _ (wpAny_newFunctionEnv_cells S.kind kinds fun env he s1 x => ?_))
  subst he
  refine ⟨noL.keeps x.toInCall.keep, codeAny_func ?_⟩
  have lx : xs.length = fd.ps.length := by rw [vals.length]; exact len
  have I := inv_start (CX := noX) (E := noE) (N := N) S room.hd env0 lx vals x
  have ok : OkX W G Γ k ⟨scope, N, fun _ => true⟩ (cxOf noX W.prog W.w W.K W.mg base N qual scope fa cdv A outer s H noE).nox :=
    ⟨facts, ⟨rfl, rfl, rfl, rfl⟩, rfl, rfl, S.nd, rfl, rfl, room.deeper _, grd, rfl⟩
  have pss := (convB_ok ok conv).nox
  have fin : ∀ {σ' : L2.St} {H' : Hp} {s' : Shared} {z : V} {u : Value}, Inv (cxOf noX W.prog W.w W.K W.mg base N qual scope fa cdv A outer s H noE) [] σ' H' s' → RelV z u → Q z H' → CR noX outer W.prog W.w H s Q noE (.ok (.ret u)) s' :=
    fun J rz q => ⟨_, _, J.os, J.bare, J.base, J.hok, rz, q⟩
  refine wpAny_mono (pss.run [] s1 (L2.start N xs) H { nx := fun _ H' => Q .non H', rt := Q } I ?_) (fun fl s' hs => ?_) fun e s' hs => hs
  · have rs := re_start (N := N) rvs hn
    rcases ret_ok run with ⟨ρ, e, rfl⟩ | ⟨ρ, e⟩
    · exact ⟨φ, M, _, .nx, ρ, M', rm, rs, e, fun φ' H' σ' ex r' _ => kont φ' H' .non ex r' .non⟩
    · exact ⟨φ, M, _, .rt v, ρ, M', rm, rs, e, fun φ' H' σ' ex r' _ u ru => kont φ' H' u ex r' ru⟩
  · cases fl with
    | ret u => obtain ⟨z, σ', H', J, rz, q⟩ := hs; exact fin J rz q
    | next => obtain ⟨σ', H', J, q⟩ := hs; exact fin (z := .non) J rfl q
    | brk => obtain ⟨_, _, _, q⟩ := hs; exact q.elim
    | cont => obtain ⟨_, _, _, q⟩ := hs; exact q.elim
/-- how a call binds: n values by place, the keywords ks -/
def BindOk (W : Wo) (fd : FD) (F : FuncData) (n : Nat) (ks : List Str) : Prop :=
  ∀ (s : Shared) (us zs : List Value), W.K.In s.heap → us.length = n → zs.length = ks.length → ∃ ws : List Value, BindsTo s F ⟨us, ks.zip zs⟩ (fd.ps.zip ws) ∧ ws.length = fd.ps.length ∧
    ∀ (φ : List Addr) (H : Hp) (vs us' : List Val) (kvs : List Val) (xs ys : List V), RVs W φ H vs xs → RVs W φ H kvs ys → Vals xs us → Vals ys zs → bindA fd fd.ps vs (ks.zip kvs) = some us' → ∃ as, RVs W φ H us' as ∧ Vals as ws
theorem bindA_all {fd : FD} : ∀ {ps : List Str} {vs us : List Val}, vs.length = ps.length → bindA fd ps vs [] = some us → us = vs
  | [], [], us, _, h => by cases h; rfl
  | [], _ :: _, _, hl, _ => by simp at hl
  | _ :: _, [], _, hl, _ => by simp at hl
  | p :: ps, v :: vs, us, hl, h => by
    obtain ⟨r, e, rfl⟩ := omap (show (bindA fd ps vs []).map (v :: ·) = some us from h)
    rw [bindA_all (by simpa using hl) e]
/-- every parameter is given by place -/
theorem bind_all {fd : FD} {F : FuncData} (h : ∀ us : List Value, us.length = fd.ps.length → bindArgs F ⟨us, []⟩ = pure (fd.ps.zip us)) : BindOk W fd F fd.ps.length [] := by
  intro s us zs _ hl hz
  have ez : zs = [] := List.eq_nil_of_length_eq_zero hz
  subst ez
  refine ⟨us, .of_eq (h us hl), hl, fun φ H vs us' kvs xs ys r1 r2 v1 v2 hb => ?_⟩
  cases v2
  cases r2
  have e := bindA_all (by rw [r1.length, v1.length, hl]) hb
  subst e
  exact ⟨xs, r1, v1⟩
theorem call_fn {P : Prg} {f : Str} {fd : FD} {fa : Addr} {F : FuncData} {n : Nat} {ks : List Str} (hf : P.fns.lookup f = some fd) (hb : BindOk W fd F n ks) (hG : FnG W k fa F fd.ps (runB Γ fd)) : CallOk W k (.ref fa) n ks (stepC P Γ f) := by
  intro X at_ room grd pins σ s H φ M vs ws xs ys us zs v M' Q I rm hl hl2 rvs rws vx vy e kont
  have KI : W.K.In s.heap := by have := I.kIn; rwa [at_.K] at this
  obtain ⟨as, b1, b2, b3⟩ := hb s us zs KI (by rw [← vx.length, ← rvs.length, hl]) (by rw [← vy.length, ← rws.length, hl2])
  unfold stepC at e
  rw [hf] at e
  dsimp only at e
  cases e2 : bindA fd fd.ps vs (ks.zip ws) with
  | none => rw [e2] at e; cases e
  | some us' =>
    rw [e2] at e
    obtain ⟨zz, r1, r2⟩ := b3 φ H vs us' ws xs ys rvs rws vx vy e2
    have E0 := I.env0
    rw [at_.prog, at_.w, at_.K, at_.mg] at E0
    have go := hG X.base X.A X.stack s H ⟨us, ks.zip zs⟩ as zz φ M us' v M' Q room grd E0 b1 b2 r2 rm r1 e kont
    rw [← at_.prog, ← at_.w] at go
    refine wpAny_call (codeAny_mono go fun r s' hq => ?_)
    cases r with
    | error e => exact hq.elim
    | ok fl =>
      cases fl with
      | ret u => exact I.after hq
      | next => exact hq.elim
      | brk => exact hq.elim
      | cont => exact hq.elim
/-- what a class must have to be made -/
theorem call_mk {P : Prg} {C : Str} {fd : FD} {Ca fa : Addr} {F : FuncData} {n : Nat} {ks : List Str} (hc : (P.cls.lookup C).isSome = true) (hC : W.mg C = some (.ref Ca)) (mk : Mk W.K Ca fa) (hf : P.fns.lookup (C ++ Str.ofString ".__init__") = some fd) (hb : BindOk W fd F (n + 1) ks) (hG : FnG W k fa F fd.ps (runB Γ fd)) {Γ' : Gam}
    (hΓ : ∀ vs kw M, Γ'.make C vs kw M = (stepC P Γ (C ++ Str.ofString ".__init__") (.ref M.length :: vs) kw (M ++ [.ins C []])).bind fun v M' => match v with | .non => .ok (.ref M.length) M' | _ => .stuck) : CallOk W (k + 1) (.ref Ca) n ks fun vs kw M => Γ'.make C vs kw M := by
  intro X at_ room grd pins σ s H φ M vs ws xs ys us zs v M' Q I rm hl hl2 rvs rws vx vy e kont
  have e : Γ'.make C vs (ks.zip ws) M = .ok v M' := e
  rw [hΓ] at e
  obtain ⟨w, M1, e1, e2⟩ := Res.bind_ok e
  cases w with
  | non =>
    cases e2
    have I2 := Inv.made (C := Ca) I
    have hx := I.hok.fresh (Nat.le_succ s.heap.objs.size)
    have hd := I.hok.fresh (Nat.le_refl s.heap.objs.size)
    have ne : s.heap.objs.size ≠ s.heap.objs.size + 1 := Nat.ne_of_lt (Nat.lt_succ_self _)
    have x1 : Ext W φ H φ (upd H s.heap.objs.size (.own (s.heap.objs.size + 1))) := Ext.upd (.inl hd)
    have r1 := rm.aside (u := .own (s.heap.objs.size + 1)) (.inl hd) (rm.out hd)
    have hx1 : (upd H s.heap.objs.size (.own (s.heap.objs.size + 1))) (s.heap.objs.size + 1) = none := by rw [upd_ne (Ne.symm ne)]; exact hx
    have r2 := r1.new (o := .ins C []) (u := .ins Ca s.heap.objs.size []) hx1 rfl ⟨Ca, s.heap.objs.size, [], hC, upd_same, .nil⟩
    have x2 := x1.trans (Ext.new (o := .ins Ca s.heap.objs.size []) hx1)
    have KI : W.K.In (((s.heap.push PySem.W.emptyDict).push (PySem.W.instObj Ca s.heap.objs.size))) := by have := I2.kIn; rwa [at_.K] at this
    have lus : us.length = n := by rw [← vx.length, ← rvs.length, hl]
    obtain ⟨as, b1, b2, b3⟩ := hb { s with heap := (s.heap.push PySem.W.emptyDict).push (PySem.W.instObj Ca s.heap.objs.size) } (Value.ref (s.heap.objs.size + 1) :: us) zs KI (by simp [lus]) (by rw [← vy.length, ← rws.length, hl2])
    unfold stepC at e1
    rw [hf] at e1
    dsimp only at e1
    cases e3 : bindA fd fd.ps (.ref M.length :: vs) (ks.zip ws) with
    | none => rw [e3] at e1; cases e1
    | some us' =>
      rw [e3] at e1
      have self : RV W (φ ++ [s.heap.objs.size + 1]) (upd (upd H s.heap.objs.size (.own (s.heap.objs.size + 1))) (s.heap.objs.size + 1) (.ins Ca s.heap.objs.size [])) (.ref M.length) (.ref (s.heap.objs.size + 1)) :=
        .ref (by rw [← rm.len, List.getElem?_append_right (Nat.le_refl _)]; simp)
      obtain ⟨zz, q1, q2⟩ := b3 _ _ (.ref M.length :: vs) us' ws (.ref (s.heap.objs.size + 1) :: xs) ys (.cons self (rvs.mono x2)) (rws.mono x2) (.cons rfl vx) vy e3
      have E0 := I2.env0.make Ca us (ks.zip zs)
      rw [at_.prog, at_.w, at_.K, at_.mg] at E0
      have gd : (X.A.under (.builtin "type.__call__" ⟨.ref Ca :: us, ks.zip zs⟩)).guards = some [] := by rw [← grd]; rfl
      have go := hG X.base _ X.stack _ _ ⟨Value.ref (s.heap.objs.size + 1) :: us, ks.zip zs⟩ as zz _ _ us' .non _ (fun v H2 => v = .non ∧ Q (.ref (s.heap.objs.size + 1)) H2) (room.make Ca us (ks.zip zs)) gd E0 b1 b2 q2 r2 q1 e1 (fun φ' H' u ex r' ru => by
        cases ru
        exact ⟨rfl, kont φ' H' _ (x2.trans ex) r' (self.mono ex)⟩)
      rw [← at_.prog, ← at_.w] at go
      have mk' : Mk X.K Ca fa := by rw [at_.K]; exact mk
      refine wpAny_call (make_map (f := fa) I.kIn mk'.makes mk'.init (beq_iff_eq.mp mk'.fn) (codeAny_mono go fun r s' hq => ?_))
      cases r with
      | error e => exact hq.elim
      | ok fl =>
        cases fl with
        | ret u =>
          obtain ⟨z, H', I3, rz, ez, q3⟩ := I2.after hq
          subst ez
          exact ⟨rz, ⟨V.ref (s.heap.objs.size + 1), H', I3, rfl, q3⟩⟩
        | next => exact hq.elim
        | brk => exact hq.elim
        | cont => exact hq.elim
  | _ => cases e2
end
end Mn
end -- Sd26
section -- Sd27
set_option linter.all false
set_option autoImplicit false
set_option maxRecDepth 100000
namespace Mn
open PySem PySem.Spec PyProof.Rows L2
/-- what the module's top has made -/
structure Top (W : Wo) (G : GT) (P : Prg) : Prop where
  blt : ∀ x, G.blt.contains x = true → W.mg x = none
  glb : ∀ x v, P.glb.lookup x = some v → ∃ u uv, W.mg x = some uv ∧ RelV u uv ∧ ∀ φ H, RV W φ H v u
  fld : ∀ C f, fldIn P C f = true → ∃ Ca, W.mg C = some (.ref Ca) ∧ Cls W.K Ca ∧ NoAttr W.K Ca f
  fn : ∀ e ∈ G.fsg, ∃ fd fa F, P.fns.lookup e.1 = some fd ∧ DefOk W G fd fa F ∧ BindOk W fd F e.2.1 e.2.2 ∧ W.mg e.1 = some (.ref fa) ∧ PySem.W.keepIn W.K (.ref fa) = true
  cl : ∀ e ∈ G.csg, ∃ fd Ca fa F, (P.cls.lookup e.1).isSome = true ∧ W.mg e.1 = some (.ref Ca) ∧ Mk W.K Ca fa ∧ P.fns.lookup (e.1 ++ Str.ofString ".__init__") = some fd ∧ DefOk W G fd fa F ∧ BindOk W fd F (e.2.1 + 1) e.2.2
  mt : ∀ e ∈ G.msg, ∃ fd Ca fa F, W.mg e.1 = some (.ref Ca) ∧ Cls W.K Ca ∧ Meth W.K Ca e.2.1 fa ∧ P.fns.lookup (e.1 ++ Str.ofString "." ++ e.2.1) = some fd ∧ DefOk W G fd fa F ∧ BindOk W fd F (e.2.2.1 + 1) e.2.2.2
section
variable {W : Wo} {G : GT} {P : Prg}
theorem call_none {k : Nat} {f : Value} {n : Nat} {ks : List Str} {g : List Val → List (Str × Val) → Mem → Res Val} (h : ∀ vs kw M, g vs kw M = .stuck) : CallOk W k f n ks g := by
  intro X at_ room grd pins σ s H φ M vs ws xs ys us zs v M' Q I rm hl hl2 rvs rws vx vy e kont
  rw [h] at e
  cases e
theorem facts_all (T : Top W G P) : ∀ k, Facts W G (gam P k) k := by
  -- at each level, from the levels below
  have step : ∀ k, (∀ j, j < k → Facts W G (gam P j) j) → Facts W G (gam P k) k := fun k below => by
    refine ⟨T.blt, T.glb, T.fld, fun f n ks h => ?_, fun C n ks h => ?_, fun C m n ks h => ?_⟩
    · obtain ⟨fd, fa, F, g1, g2, g3, g4, g5⟩ := T.fn (f, n, ks) (List.contains_iff_mem.mp h)
      refine ⟨fa, g4, g5, ?_⟩
      cases k with
      | zero => exact call_none fun _ _ _ => rfl
      | succ j => exact call_fn g1 g3 (fn_body g2 (below j (Nat.lt_succ_self j)))
    · obtain ⟨fd, Ca, fa, F, g0, g1, g2, g3, g4, g5⟩ := T.cl (C, n, ks) (List.contains_iff_mem.mp h)
      refine ⟨Ca, g1, g2.kp, ?_⟩
      have stuck : ∀ {j : Nat}, (callP P j).2 = (fun _ _ _ _ => .stuck) → ∀ vs kw M, (gam P j).make C vs kw M = .stuck := fun {j} e vs kw M => by
        show (if (P.cls.lookup C).isSome then ((callP P j).2 _ _ _ _).bind _ else Res.stuck) = .stuck
        rw [e]
        split <;> rfl
      cases k with
      | zero => exact call_none (stuck rfl)
      | succ j =>
        cases j with
        | zero => exact call_none (stuck rfl)
        | succ i =>
          refine call_mk (P := P) (Γ := gam P i) g0 g1 g2 g3 g5 (fn_body g4 (below i (by omega))) fun vs kw M => ?_
          show (if (P.cls.lookup C).isSome then _ else Res.stuck) = _
          rw [if_pos g0]
          rfl
    · obtain ⟨fd, Ca, fa, F, g1, g2, g3, g4, g5, g6⟩ := T.mt (C, m, n, ks) (List.contains_iff_mem.mp h)
      refine ⟨Ca, fa, g1, g2, g3, ?_⟩
      cases k with
      | zero => exact call_none fun _ _ _ => rfl
      | succ j => exact call_fn g4 g6 (fn_body g5 (below j (Nat.lt_succ_self j)))
  intro k
  induction k using Nat.strongRecOn with
  | _ k ih => exact step k ih
/-! ### the law's call -/
theorem law_run {fd : FD} {fa a : Addr} {F : FuncData} {mb : Str → Option Value} {k : Nat} {s : Shared} {vs : List Value} {ns : List Int} (T : Top W G P) (d : DefOk W G fd fa F) (hb1 : ∀ (s : Shared) (u : Value), BindsTo s F ⟨[u], []⟩ (fd.ps.zip [u])) (hps : fd.ps.length = 1)
    (KX : W.K.In s.heap) (h1 : s.heap.Ns mainGlobals W.mg) (h2 : s.heap.Ns builtinsNs mb) (h3 : ∀ x : Str, x ≠ "__name__" → mb x = bootBuiltins x) (h4 : s.heap.NoLimit) (h5 : s.gens = #[])
    (ha : s.heap.get? a = some { cls := .type "list", data := .seq vs.toArray }) (hi : IntsAre vs ns) (hl : ns.length ≤ sizeLine) (hr : Room (k + 1) callerA) (hrun : ∃ M', runB (gam P k) fd [.ref 0] [.rol (ns.map .int)] = .ok (.bl true) M') :
    codeAny (model W.prog W.w) callerA (.call (.ref fa) ⟨[.ref a], []⟩) (fun r s' => r = .ok (.ret (.bool true)) ∧ OldK s.heap s'.heap ∧ s'.os = s.os ∧ AllBare s'.gens) s := by
  have rints := vals_ints hi
  have nlen := hi.length
  obtain ⟨M', hrun⟩ := hrun
  have main : ∀ H : Hp, (∀ b u, H b = some u → b = a ∧ u = .frz { cls := .type "list", data := .seq vs.toArray } (.lst (ns.map V.int)) ∧ W.K.lookup a = none) → RoL W.K H a (ns.map V.int) →
      codeAny (model W.prog W.w) callerA (.call (.ref fa) ⟨[.ref a], []⟩) (fun r s' => r = .ok (.ret (.bool true)) ∧ OldK s.heap s'.heap ∧ s'.os = s.os ∧ AllBare s'.gens) s := by
    intro H only ro
    have held : HOk W.prog W.w H s.heap := fun b u e => by
      obtain ⟨rfl, rfl, _⟩ := only b u e
      exact ⟨ha, by rw [List.length_map]; exact hl, vs, _, rints, ha⟩
    have up : ∀ {b : Addr} {o : PySem.Obj}, s.heap.get? b = some o → H b = none → (hidT s.heap H).get? b = some o := fun q n => hidT_get q n
    have nodict : ∀ {b : Addr} {o : PySem.Obj} {es : Array DictEntry} {ep : Nat}, s.heap.get? b = some o → o.data = .dict es ep → H b = none := fun {b o es ep} q dd => by
      cases z : H b with
      | none => rfl
      | some u =>
        obtain ⟨rfl, _⟩ := only b u z
        rw [ha] at q
        cases q
        exact nomatch (show Data.seq vs.toArray _ = Data.dict es ep from dd)
    have spaces : ∀ {b : Addr} {m : Str → Option Value}, s.heap.Ns b m → (hidT s.heap H).Ns b m := by
      rintro b m ⟨o, es, ep, q, dd, z⟩
      exact ⟨o, es, ep, up q (nodict q dd), dd, z⟩
    have kin : W.K.In (hidT s.heap H) := fun b o q => up (KX b o q) (by
      cases z : H b with
      | none => rfl
      | some u =>
        obtain ⟨rfl, _, n⟩ := only b u z
        rw [n] at q; cases q)
    have lim : (hidT s.heap H).NoLimit := by
      obtain ⟨mc, l1, l2⟩ := h4
      exact ⟨mc, spaces l1, l2⟩
    have env0 : Env0 W.prog W.w W.K W.mg (hidT s.heap H) callerA [] s H :=
      { frames := rfl, mod := ⟨kin, spaces h1, ⟨mb, spaces h2, h3⟩, lim⟩, bs := fun b o q => of_hidT q, bsz := Nat.le_of_eq (hidT_size _ _), funs := trivial, frf := fun b hb => (List.not_mem_nil hb).elim, hok := held, bare := .of_eq h5 }
    have rm : RM W [a] [.rol (ns.map .int)] H := by
      refine ⟨rfl, by simp, fun n o e => ?_, fun n m b on om e1 e2 o1 _ _ _ => ?_, fun n o b e1 e2 => ?_⟩
      · cases n with
        | zero => cases e; exact Iff.intro (fun (z : false = true) => Bool.noConfusion z) (fun z => absurd z (Nat.lt_irrefl _))
        | succ n => cases e
      · cases n with
        | zero => cases e1; cases o1
        | succ n => cases e1
      · cases n with
        | zero =>
          cases e1
          cases e2
          refine ⟨ns.map V.int, ro, ?_⟩
          have : ∀ l : List Int, RVs W [a] H (l.map Val.int) (l.map V.int) := fun l => by
            induction l with
            | nil => exact .nil
            | cons i l ih => exact .cons (.int i) ih
          exact this ns
        | succ n => cases e1
    have go := fn_body d (facts_all T k) (hidT s.heap H) callerA [] s H ⟨[.ref a], []⟩ [.ref a] [.ref a] [a] [.rol (ns.map .int)] [.ref 0] (.bl true) M' (fun v _ => v = .bl true) hr rfl env0 (hb1 s _) hps.symm (.cons rfl .nil) rm (.cons (.ref rfl) .nil) hrun
      (fun φ' H' u _ _ ru => by cases ru; rfl)
    refine codeAny_mono go fun r s' h => ?_
    cases r with
    | error e => exact h.elim
    | ok fl =>
      cases fl with
      | next => exact h.elim
      | brk => exact h.elim
      | cont => exact h.elim
      | ret u =>
        obtain ⟨v, H', os, bare, un, held', rv, rfl⟩ := h
        cases rv
        refine ⟨rfl, OldK.of_keep fun b o q => ?_, os, bare⟩
        cases z : H b with
        | none => exact un.keep b o q z (List.not_mem_nil) (List.not_mem_nil)
        | some u =>
          obtain ⟨_, rfl, _⟩ := only b u z
          obtain ⟨e1, _⟩ := held b _ z
          obtain ⟨e2, _⟩ := held' b _ (un.frzs b _ _ z)
          rw [q] at e1
          cases e1
          exact e2
  cases hk : W.K.lookup a with
  | some o =>
    have q := KX a o hk
    rw [ha] at q
    cases q
    exact main (fun _ => none) (fun b u z => nomatch z) (.inr ⟨_, vs.toArray, _, hk, rfl, rfl, rfl, by rw [List.size_toArray, nlen]; exact hl, by simpa using rints⟩)
  | none =>
    refine main (fun b => if b = a then some (.frz { cls := .type "list", data := .seq vs.toArray } (.lst (ns.map V.int))) else none) (fun b u z => ?_) (.inl ⟨{ cls := .type "list", data := .seq vs.toArray }, if_pos rfl⟩)
    by_cases e : b = a
    · rw [if_pos e] at z; cases z; exact ⟨e, rfl, hk⟩
    · rw [if_neg e] at z; cases z
theorem walk_mn {l : PySem.W.OpenLaw} {k : Nat} {q : Program} {loose : List Str} {XP : (Str → Option Value) → Heap → Prop} {YP : World → Heap → Prop} {d : DefRec} {K : Params → PySem.W.Frag} {fd : FD}
    (hn : l.most = some 63) (hdf : d.params.defaults = []) (hr : Room (k + 1) callerA) (hps : fd.ps.length = 1) (hY : ∀ (w : World) (h : Heap), YP w h → (K w.params).In h)
    (F : ∀ (w : World) (mg : Str → Option Value) (fa : Addr) (h : Heap), (K w.params).In h → h.Ns mainGlobals mg → mg d.name = some (.ref fa) →
      Top ⟨l.prog, w, K w.params, mg⟩ G P ∧ ∃ fdat : FuncData, DefOk ⟨l.prog, w, K w.params, mg⟩ G fd fa fdat ∧ ∀ (s : Shared) (u : Value), BindsTo s fdat ⟨[u], []⟩ (fd.ps.zip [u]))
    (hrun : ∀ ns : List Int, ns.length ≤ 63 → ∃ M', runB (gam P k) fd [.ref 0] [.rol (ns.map .int)] = .ok (.bl true) M') :
    PySem.W.WalkO q loose XP YP l.row.toRowW d [] (fun f vs => PySem.call f vs) := by
  refine Att.attach_call hn hdf fun w s₀ s₁ mg mb fa o pm cd doc a vs ns Gr Y ho hd hcd hmg hobj hints hlen hg => ?_
  have KX := hY w _ Y
  obtain ⟨T, fdat, dd, hb⟩ := F w mg fa _ KX Gr.T.g hmg
  exact law_run T dd hb hps KX Gr.T.g Gr.T.b Gr.T.builtins Gr.T.nolimit hg hobj hints (Nat.le_trans hlen (by decide)) hr (hrun ns hlen)
theorem def_mk {W : Wo} {G : GT} {fd : FD} {fa : Addr} {st : Stmt} {name qual : Str} {dV kV doc pm : Value} {an : Option Addr} {cdv ct oc : Value} {od : Option Addr} {osl : Array (Option Value)} (N : List Str)
    (lk : W.K.lookup fa = some ⟨oc, od, .func (PySem.W.fnOf name qual (defArgs st) (defBody st) (defScope st) dV kV doc pm an cdv ct), osl⟩) (hc : PySem.W.codeIn W.K cdv qual = true) (S : FnScope N fd.ps (defScope st))
    (hb : convB G ⟨defScope st, N, fun _ => true⟩ (defBody st) = some fd.body) (hn : fd.n = N.length) : DefOk W G fd fa (PySem.W.fnOf name qual (defArgs st) (defBody st) (defScope st) dV kV doc pm an cdv ct) :=
  ⟨⟨name, qual, _, _, _, dV, kV, doc, pm, an, cdv, ct, oc, od, osl, N, rfl, lk, hc, S, hb, hn⟩⟩
end
end Mn
end -- Sd27
section -- Pl1
set_option linter.all false
set_option autoImplicit false
set_option maxRecDepth 100000
namespace Mn
open PySem L2
/-! ### the evaluator by rules: equations -/
section
variable {Γ : Gam} {ρ : Env} {M M' : Mem}
theorem bind_k {α β : Type} {r : Res α} {a : α} {f : α → Mem → Res β} (h : r = .ok a M) : r.bind f = f a M := by rw [h]; rfl
theorem rb_ok {α β : Type} (a : α) (M : Mem) (f : α → Mem → Res β) : (Res.ok a M).bind f = f a M := rfl
theorem st_ok {α : Type} (a : α) (M : Mem) (f : α → Mem → SR) : (Res.ok a M).st f = f a M := rfl
theorem seq_nx (ρ : Env) (M : Mem) (f : Env → Mem → SR) : (SR.ok .nx ρ M).seq f = f ρ M := rfl
theorem seq_rt (v : Val) (ρ : Env) (M : Mem) (f : Env → Mem → SR) : (SR.ok (.rt v) ρ M).seq f = .ok (.rt v) ρ M := rfl
theorem bindA_eq {fd : FD} : ∀ {ps : List Str} {vs : List Val}, vs.length = ps.length → bindA fd ps vs [] = some vs
  | [], [], _ => rfl
  | [], _ :: _, h => by simp at h
  | _ :: _, [], h => by simp at h
  | p :: ps, v :: vs, h => by
    show (bindA fd ps vs []).map (v :: ·) = _
    rw [bindA_eq (by simpa using h)]; rfl
theorem call_eq {P : Prg} {f : Str} {fd : FD} {k : Nat} {vs : List Val} (h : P.fns.lookup f = some fd) (hl : vs.length = fd.ps.length) (M : Mem) : callAt P (k + 1) f vs [] M = runB (gam P k) fd vs M := by
  rw [callAt_succ]
  unfold stepC
  rw [h]
  dsimp only
  rw [bindA_eq hl]
end
/-! ### loops -/
theorem for_rule {f : Env → Mem → SR} {src : Src} {t : T} {len : Nat} (I : Nat → Env → Mem → Prop)
    (hs : ∀ i ρ M, i < len → I i ρ M → ∃ v ρ' ρ2 M2, src.at M len i = some v ∧ asgT M t v ρ = some ρ' ∧ (f ρ' M = .ok .nx ρ2 M2 ∨ f ρ' M = .ok .ct ρ2 M2) ∧ I (i + 1) ρ2 M2) (hl : ∀ ρ M, I len ρ M → src.len M = some len) :
    ∀ {ρ : Env} {M : Mem}, I 0 ρ M → ∃ ρ' M', forL f src t len len ρ M = .ok .nx ρ' M' ∧ I len ρ' M' := by
  have go : ∀ (n : Nat) (ρ : Env) (M : Mem), n ≤ len → I (len - n) ρ M → ∃ ρ' M', forL f src t len n ρ M = .ok .nx ρ' M' ∧ I len ρ' M' := by
    intro n
    induction n with
    | zero =>
      intro ρ M _ h
      refine ⟨ρ, M, ?_, h⟩
      unfold forL
      rw [if_pos (hl ρ M h)]
    | succ n ih =>
      intro ρ M hn h
      obtain ⟨v, ρ', ρ2, M2, e1, e2, e3, e4⟩ := hs (len - (n + 1)) ρ M (by omega) h
      have e5 : len - (n + 1) + 1 = len - n := by omega
      rw [e5] at e4
      obtain ⟨ρ3, M3, e6, e7⟩ := ih ρ2 M2 (by omega) e4
      refine ⟨ρ3, M3, ?_, e7⟩
      unfold forL
      rw [e1]
      dsimp only
      rw [e2]
      dsimp only
      rcases e3 with e3 | e3 <;> (rw [e3]; exact e6)
  intro ρ M h
  exact go len ρ M (Nat.le_refl _) (by rw [Nat.sub_self]; exact h)
/-- a comprehension by an invariant -/
theorem comp_rule {f : Env → Mem → Res (Option Val)} {src : Src} {t : T} {len : Nat} {ρ : Env} (I : Nat → List Val → Mem → Prop)
    (hs : ∀ i acc M, i < len → I i acc M → ∃ v ρ' o M2, src.at M len i = some v ∧ asgT M t v ρ = some ρ' ∧ f ρ' M = .ok o M2 ∧ I (i + 1) (acc ++ o.toList) M2) (hl : ∀ acc M, I len acc M → src.len M = some len) :
    ∀ {M : Mem}, I 0 [] M → ∃ l M', compL f src t ρ len len [] M = .ok l M' ∧ I len l M' := by
  have go : ∀ (n : Nat) (acc : List Val) (M : Mem), n ≤ len → I (len - n) acc.reverse M → ∃ l M', compL f src t ρ len n acc M = .ok l M' ∧ I len l M' := by
    intro n
    induction n with
    | zero =>
      intro acc M _ h
      refine ⟨acc.reverse, M, ?_, h⟩
      unfold compL
      rw [if_pos (hl _ M h)]
    | succ n ih =>
      intro acc M hn h
      obtain ⟨v, ρ', o, M2, e1, e2, e3, e4⟩ := hs (len - (n + 1)) acc.reverse M (by omega) h
      have e5 : len - (n + 1) + 1 = len - n := by omega
      rw [e5] at e4
      have step : ∃ l M', compL f src t ρ len n (o.toList ++ acc) M2 = .ok l M' ∧ I len l M' := by
        refine ih _ M2 (by omega) ?_
        cases o with
        | none => simpa using e4
        | some w => simpa using e4
      obtain ⟨l, M3, e6, e7⟩ := step
      refine ⟨l, M3, ?_, e7⟩
      unfold compL
      rw [e1]
      dsimp only
      rw [e2]
      dsimp only
      rw [e3]
      cases o with
      | none => exact e6
      | some w => exact e6
  intro M h
  exact go len [] M (Nat.le_refl _) (by rw [Nat.sub_self]; exact h)
end Mn
end -- Pl1
section -- Pl2
set_option linter.all false
set_option autoImplicit false
set_option maxRecDepth 100000
namespace Mn
open PySem L2
/-! ### small data: no references, small ints -/
mutual
/-- ints below 10^12, texts of at most 12 signs that stand -/
def smV : Val → Bool
  | .non => true
  | .bl _ => true
  | .int i => decide (i.natAbs < 10 ^ 12)
  | .str s => PyData.strOk s && decide (s.cps.size ≤ 12)
  | .tup vs => smVs vs
  | _ => false
def smVs : List Val → Bool
  | [] => true
  | v :: vs => smV v && smVs vs
end
mutual
/-- its items, all together -/
def szV : Val → Nat
  | .tup vs => szVs vs + 1
  | _ => 1
def szVs : List Val → Nat
  | [] => 0
  | v :: vs => szV v + szVs vs
end
mutual
def dpV : Val → Nat
  | .tup vs => dpVs vs + 1
  | _ => 0
def dpVs : List Val → Nat
  | [] => 0
  | v :: vs => max (dpV v) (dpVs vs)
end
mutual
/-- the data of a value without references -/
def dV : Val → PyData
  | .non => .none
  | .bl b => .bool b
  | .int i => .int i
  | .str s => .str s
  | .tup vs => .tuple (dVs vs)
  | _ => .none
def dVs : List Val → List PyData
  | [] => []
  | v :: vs => dV v :: dVs vs
end
mutual
theorem dat_sm (rd : Nat → Option PyData) : ∀ v : Val, smV v = true → dat rd v = some (dV v)
  | .non, _ => rfl
  | .bl _, _ => rfl
  | .int _, _ => rfl
  | .str _, _ => rfl
  | .tup vs, h => by
    show (dats rd vs).map PyData.tuple = _
    rw [dats_sm rd vs h]; rfl
  | .ref _, h => by cases h
  | .ty _, h => by cases h
  | .glo _, h => by cases h
theorem dats_sm (rd : Nat → Option PyData) : ∀ vs : List Val, smVs vs = true → dats rd vs = some (dVs vs)
  | [], _ => rfl
  | v :: vs, h => by
    have h : (smV v && smVs vs) = true := h
    rw [Bool.and_eq_true] at h
    show (match dat rd v, dats rd vs with | some d, some ds => some (d :: ds) | _, _ => none) = _
    rw [dat_sm rd v h.1, dats_sm rd vs h.2]; rfl
end
theorem log_small {i : Int} (h : i.natAbs < 10 ^ 12) : i.natAbs.log2 < 40 := by
  by_cases e : i.natAbs = 0
  · rw [e]; decide
  · exact (Nat.log2_lt e).mpr (Nat.lt_trans h (by decide))
mutual
theorem lay_sm : ∀ v : Val, smV v = true → (dV v).canLay0 = true ∧ (dV v).intsShort 13 = true ∧ (dV v).showable = true ∧ (dV v).depth = dpV v ∧ (dV v).weight + 1 ≤ 41 * szV v
  | .non, _ => ⟨rfl, rfl, rfl, rfl, by decide⟩
  | .bl _, _ => ⟨rfl, rfl, rfl, rfl, (by decide : 0 + 1 ≤ 41 * 1)⟩
  | .int i, h => by
    have h : i.natAbs < 10 ^ 12 := of_decide_eq_true h
    have l := log_small h
    refine ⟨rfl, decide_eq_true (PyData.shown_int_le h), decide_eq_true (by omega), rfl, ?_⟩
    show (if i == 0 then 0 else i.natAbs.log2 + 1) + 1 ≤ 41 * 1
    split <;> omega
  | .str s, h => by
    have h : (PyData.strOk s && decide (s.cps.size ≤ 12)) = true := h
    rw [Bool.and_eq_true, decide_eq_true_eq] at h
    refine ⟨h.1, rfl, rfl, rfl, ?_⟩
    show s.cps.size + 1 ≤ 41 * 1
    omega
  | .tup vs, h => by
    obtain ⟨h1, h2, h3, h4, h5⟩ := lays_sm vs h
    refine ⟨h1, h2, h3, ?_, ?_⟩
    · show PyData.depthAll (dVs vs) + 1 = dpVs vs + 1
      rw [h4]
    · show PyData.weightAll (dVs vs) + 1 ≤ 41 * (szVs vs + 1)
      omega
  | .ref _, h => by cases h
  | .ty _, h => by cases h
  | .glo _, h => by cases h
theorem lays_sm : ∀ vs : List Val, smVs vs = true → PyData.canLayAll0 (dVs vs) = true ∧ PyData.intsShortAll 13 (dVs vs) = true ∧ PyData.showableAll (dVs vs) = true ∧ PyData.depthAll (dVs vs) = dpVs vs ∧ PyData.weightAll (dVs vs) ≤ 41 * szVs vs
  | [], _ => ⟨rfl, rfl, rfl, rfl, by decide⟩
  | v :: vs, h => by
    have h : (smV v && smVs vs) = true := h
    rw [Bool.and_eq_true] at h
    obtain ⟨a1, a2, a3, a4, a5⟩ := lay_sm v h.1
    obtain ⟨b1, b2, b3, b4, b5⟩ := lays_sm vs h.2
    refine ⟨?_, ?_, ?_, ?_, ?_⟩
    · show ((dV v).canLay0 && PyData.canLayAll0 (dVs vs)) = true
      rw [a1, b1]; rfl
    · show ((dV v).intsShort 13 && PyData.intsShortAll 13 (dVs vs)) = true
      rw [a2, b2]; rfl
    · show ((dV v).showable && PyData.showableAll (dVs vs)) = true
      rw [a3, b3]; rfl
    · show max (dV v).depth (PyData.depthAll (dVs vs)) = max (dpV v) (dpVs vs)
      rw [a4, b4]
    · show (dV v).weight + 1 + PyData.weightAll (dVs vs) ≤ 41 * (szV v + szVs vs)
      omega
end
/-- small, and not too great: what is shown, compared -/
def okV (v : Val) : Prop := smV v = true ∧ dpV v ≤ 60 ∧ szV v ≤ 25000
theorem okV.lay {v : Val} (h : okV v) : (dV v).layable0 = true := by
  obtain ⟨h1, h2, h3⟩ := h
  obtain ⟨a1, a2, a3, a4, a5⟩ := lay_sm v h1
  show ((dV v).canLay0 && decide ((dV v).depth ≤ 64) && decide ((dV v).weight ≤ 2 ^ 20)) = true
  rw [a1, decide_eq_true (by omega), decide_eq_true (show (dV v).weight ≤ 2 ^ 20 from by
    have e : (2 : Nat) ^ 20 = 1048576 := by decide
    rw [e]
    omega)]
  rfl
theorem okV.shaped {v : Val} (h : okV v) : SeqAt.shaped (dV v) = true := SeqAt.shaped_of_layable h.lay
theorem okV.shown {v : Val} (h : okV v) : shownOk (dV v) = true := by
  obtain ⟨a1, a2, a3, a4, a5⟩ := lay_sm v h.1
  have l := PyData.shown_le_of_layable0 h.lay a2
  unfold shownOk
  rw [a3, h.shaped, decide_eq_true (by rw [sizeLine_eq]; omega)]
  rfl
theorem repr_eq {v : Val} (h : okV v) (M : Mem) : bcall .repr [v] M = .ok (.str (dV v).shown) M := by
  show (match datM M v with | some d => chk (shownOk d) (Res.ok (Val.str d.shown) M) | none => .stuck) = _
  unfold datM
  rw [dat_sm _ v h.1]
  dsimp only
  rw [h.shown]
  rfl
theorem smVs_append : ∀ (a b : List Val), smVs (a ++ b) = (smVs a && smVs b)
  | [], b => by simp [smVs]
  | v :: a, b => by
    show (smV v && smVs (a ++ b)) = (smV v && smVs a && smVs b)
    rw [smVs_append a b, Bool.and_assoc]
theorem smVs_all : ∀ {vs : List Val}, (∀ v ∈ vs, smV v = true) → smVs vs = true
  | [], _ => rfl
  | v :: vs, h => by
    show (smV v && smVs vs) = true
    rw [h v List.mem_cons_self, smVs_all fun w hw => h w (List.mem_cons_of_mem _ hw)]; rfl
theorem smVs_mem : ∀ {vs : List Val} {v : Val}, smVs vs = true → v ∈ vs → smV v = true
  | w :: vs, v, h, hv => by
    have h : (smV w && smVs vs) = true := h
    rw [Bool.and_eq_true] at h
    rcases List.mem_cons.mp hv with rfl | hv
    · exact h.1
    · exact smVs_mem h.2 hv
theorem szVs_le {c : Nat} : ∀ {vs : List Val}, (∀ v ∈ vs, szV v ≤ c) → szVs vs ≤ c * vs.length
  | [], _ => by simp [szVs]
  | v :: vs, h => by
    have h1 := h v List.mem_cons_self
    have h2 := szVs_le fun w hw => h w (List.mem_cons_of_mem _ hw)
    show szV v + szVs vs ≤ c * (vs.length + 1)
    rw [Nat.mul_add]
    omega
theorem dpVs_le {c : Nat} : ∀ {vs : List Val}, (∀ v ∈ vs, dpV v ≤ c) → dpVs vs ≤ c
  | [], _ => Nat.zero_le _
  | v :: vs, h => Nat.max_le.mpr ⟨h v List.mem_cons_self, dpVs_le fun w hw => h w (List.mem_cons_of_mem _ hw)⟩
theorem smVs_ints {is : List Int} (h : ∀ i ∈ is, i.natAbs < 10 ^ 12) : smVs (is.map .int) = true := smVs_all fun v hv => by
  obtain ⟨i, hi, rfl⟩ := List.mem_map.mp hv
  exact decide_eq_true (h i hi)
theorem szVs_ints (is : List Int) : szVs (is.map .int) = is.length := by
  induction is with
  | nil => rfl
  | cons i is ih => show 1 + szVs (is.map .int) = _; rw [ih, List.length_cons]; omega
theorem dpVs_ints (is : List Int) : dpVs (is.map .int) = 0 := by
  induction is with
  | nil => rfl
  | cons i is ih => show max 0 (dpVs (is.map .int)) = 0; rw [ih]; rfl
/-! ### the store -/
theorem gam_call (P : Prg) (k : Nat) : (gam P k).call = callAt P k := rfl
/-- all but the places in S stays, the store may grow -/
def Fr (S : Nat → Prop) (M M' : Mem) : Prop := M.length ≤ M'.length ∧ ∀ n, n < M.length → ¬ S n → M'[n]? = M[n]?
theorem Fr.refl {S : Nat → Prop} {M : Mem} : Fr S M M := ⟨Nat.le_refl _, fun _ _ _ => rfl⟩
theorem Fr.trans {S : Nat → Prop} {M M1 M2 : Mem} (a : Fr S M M1) (b : Fr S M1 M2) : Fr S M M2 := ⟨Nat.le_trans a.1 b.1, fun n h s => (b.2 n (Nat.lt_of_lt_of_le h a.1) s).trans (a.2 n h s)⟩
theorem Fr.app {S : Nat → Prop} {M : Mem} (l : List Obj) : Fr S M (M ++ l) := ⟨by simp, fun n h _ => by rw [List.getElem?_append_left h]⟩
theorem Fr.set {S : Nat → Prop} {M : Mem} {p : Nat} {o : Obj} (h : S p) : Fr S M (M.set p o) := ⟨by simp, fun n _ s => by rw [List.getElem?_set_ne]; intro e; subst e; exact s h⟩
theorem Fr.get {S : Nat → Prop} {M M' : Mem} {n : Nat} {o : Obj} (f : Fr S M M') (h : M[n]? = some o) (s : ¬ S n) : M'[n]? = some o := (f.2 n (List.getElem?_eq_some_iff.mp h).1 s).trans h
theorem Fr.mono {S S' : Nat → Prop} {M M' : Mem} (f : Fr S M M') (h : ∀ n, n < M.length → S n → S' n) : Fr S' M M' := ⟨f.1, fun n hl s => f.2 n hl fun z => s (h n hl z)⟩
theorem get_lt {M : Mem} {p : Nat} {o : Obj} (h : M[p]? = some o) : p < M.length := (List.getElem?_eq_some_iff.mp h).1
theorem set_same {M : Mem} {p : Nat} {o o' : Obj} (h : M[p]? = some o) : (M.set p o')[p]? = some o' := by rw [List.getElem?_set_self (get_lt h)]
theorem app_new {M : Mem} {o : Obj} : (M ++ [o])[M.length]? = some o := by rw [List.getElem?_append_right (Nat.le_refl _)]; simp
theorem app_old {M : Mem} {p : Nat} {o : Obj} (h : M[p]? = some o) (l : List Obj) : (M ++ l)[p]? = some o := by rw [List.getElem?_append_left (get_lt h)]; exact h
theorem dats_ints (rd : Nat → Option PyData) : ∀ is : List Int, dats rd (is.map .int) = some (is.map .int)
  | [] => rfl
  | i :: is => by
    show (match dat rd (.int i), dats rd (is.map .int) with | some d, some ds => some (d :: ds) | _, _ => none) = _
    rw [dats_ints rd is]; rfl
theorem data_ints {M : Mem} {q : Nat} {is : List Int} (h : M[q]? = some (.lst (is.map .int))) : datM M (.ref q) = some (.list (is.map .int)) := by
  show rdM M 6 q = _
  unfold rdM
  rw [h]
  dsimp only
  rw [dats_ints]
  rfl
theorem shaped_ints : ∀ is : List Int, SeqAt.shaped (.list (is.map .int)) = true := fun is => by
  have h : ∀ l : List Int, PyData.canLayAll0 (l.map .int) = true ∧ PyData.depthAll (l.map .int) = 0 := fun l => by
    induction l with
    | nil => exact ⟨rfl, rfl⟩
    | cons i l ih =>
      refine ⟨?_, ?_⟩
      · show (true && PyData.canLayAll0 (l.map .int)) = true
        rw [ih.1]; rfl
      · show max 0 (PyData.depthAll (l.map .int)) = 0
        rw [ih.2]; rfl
  show (PyData.canLayAll0 (is.map .int) && decide (PyData.depthAll (is.map .int) + 1 ≤ 64)) = true
  rw [(h is).1, (h is).2]
  rfl
end Mn
end -- Pl2
section -- Pl3
set_option linter.all false
set_option autoImplicit false
set_option maxRecDepth 100000
namespace Mn
open PySem L2
/-! ### what comes of the evaluator, backward -/
def XR {α : Type} (r : Res α) (Q : α → Mem → Prop) : Prop := ∃ a M', r = .ok a M' ∧ Q a M'
def XZ (r : SR) (Q : Fl → Env → Mem → Prop) : Prop := ∃ fl ρ M', r = .ok fl ρ M' ∧ Q fl ρ M'
section
variable {Γ : Gam} {ρ : Env} {M : Mem} {Q : Val → Mem → Prop} {a b c : E}
theorem XR.ok {α : Type} {x : α} {Q : α → Mem → Prop} (q : Q x M) : XR (Res.ok x M) Q := ⟨x, M, rfl, q⟩
theorem XR.of {α : Type} {r : Res α} {x : α} {M' : Mem} {Q : α → Mem → Prop} (e : r = .ok x M') (q : Q x M') : XR r Q := ⟨x, M', e, q⟩
theorem XR.bind {α β : Type} {r : Res α} {f : α → Mem → Res β} {Q : β → Mem → Prop} (h : XR r fun x M => XR (f x M) Q) : XR (r.bind f) Q := by
  obtain ⟨x, M1, e, y, M2, e2, q⟩ := h
  exact ⟨y, M2, by rw [e]; exact e2, q⟩
theorem XR.st {α : Type} {r : Res α} {f : α → Mem → SR} {Q : Fl → Env → Mem → Prop} (h : XR r fun x M => XZ (f x M) Q) : XZ (r.st f) Q := by
  obtain ⟨x, M1, e, fl, ρ, M2, e2, q⟩ := h
  exact ⟨fl, ρ, M2, by rw [e]; exact e2, q⟩
theorem XR.imp {α : Type} {r : Res α} {Q Q' : α → Mem → Prop} (h : XR r Q) (w : ∀ x M, Q x M → Q' x M) : XR r Q' := by
  obtain ⟨x, M1, e, q⟩ := h
  exact ⟨x, M1, e, w _ _ q⟩
theorem XZ.imp {r : SR} {Q Q' : Fl → Env → Mem → Prop} (h : XZ r Q) (w : ∀ f ρ M, Q f ρ M → Q' f ρ M) : XZ r Q' := by
  obtain ⟨f, ρ, M1, e, q⟩ := h
  exact ⟨f, ρ, M1, e, w _ _ _ q⟩
theorem x_var {i : Nat} {v : Val} (h : ρ[i]? = some (some v)) (q : Q v M) : XR (evE Γ (.var i) ρ M) Q := ⟨v, M, by show (match ρ[i]? with | some (some v) => Res.ok v M | _ => .stuck) = _; rw [h], q⟩
theorem x_glob {x : Str} {v : Val} (h : Γ.glob x = some v) (q : Q v M) : XR (evE Γ (.glob x) ρ M) Q := ⟨v, M, by show ofO (Γ.glob x) M = _; rw [h]; rfl, q⟩
theorem x_non (q : Q .non M) : XR (evE Γ .non ρ M) Q := .ok q
theorem x_bl {d : Bool} (q : Q (.bl d) M) : XR (evE Γ (.bl d) ρ M) Q := .ok q
theorem x_int {i : Int} (q : Q (.int i) M) : XR (evE Γ (.int i) ρ M) Q := .ok q
theorem x_str {s : Str} (q : Q (.str s) M) : XR (evE Γ (.str s) ρ M) Q := .ok q
theorem x_ty {t : String} (q : Q (.ty t) M) : XR (evE Γ (.ty t) ρ M) Q := .ok q
theorem x_nil {Q : List Val → Mem → Prop} (q : Q [] M) : XR (evEs Γ [] ρ M) Q := .ok q
theorem x_cons {e : E} {es : List E} {Q : List Val → Mem → Prop} (h : XR (evE Γ e ρ M) fun v M => XR (evEs Γ es ρ M) fun vs M => Q (v :: vs) M) : XR (evEs Γ (e :: es) ρ M) Q := XR.bind (h.imp fun v M z => XR.bind (z.imp fun vs M q => .ok q))
theorem x_tup {es : List E} (h : XR (evEs Γ es ρ M) fun vs M => Q (.tup vs) M) : XR (evE Γ (.tup es) ρ M) Q := XR.bind (h.imp fun vs M q => .ok q)
theorem x_lst {es : List E} (h : XR (evEs Γ es ρ M) fun vs M => Q (.ref M.length) (M ++ [.lst vs])) : XR (evE Γ (.lst es) ρ M) Q := XR.bind (h.imp fun vs M q => .ok q)
theorem x_bin {op : Operator} (h : XR (evE Γ a ρ M) fun x M => XR (evE Γ b ρ M) fun y M => XR (binop op x y M) Q) : XR (evE Γ (.bin op a b) ρ M) Q := XR.bind (h.imp fun x M z => XR.bind z)
theorem x_cmp {op : CmpOp} (h : XR (evE Γ a ρ M) fun x M => XR (evE Γ b ρ M) fun y M => ∃ d, cmpop op x y M = some d ∧ Q (.bl d) M) : XR (evE Γ (.cmp op a b) ρ M) Q :=
  XR.bind (h.imp fun x M z => XR.bind (z.imp fun y M ⟨d, e, q⟩ => ⟨.bl d, M, by rw [e]; rfl, q⟩))
theorem x_not (h : XR (evE Γ a ρ M) fun x M => ∃ d, truth M x = some d ∧ Q (.bl (!d)) M) : XR (evE Γ (.not a) ρ M) Q := XR.bind (h.imp fun x M ⟨d, e, q⟩ => ⟨.bl (!d), M, by rw [e]; rfl, q⟩)
theorem x_ite (h : XR (evE Γ a ρ M) fun x M => ∃ d, truth M x = some d ∧ (d = true → XR (evE Γ b ρ M) Q) ∧ (d = false → XR (evE Γ c ρ M) Q)) : XR (evE Γ (.ite a b c) ρ M) Q := XR.bind (h.imp fun x M ⟨d, e, q1, q2⟩ => by
  rw [e]
  cases d with
  | true => exact q1 rfl
  | false => exact q2 rfl)
theorem x_and (h : XR (evE Γ a ρ M) fun x M => ∃ d, truth M x = some d ∧ (d = true → XR (evE Γ b ρ M) Q) ∧ (d = false → Q x M)) : XR (evE Γ (.and a b) ρ M) Q := XR.bind (h.imp fun x M ⟨d, e, q1, q2⟩ => by
  rw [e]
  cases d with
  | true => exact q1 rfl
  | false => exact .ok (q2 rfl))
theorem x_or (h : XR (evE Γ a ρ M) fun x M => ∃ d, truth M x = some d ∧ (d = false → XR (evE Γ b ρ M) Q) ∧ (d = true → Q x M)) : XR (evE Γ (.or a b) ρ M) Q := XR.bind (h.imp fun x M ⟨d, e, q1, q2⟩ => by
  rw [e]
  cases d with
  | false => exact q1 rfl
  | true => exact .ok (q2 rfl))
theorem x_idx (h : XR (evE Γ a ρ M) fun x M => XR (evE Γ b ρ M) fun y M => XR (subs x y M) Q) : XR (evE Γ (.idx a b) ρ M) Q := XR.bind (h.imp fun x M z => XR.bind z)
theorem x_sl {l u : E} (h : XR (evE Γ a ρ M) fun x M => XR (part l.isNon (evE Γ l ρ M) M) fun p M => XR (part u.isNon (evE Γ u ρ M) M) fun q M => XR (sliceB x p q M) Q) : XR (evE Γ (.sl a l u) ρ M) Q := XR.bind (h.imp fun x M z => XR.bind (z.imp fun y M w => XR.bind w))
theorem x_call {f : Str} {es kes : List E} {kns : List Str} (h : XR (evEs Γ es ρ M) fun vs M => XR (evEs Γ kes ρ M) fun ws M => XR (Γ.call f vs (kns.zip ws) M) Q) : XR (evE Γ (.call f es kns kes) ρ M) Q := XR.bind (h.imp fun x M z => XR.bind z)
theorem x_bcall {f : BF} {es : List E} (h : XR (evEs Γ es ρ M) fun vs M => XR (bcall f vs M) Q) : XR (evE Γ (.bcall f es) ρ M) Q := XR.bind h
theorem x_bmeth {m : BM} {o : E} {es : List E} (h : XR (evE Γ o ρ M) fun x M => recvOk m M x = true ∧ XR (evEs Γ es ρ M) fun vs M => XR (bmeth m x vs M) Q) : XR (evE Γ (.bmeth m o es) ρ M) Q := XR.bind (h.imp fun x M ⟨e, z⟩ => by
  rw [if_pos e]; exact XR.bind z)
theorem x_rng {es : List E} (h : XR (evEs Γ es ρ M) fun vs M => ∃ l, rangeOf vs = some l ∧ vs.length ≤ 2 ∧ l.length ≤ sizeLine ∧ Q (.tup l) M) : XR (evE Γ (.rng es) ρ M) Q := XR.bind (h.imp fun vs M ⟨l, e, h1, h2, q⟩ => by
  rw [e]
  dsimp only
  rw [decide_eq_true ⟨h1, h2⟩]
  exact .ok q)
theorem x_comp {k : IK} {its : List E} {t : T} {own : List Nat} {cs : List E} {elt : E} (h : XR (evEs Γ its ρ M) fun vs M => ∃ src len, srcOf k vs M = some src ∧ src.len M = some len ∧ len ≤ sizeLine ∧ ∃ I : Nat → List Val → Mem → Prop, I 0 [] M ∧
    (∀ i acc M, i < len → I i acc M → ∃ v ρ', src.at M len i = some v ∧ asgT M t v (wipeE ρ own) = some ρ' ∧ XR (evC Γ cs ρ' M) fun d M => (d = true → XR (evE Γ elt ρ' M) fun v M => I (i + 1) (acc ++ [v]) M) ∧ (d = false → I (i + 1) acc M)) ∧
    ∀ acc M, I len acc M → src.len M = some len ∧ Q (.ref M.length) (M ++ [.lst acc])) : XR (evE Γ (.comp k its t own cs elt) ρ M) Q := XR.bind (h.imp fun vs M ⟨src, len, e1, e2, e3, I, h0, hs, hd⟩ => by
  rw [e1]
  dsimp only
  rw [e2]
  dsimp only
  rw [if_pos e3]
  refine XR.bind ?_
  obtain ⟨l, M', e4, e5⟩ := comp_rule (f := fun ρ M => (evC Γ cs ρ M).bind fun b M => if b then (evE Γ elt ρ M).bind fun v M => .ok (some v) M else .ok none M) (src := src) (t := t) (len := len) (ρ := wipeE ρ own) I (fun i acc M hi hI => by
    obtain ⟨v, ρ', g1, g2, d, M1, g3, g4, g5⟩ := hs i acc M hi hI
    cases d with
    | true =>
      obtain ⟨w, M2, g6, g7⟩ := g4 rfl
      exact ⟨v, ρ', some w, M2, g1, g2, by rw [g3]; show (evE Γ elt ρ' M1).bind _ = _; rw [g6]; rfl, g7⟩
    | false => exact ⟨v, ρ', none, M1, g1, g2, by rw [g3]; rfl, by simpa using g5 rfl⟩) (fun acc M hI => (hd acc M hI).1) h0
  exact ⟨l, M', e4, .ok (hd l M' e5).2⟩)
theorem x_c0 {Q : Bool → Mem → Prop} (q : Q true M) : XR (evC Γ [] ρ M) Q := .ok q
theorem x_c1 {Q : Bool → Mem → Prop} (h : XR (evE Γ a ρ M) fun x M => ∃ d, truth M x = some d ∧ Q d M) : XR (evC Γ [a] ρ M) Q := XR.bind (h.imp fun x M ⟨d, e, q⟩ => by
  rw [e]
  cases d with
  | true => exact .ok q
  | false => exact .ok q)
/-! ### tests -/
theorem x_t {Q : Bool → Mem → Prop} (h : XR (evE Γ a ρ M) fun x M => ∃ d, truth M x = some d ∧ Q d M) : XR (evT Γ a ρ M) Q := XR.bind (h.imp fun x M ⟨d, e, q⟩ => ⟨d, M, by rw [e]; rfl, q⟩)
/-! ### statements -/
variable {Z : Fl → Env → Mem → Prop}
theorem z_nil (q : Z .nx ρ M) : XZ (evSs Γ [] ρ M) Z := ⟨.nx, ρ, M, rfl, q⟩
theorem z_cons {s : S} {ss : List S} (h : XZ (evS Γ s ρ M) fun f ρ M => match f with | .nx => XZ (evSs Γ ss ρ M) Z | f => Z f ρ M) : XZ (evSs Γ (s :: ss) ρ M) Z := by
  obtain ⟨f, ρ1, M1, e, q⟩ := h
  show XZ ((evS Γ s ρ M).seq _) Z
  rw [e]
  cases f with
  | nx => exact q
  | rt v => exact ⟨_, _, _, rfl, q⟩
  | bk => exact ⟨_, _, _, rfl, q⟩
  | ct => exact ⟨_, _, _, rfl, q⟩
theorem z_asg {t : T} (h : XR (evE Γ a ρ M) fun v M => ∃ ρ', asgT M t v ρ = some ρ' ∧ Z .nx ρ' M) : XZ (evS Γ (.asg t a) ρ M) Z := XR.st (h.imp fun v M ⟨ρ', e, q⟩ => ⟨.nx, ρ', M, by rw [e], q⟩)
theorem z_setI {o i : E} (h : XR (evE Γ a ρ M) fun v M => XR (evE Γ o ρ M) fun x M => XR (evE Γ i ρ M) fun y M => ∃ M', storeI x y v M = some M' ∧ Z .nx ρ M') : XZ (evS Γ (.setIdx o i a) ρ M) Z :=
  XR.st (h.imp fun v M z => XR.st (z.imp fun x M z => XR.st (z.imp fun y M ⟨M', e, q⟩ => ⟨.nx, ρ, M', by rw [e], q⟩)))
theorem z_setA {o : E} {f : Str} (h : XR (evE Γ a ρ M) fun v M => XR (evE Γ o ρ M) fun x M => ∃ M', storeA Γ.fld x f v M = some M' ∧ Z .nx ρ M') : XZ (evS Γ (.setAttr o f a) ρ M) Z :=
  XR.st (h.imp fun v M z => XR.st (z.imp fun x M ⟨M', e, q⟩ => ⟨.nx, ρ, M', by rw [e], q⟩))
theorem z_aug {i : Nat} {x : Int} (h0 : ρ[i]? = some (some (.int x))) (h : XR (evE Γ a ρ M) fun v M => ∃ y, v = .int y ∧ Z .nx (ρ.set i (some (.int (x + y)))) M) : XZ (evS Γ (.aug i a) ρ M) Z := by
  show XZ (match ρ[i]? with | some (some (.int a')) => ((evE Γ a ρ M).st fun v M => match v with | .int b => .ok .nx (ρ.set i (some (.int (a' + b)))) M | _ => .stuck) | _ => .stuck) Z
  rw [h0]
  exact XR.st (h.imp fun v M ⟨y, e, q⟩ => by subst e; exact ⟨_, _, _, rfl, q⟩)
theorem z_expr (h : XR (evE Γ a ρ M) fun _ M => Z .nx ρ M) : XZ (evS Γ (.expr a) ρ M) Z := XR.st (h.imp fun v M q => ⟨.nx, ρ, M, rfl, q⟩)
theorem z_ret (h : XR (evE Γ a ρ M) fun v M => Z (.rt v) ρ M) : XZ (evS Γ (.ret a) ρ M) Z := XR.st (h.imp fun v M q => ⟨.rt v, ρ, M, rfl, q⟩)
theorem z_if {s1 s2 : List S} (h : XR (evT Γ a ρ M) fun d M => (d = true → XZ (evSs Γ s1 ρ M) Z) ∧ (d = false → XZ (evSs Γ s2 ρ M) Z)) : XZ (evS Γ (.ite a s1 s2) ρ M) Z := XR.st (h.imp fun d M ⟨q1, q2⟩ => by
  cases d with
  | true => exact q1 rfl
  | false => exact q2 rfl)
theorem z_for {k : IK} {its : List E} {t : T} {body : List S} (h : XR (evEs Γ its ρ M) fun vs M => ∃ src len, srcOf k vs M = some src ∧ src.len M = some len ∧ ∃ I : Nat → Env → Mem → Prop, I 0 ρ M ∧
    (∀ i ρ M, i < len → I i ρ M → ∃ v ρ', src.at M len i = some v ∧ asgT M t v ρ = some ρ' ∧ XZ (evSs Γ body ρ' M) fun f ρ M => match f with | .nx => I (i + 1) ρ M | .ct => I (i + 1) ρ M | .bk => Z .nx ρ M | .rt v => Z (.rt v) ρ M) ∧
    ∀ ρ M, I len ρ M → src.len M = some len ∧ Z .nx ρ M) : XZ (evS Γ (.for k its t body) ρ M) Z := XR.st (h.imp fun vs M ⟨src, len, e1, e2, I, h0, hs, hd⟩ => by
  rw [e1]
  dsimp only
  rw [e2]
  dsimp only
  have go : ∀ (n : Nat) (ρ : Env) (M : Mem), n ≤ len → I (len - n) ρ M → XZ (forL (fun ρ M => evSs Γ body ρ M) src t len n ρ M) Z := by
    intro n
    induction n with
    | zero =>
      intro ρ M _ hI
      obtain ⟨e3, q⟩ := hd ρ M hI
      unfold forL
      rw [if_pos e3]
      exact ⟨_, _, _, rfl, q⟩
    | succ n ih =>
      intro ρ M hn hI
      obtain ⟨v, ρ', g1, g2, f, ρ2, M2, g3, g4⟩ := hs (len - (n + 1)) ρ M (by omega) hI
      have e5 : len - (n + 1) + 1 = len - n := by omega
      unfold forL
      rw [g1]
      dsimp only
      rw [g2]
      dsimp only
      rw [g3]
      cases f with
      | nx => exact ih ρ2 M2 (by omega) (by rw [← e5]; exact g4)
      | ct => exact ih ρ2 M2 (by omega) (by rw [← e5]; exact g4)
      | bk => exact ⟨_, _, _, rfl, g4⟩
      | rt w => exact ⟨_, _, _, rfl, g4⟩
  exact go len ρ M (Nat.le_refl _) (by rw [Nat.sub_self]; exact h0))
theorem z_ct (q : Z .ct ρ M) : XZ (evS Γ .cnt ρ M) Z := ⟨_, _, _, rfl, q⟩
theorem z_bk (q : Z .bk ρ M) : XZ (evS Γ .brk ρ M) Z := ⟨_, _, _, rfl, q⟩
/-- a def's body -/
theorem x_body {fd : FD} {us : List Val} {Q : Val → Mem → Prop} (h : XZ (evSs Γ fd.body (startE fd.n us) M) fun f _ M => match f with | .nx => Q .non M | .rt v => Q v M | _ => False) : XR (runB Γ fd us M) Q := by
  obtain ⟨f, ρ, M1, e, q⟩ := h
  unfold runB
  rw [e]
  cases f with
  | nx => exact ⟨_, _, rfl, q⟩
  | rt v => exact ⟨_, _, rfl, q⟩
  | bk => exact q.elim
  | ct => exact q.elim
/-! ### operators -/
theorem o_add {i j : Int} (q : Q (.int (i + j)) M) : XR (binop .Add (.int i) (.int j) M) Q := .ok q
theorem o_sub {i j : Int} (q : Q (.int (i - j)) M) : XR (binop .Sub (.int i) (.int j) M) Q := .ok q
theorem o_mul {i j : Int} (h : (-(2 ^ 64) < i ∧ i < 2 ^ 64) ∨ (-(2 ^ 64) < j ∧ j < 2 ^ 64)) (q : Q (.int (i * j)) M) : XR (binop .Mult (.int i) (.int j) M) Q := .of (by show chk (decide _) _ = _; rw [decide_eq_true h]; rfl) q
theorem o_mod {i j : Int} (h : 0 < j) (q : Q (.int (i % j)) M) : XR (binop .Mod (.int i) (.int j) M) Q := .of (by show chk (decide _) _ = _; rw [decide_eq_true h]; rfl) q
theorem o_div {i j : Int} (h : 0 < j) (h2 : j < 1073741824) (q : Q (.int (i / j)) M) : XR (binop .FloorDiv (.int i) (.int j) M) Q := .of (by show chk (decide _) _ = _; rw [decide_eq_true ⟨h, h2⟩]; rfl) q
theorem o_pow {i j : Int} (h : 0 ≤ j ∧ j ≤ 1000000 ∧ i.natAbs < 2 ^ 64) (q : Q (.int (i ^ j.toNat)) M) : XR (binop .Pow (.int i) (.int j) M) Q := .of (by show chk (decide _) _ = _; rw [decide_eq_true h]; rfl) q
theorem ix_nat {i : Int} {n : Nat} (h0 : 0 ≤ i) (h1 : i < n) : ixOf i n = some i.toNat := by unfold ixOf; rw [if_pos h0, if_pos h1]
theorem su_lst {n : Nat} {vs : List Val} {j : Int} {k : Nat} {v : Val} (h : M[n]? = some (.lst vs)) (e : ixOf j vs.length = some k) (e2 : vs[k]? = some v) (q : Q v M) : XR (subs (.ref n) (.int j) M) Q := .of (by
  show (match M[n]? with | some (.lst vs) => ixV vs j M | some (.rol vs) => ixV vs j M | some (.dct kvs) => chk (fits kvs (.int j)) (ofO (dget kvs (.int j)) M) | _ => .stuck) = _
  rw [h]
  show ixV vs j M = _
  unfold ixV
  rw [e]
  show ofO vs[k]? M = _
  rw [e2]; rfl) q
theorem su_tup {vs : List Val} {j : Int} {k : Nat} {v : Val} (e : ixOf j vs.length = some k) (e2 : vs[k]? = some v) (q : Q v M) : XR (subs (.tup vs) (.int j) M) Q := .of (by
  show ixV vs j M = _
  unfold ixV
  rw [e]
  show ofO vs[k]? M = _
  rw [e2]; rfl) q
theorem st_lst {n : Nat} {vs : List Val} {j : Int} {k : Nat} {v : Val} (h : M[n]? = some (.lst vs)) (e : ixOf j vs.length = some k) : storeI (.ref n) (.int j) v M = some (M.set n (.lst (vs.set k v))) := by
  simp only [storeI, h, e]
end
end Mn
end -- Pl3
section -- Pl4
set_option linter.all false
set_option autoImplicit false
set_option maxRecDepth 100000
namespace Mn
open PySem L2
structure Pen (M : Mem) (p q : Nat) : Prop where
  ex : ∃ (at_ d : Int) (is : List Int), M[p]? = some (.lst [.ref q, .int at_, .int d]) ∧ M[q]? = some (.lst (is.map .int)) ∧ is.length ≤ 63 ∧ 0 ≤ at_
theorem ints_get {is : List Int} {n : Nat} (h : n < is.length) : ∃ i, (is.map Val.int)[n]? = some (.int i) := ⟨is[n], by simp [h]⟩
theorem cmp_nil {M : Mem} {q n : Nat} {is : List Int} (h1 : M[q]? = some (.lst (is.map .int))) (h2 : M[n]? = some (.lst [])) : cmpop .NotEq (.ref q) (.ref n) M = some (!is.isEmpty) := by
  have e1 := data_ints h1
  have e2 : datM M (.ref n) = some (.list []) := data_ints (is := []) h2
  show (veqD M (.ref q) (.ref n)).map (!·) = _
  unfold veqD
  rw [e1, e2]
  dsimp only
  rw [shaped_ints is, show SeqAt.shaped (.list []) = true from rfl]
  cases is <;> rfl
theorem len_ref {M : Mem} {q : Nat} {vs : List Val} (h : M[q]? = some (.lst vs)) {Q : Val → Mem → Prop} (k : Q (.int vs.length) M) : XR (bcall .len [.ref q] M) Q := .of (by
  show ofO ((lenOf M (.ref q)).map fun n => Val.int n) M = _
  simp only [lenOf, h]
  rfl) k
theorem int_int {i : Int} {M : Mem} {Q : Val → Mem → Prop} (k : Q (.int i) M) : XR (bcall .int [.int i] M) Q := .of rfl k
theorem Pen.ne {M : Mem} {p q : Nat} (h : Pen M p q) : p ≠ q := fun e => by
  obtain ⟨a, d, is, h1, h2, _⟩ := h.ex
  subst e
  rw [h1] at h2
  cases is <;> cases h2
theorem Pen.lt {M : Mem} {p q : Nat} (h : Pen M p q) : p < M.length ∧ q < M.length := by
  obtain ⟨a, d, is, h1, h2, _⟩ := h.ex
  exact ⟨get_lt h1, get_lt h2⟩
theorem Pen.fr {M M' : Mem} {p q : Nat} (h : Pen M p q) {S : Nat → Prop} (f : Fr S M M') (hp : ¬ S p) (hq : ¬ S q) : Pen M' p q := by
  obtain ⟨a, d, is, h1, h2, h3, h4⟩ := h.ex
  exact ⟨a, d, is, f.get h1 hp, f.get h2 hq, h3, h4⟩
theorem Pen.app {M : Mem} {p q : Nat} (h : Pen M p q) (l : List Obj) : Pen (M ++ l) p q := h.fr (S := fun _ => False) (.app l) (fun z => z) fun z => z
theorem datsM_ints {M : Mem} {is : List Int} : datsM M (is.map .int) = some (is.map .int) := dats_ints _ is
theorem vin_ints {M : Mem} {c : Int} {is : List Int} : vin M (.int c) (is.map .int) = some (decide (c ∈ is)) := by
  unfold vin
  rw [datsM_ints]
  show (if SeqAt.shaped (.int c) && SeqAt.shaped (.list (is.map .int)) then some ((is.map PyData.int).any fun z => PyData.eqv z (.int c)) else none) = _
  rw [shaped_ints is, show SeqAt.shaped (.int c) = true from rfl]
  show some _ = some _
  congr 1
  rw [List.any_map, Bool.eq_iff_iff, List.any_eq_true, decide_eq_true_eq]
  constructor
  · rintro ⟨z, h1, h2⟩
    have e : z = c := by simpa [PyData.eqv] using h2
    subst e; exact h1
  · intro h
    exact ⟨c, h, by simp [PyData.eqv]⟩
theorem vle_ints (i j : Int) : vle (.int i) (.int j) = decide (i ≤ j) := by
  show (!PySem.W.dataLt (.int j) (.int i)) = _
  rw [PySem.W.dataLt_int, Bool.eq_iff_iff]
  simp
theorem sortable_ints (is : List Int) : sortable (is.map .int) = true := by
  unfold sortable
  have h1 : ((is.map PyData.int).all fun d => (is.map PyData.int).all fun e => PySem.W.alike d e) = true := by
    simp only [List.all_eq_true, List.mem_map]
    rintro _ ⟨i, _, rfl⟩ _ ⟨j, _, rfl⟩
    rfl
  have h2 : (is.map PyData.int).all SeqAt.shaped = true := by
    simp only [List.all_eq_true, List.mem_map]
    rintro _ ⟨i, _, rfl⟩
    rfl
  rw [h1, h2]
  refine (Bool.or_eq_true _ _).mpr (.inr (List.all_eq_true.mpr fun d hd => ?_))
  obtain ⟨i, _, rfl⟩ := List.mem_map.mp hd
  rfl
theorem vsort_ints {is : List Int} (h : is.length ≤ sizeLine) : vsort (is.map .int) = some ((is.mergeSort fun a b => decide (a ≤ b)).map .int) := by
  rw [vsort_def]
  rw [dats_ints]
  dsimp only
  rw [sortable_ints, decide_eq_true (by rw [List.length_map]; exact h)]
  show some ((is.map Val.int).mergeSort vle) = _
  rw [List.map_mergeSort (s := vle) (fun a _ b _ => (vle_ints a b).symm)]
/-- sorted(xs) of ints -/
theorem sorted_ints {M : Mem} {q : Nat} {is : List Int} (h : M[q]? = some (.lst (is.map .int))) (hl : is.length ≤ sizeLine) {Q : Val → Mem → Prop} (k : Q (.ref M.length) (M ++ [.lst ((is.mergeSort fun a b => decide (a ≤ b)).map .int)])) : XR (bcall .sorted [.ref q] M) Q := .of (by
  show (match lstOf M (.ref q) with | some vs => (match vsort vs with | some ws => new (.lst ws) M | none => .stuck) | none => .stuck) = _
  simp only [lstOf, h, vsort_ints hl]
  rfl) k
theorem sort_strict {is : List Int} (h : is.Nodup) : (is.mergeSort fun a b => decide (a ≤ b)).Pairwise (· < ·) := by
  have h1 := List.pairwise_mergeSort (le := fun a b : Int => decide (a ≤ b)) (fun a b c => by simp; omega) (fun a b => by simp; omega) is
  have h2 : (is.mergeSort fun a b => decide (a ≤ b)).Nodup := (List.mergeSort_perm is _).nodup_iff.mpr h
  refine (List.Pairwise.and h1 h2).imp ?_
  rintro a b ⟨x, y⟩
  have x : a ≤ b := by simpa using x
  omega
theorem tuple_lst {M : Mem} {q : Nat} {vs : List Val} (h : M[q]? = some (.lst vs)) {Q : Val → Mem → Prop} (k : Q (.tup vs) M) : XR (bcall .tuple [.ref q] M) Q := .of (by
  show (match seqOf M (.ref q) with | some vs => Res.ok (Val.tup vs) M | none => .stuck) = _
  simp only [seqOf, h]) k
theorem append_ok {M : Mem} {q : Nat} {vs : List Val} {v : Val} (h : M[q]? = some (.lst vs)) (hl : vs.length < sizeLine) {Q : Val → Mem → Prop} (k : Q .non (M.set q (.lst (vs ++ [v])))) : XR (bmeth .append (.ref q) [v] M) Q := .of (by
  show (match ownL M (.ref q) with | some p => mList .append p.1 p.2 [v] M | none => .stuck) = _
  simp only [ownL, h]
  show chk (decide (vs.length < sizeLine)) _ = _
  rw [decide_eq_true hl]
  rfl) k
theorem recv_append {M : Mem} {q : Nat} {vs : List Val} (h : M[q]? = some (.lst vs)) : recvOk .append M (.ref q) = true := by
  show (ownL M (.ref q)).isSome = true
  simp only [ownL, h]
  rfl
theorem cin_ref {M : Mem} {q : Nat} {c : Int} {is : List Int} (h : M[q]? = some (.lst (is.map .int))) : cin (.int c) (.ref q) M = some (decide (c ∈ is)) := by
  simp only [cin, h]
  exact vin_ints
end Mn
end -- Pl4
section -- Pl5
set_option linter.all false
set_option autoImplicit false
set_option maxRecDepth 100000
namespace Mn
open PySem L2
/-- nothing that was there is changed -/
abbrev Fr0 := Fr fun _ => False
theorem Fr0.to {S : Nat → Prop} {M M' : Mem} (f : Fr0 M M') : Fr S M M' := f.mono fun _ _ z => z.elim
theorem src_range {n : Int} {M : Mem} (h : -(2 ^ 62) ≤ n ∧ n < 2 ^ 62) : srcOf .range [.int n] M = some (.sq (.im (irange 0 n.toNat))) := by
  show (rangeOf [.int n]).map (fun l => Src.sq (.im l)) = _
  show (if smallI n then some (irange 0 n.toNat) else none).map (fun l => Src.sq (.im l)) = _
  rw [if_pos (show smallI n = true from decide_eq_true h)]; rfl
theorem rng_len {n : Nat} {M : Mem} : (Src.sq (.im (irange 0 n))).len M = some n := by show (some (irange 0 n)).map (·.length) = _; rw [Option.map_some, irange_len]
theorem rng_get {n i : Nat} (h : i < n) : (irange 0 n)[i]? = some (.int i) := by
  rw [irange_eq, List.getElem?_map, List.getElem?_range h]
  show some (Val.int (0 + (i : Nat))) = _
  rw [Int.zero_add]
theorem rng_at {n i len : Nat} {M : Mem} (h : i < n) : (Src.sq (.im (irange 0 n))).at M len i = some (.int i) := rng_get h
def enumL (vs : List Val) : List Val := vs.mapIdx fun i v => .tup [.int i, v]
/-- the items of a source -/
def SrcI (src : Src) (items : List Val) (M : Mem) : Prop := ∀ M', Fr0 M M' → src.len M' = some items.length ∧ ∀ i, i < items.length → src.at M' items.length i = items[i]?
theorem srcI_im {vs : List Val} {M : Mem} : SrcI (.sq (.im vs)) vs M := fun M' _ => ⟨rfl, fun i _ => rfl⟩
theorem srcI_mu {vs : List Val} {M : Mem} {n : Nat} (h : M[n]? = some (.lst vs)) : SrcI (.sq (.mu n)) vs M := fun M' f => by
  have e : (Sq.mu n).get M' = some vs := by simp only [Sq.get, f.get h fun z => z]
  refine ⟨by show ((Sq.mu n).get M').map _ = _; rw [e]; rfl, fun i _ => ?_⟩
  show ((Sq.mu n).get M').bind _ = _
  rw [e]; rfl
theorem enumL_len (vs : List Val) : (enumL vs).length = vs.length := List.length_mapIdx
theorem srcI_enum {vs : List Val} {M : Mem} : SrcI (.enum (.im vs)) (enumL vs) M := fun M' _ => ⟨by rw [enumL_len]; rfl, fun i _ => by
  show (vs[i]?).map _ = _
  unfold enumL
  rw [List.getElem?_mapIdx]⟩
theorem srcI_enumR {vs : List Val} {M : Mem} {n : Nat} (h : M[n]? = some (.lst vs)) : SrcI (.enum (.mu n)) (enumL vs) M := fun M' f => by
  have e : (Sq.mu n).get M' = some vs := by simp only [Sq.get, f.get h fun z => z]
  refine ⟨by rw [enumL_len]; show ((Sq.mu n).get M').map _ = _; rw [e]; rfl, fun i _ => ?_⟩
  show (((Sq.mu n).get M').bind _).map _ = _
  rw [e]
  show (vs[i]?).map _ = _
  unfold enumL
  rw [List.getElem?_mapIdx]
theorem filter_take {α : Type} {xs : List α} {p : α → Bool} {i : Nat} {x : α} (h : xs[i]? = some x) : (xs.take (i + 1)).filter p = (xs.take i).filter p ++ if p x then [x] else [] := by
  rw [List.take_add_one, h, List.filter_append]
  cases e : p x <;> simp [e]
section
variable {Γ : Gam} {ρ : Env} {M : Mem} {Q : Val → Mem → Prop}
/-- a comprehension that changes nothing -/
theorem x_compP {k : IK} {its : List E} {t : T} {own : List Nat} {cs : List E} {elt : E} (h : XR (evEs Γ its ρ M) fun vs M => ∃ src items, srcOf k vs M = some src ∧ SrcI src items M ∧ items.length ≤ sizeLine ∧ ∃ (p : Val → Bool) (g : Val → Val),
    (∀ v ∈ items, ∀ M', Fr0 M M' → ∃ ρ', asgT M' t v (wipeE ρ own) = some ρ' ∧ XR (evC Γ cs ρ' M') fun d M2 => Fr0 M' M2 ∧ d = p v ∧ (d = true → XR (evE Γ elt ρ' M2) fun w M3 => Fr0 M2 M3 ∧ w = g v)) ∧
    ∀ M', Fr0 M M' → Q (.ref M'.length) (M' ++ [.lst ((items.filter p).map g)])) : XR (evE Γ (.comp k its t own cs elt) ρ M) Q := x_comp (h.imp fun vs M ⟨src, items, e1, si, hl, p, g, hs, hd⟩ => by
  refine ⟨src, items.length, e1, (si M .refl).1, hl, fun i acc M' => Fr0 M M' ∧ acc = ((items.take i).filter p).map g, ⟨.refl, rfl⟩, ?_, ?_⟩
  · rintro i acc M' hi ⟨f, rfl⟩
    have hx : items[i]? = some items[i] := List.getElem?_eq_getElem hi
    obtain ⟨ρ', e2, d, M2, e3, f2, e4, r⟩ := hs items[i] (List.getElem_mem hi) M' f
    refine ⟨items[i], ρ', by rw [(si M' f).2 i hi]; exact hx, e2, d, M2, e3, ?_, ?_⟩
    · intro hd'
      obtain ⟨w, M3, e5, f3, e6⟩ := r hd'
      refine ⟨w, M3, e5, (f.trans f2).trans f3, ?_⟩
      rw [filter_take hx, ← e4, hd', e6, List.map_append]
      rfl
    · intro hd'
      refine ⟨f.trans f2, ?_⟩
      rw [filter_take hx, ← e4, hd']
      simp
  · rintro acc M' ⟨f, rfl⟩
    refine ⟨(si M' f).1, ?_⟩
    rw [List.take_length]
    exact hd M' f)
/-- a for whose body goes on -/
theorem z_forI {Z : Fl → Env → Mem → Prop} {k : IK} {its : List E} {t : T} {body : List S} (h : XR (evEs Γ its ρ M) fun vs M => ∃ src items, srcOf k vs M = some src ∧ SrcI src items M ∧ ∃ I : Nat → Env → Mem → Prop, I 0 ρ M ∧
    (∀ i ρ M', I i ρ M' → Fr0 M M') ∧
    (∀ i v ρ M, items[i]? = some v → I i ρ M → ∃ ρ', asgT M t v ρ = some ρ' ∧ XZ (evSs Γ body ρ' M) fun f ρ M => match f with | .nx => I (i + 1) ρ M | .ct => I (i + 1) ρ M | .bk => Z .nx ρ M | .rt v => Z (.rt v) ρ M) ∧
    ∀ ρ M, I items.length ρ M → Z .nx ρ M) : XZ (evS Γ (.for k its t body) ρ M) Z := z_for (h.imp fun vs M ⟨src, items, e1, si, I, h0, hf, hs, hd⟩ => by
  refine ⟨src, items.length, e1, (si M .refl).1, I, h0, ?_, fun ρ M' hI => ⟨(si M' (hf _ _ _ hI)).1, hd ρ M' hI⟩⟩
  intro i ρ M' hi hI
  have hx : items[i]? = some items[i] := List.getElem?_eq_getElem hi
  obtain ⟨ρ', e2, r⟩ := hs i items[i] ρ M' hx hI
  exact ⟨items[i], ρ', by rw [(si M' (hf _ _ _ hI)).2 i hi]; exact hx, e2, r⟩)
end
theorem cut_map {α β : Type} (f : α → β) (xs : List α) (l h : Option Int) : cut (xs.map f) l h = (cut xs l h).map f := by
  unfold cut
  rw [List.length_map, List.map_take, List.map_drop]
theorem cut_len {α : Type} (xs : List α) (l h : Option Int) : (cut xs l h).length ≤ xs.length := by
  unfold cut
  rw [List.length_take, List.length_drop]
  omega
/-- [list(script[:63]), 0, 0] -/
theorem dats_ok (rd : Nat → Option PyData) {vs : List Val} (h : okV (.tup vs)) : dats rd vs = some (dVs vs) := dats_sm rd vs h.1
theorem repr_ref {M : Mem} {n : Nat} {vs : List Val} (h : M[n]? = some (.lst vs)) (ok : okV (.tup vs)) : bcall .repr [.ref n] M = .ok (.str (PyData.list (dVs vs)).shown) M := by
  have e : datM M (.ref n) = some (.list (dVs vs)) := by
    show rdM M 6 n = _
    unfold rdM
    rw [h]
    dsimp only
    rw [dats_ok _ ok]
    rfl
  obtain ⟨a1, a2, a3, a4, a5⟩ := lay_sm _ ok.1
  obtain ⟨_, h2, h3⟩ := ok
  have lay : (PyData.list (dVs vs)).layable0 = true := okV.lay ⟨‹_›, h2, h3⟩
  have l := PyData.shown_le_of_layable0 lay a2
  have sh : shownOk (PyData.list (dVs vs)) = true := by
    unfold shownOk
    rw [show (PyData.list (dVs vs)).showable = true from a3, show SeqAt.shaped (.list (dVs vs)) = true from SeqAt.shaped_of_layable lay, decide_eq_true (by
      have : (PyData.list (dVs vs)).weight = (dV (.tup vs)).weight := rfl
      rw [sizeLine_eq]; omega)]
    rfl
  show (match datM M (.ref n) with | some d => chk (shownOk d) (Res.ok (Val.str d.shown) M) | none => .stuck) = _
  rw [e]
  dsimp only
  rw [sh]
  rfl
theorem ne_self {M : Mem} {s : Str} : cmpop .NotEq (.str s) (.str s) M = some false := by
  show (some (decide (s = s))).map (!·) = _
  rw [decide_eq_true rfl]; rfl
theorem eqI {M : Mem} {a b : Int} : veqD M (.int a) (.int b) = some (decide (a = b)) := by
  show some (PyData.eqv (.int a) (.int b)) = _
  congr 1
end Mn
end -- Pl5
section -- Pl6
set_option linter.all false
set_option autoImplicit false
set_option maxRecDepth 100000
namespace Mn
open PySem L2
theorem glb_cons {x y : Str} {v w : Val} {r : List (Str × Val)} (e : ((y, w) :: r).lookup x = some v) : (x = y ∧ w = v) ∨ r.lookup x = some v := by
  rw [List.lookup_cons] at e
  by_cases h : x = y
  · subst h
    simp at e
    exact .inl ⟨rfl, e⟩
  · have : (x == y) = false := by simpa using h
    rw [this] at e
    exact .inr e
end Mn
end -- Pl6
section -- D_k24
set_option linter.all false
set_option maxRecDepth 100000
namespace Mn
open PySem L2
def n_written_cell : List Str := ["item"]
def f_written_cell : FD := ⟨["item"], [], 1, [.ret (.ite (.cmp .In (.idx (.var 0) (.int 0)) (.tup [.str "do", .str "ask"])) (.idx (.var 0) (.int 1)) .non)]⟩
def n_read_cells : List Str := ["item"]
def f_read_cells : FD := ⟨["item"], [], 1, [.ite (.cmp .Eq (.idx (.var 0) (.int 0)) (.str "do")) [.ret (.idx (.var 0) (.int 2))] [], .ret (.ite (.cmp .Eq (.idx (.var 0) (.int 0)) (.str "send")) (.idx (.var 0) (.int 1)) (.tup []))]⟩
def n_leads : List Str := ["program", "fact", "position", "word", "cell", "item", "found"]
def f_leads : FD := ⟨["program", "fact"], [], 7, [.asg (.tp [.nm 2, .nm 3, .nm 4]) (.var 1), .ite (.cmp .Eq (.var 2) (.bcall .len [.idx (.var 0) (.int 2)])) [.ret (.tup [])] [], .asg (.nm 5) (.idx (.idx (.var 0) (.int 2)) (.var 2)), .ite (.and (.cmp .Eq (.idx (.var 5) (.int 0)) (.str "mark")) (.cmp .Eq (.var 3) (.glob "OPEN"))) [.ret (.tup [])] [], .asg (.nm 6) (.ite (.cmp .Eq (.call "written_cell" [.var 5] [] []) (.var 4)) (.lst []) (.lst [.tup [.bin .Add (.var 2) (.int 1), .var 3, .var 4]])), .ite (.and (.cmp .Eq (.idx (.var 5) (.int 0)) (.str "do")) (.cmp .In (.var 4) (.call "read_cells" [.var 5] [] []))) [.expr (.bmeth .append (.var 6) [.tup [.bin .Add (.var 2) (.int 1), .var 3, .idx (.var 5) (.int 1)]])] [], .ret (.bcall .tuple [.bcall .sorted [.var 6]])]⟩
def n__law_pen : List Str := ["script"]
def f__law_pen : FD := ⟨["script"], [], 1, [.ret (.lst [.bcall .list [.sl (.var 0) .non (.int 63)], .int 0, .int 0])]⟩
def n__law_fresh : List Str := ["pen", "at", "cell", "p", "state", "found", "turn"]
def f__law_fresh : FD := ⟨["pen"], [], 7, [.asg (.nm 1) (.idx (.var 0) (.int 1)), .setIdx (.var 0) (.int 1) (.bin .Add (.var 1) (.int 1)), .asg (.nm 2) (.int 0), .ite (.cmp .NotEq (.idx (.var 0) (.int 0)) (.lst [])) [.asg (.nm 2) (.idx (.idx (.var 0) (.int 0)) (.bin .Mod (.bcall .int [.var 1]) (.bcall .len [.idx (.var 0) (.int 0)])))] [], .ite (.and (.cmp .Lt (.var 1) (.bcall .len [.idx (.var 0) (.int 0)])) (.cmp .GtE (.var 2) (.bin .Pow (.int 10) (.int 18)))) [.ret (.bin .Sub (.var 2) (.bin .Pow (.int 10) (.int 18)))] [], .asg (.nm 3) (.int 2305843009213693951), .asg (.nm 4) (.bin .Mod (.bcall .int [.bin .Add (.bin .Add (.bin .Mult (.var 2) (.int 48271)) (.bin .Mult (.int 40692) (.var 1))) (.int 31)]) (.var 3)), .asg (.nm 5) (.var 4), .for .range [.int 6] (.nm 6) [.asg (.nm 4) (.bin .Mod (.bcall .int [.bin .Add (.bin .Add (.bin .Mult (.var 4) (.var 4)) (.bin .Mult (.bin .Mult (.int 69621) (.bin .Add (.var 6) (.int 1))) (.bin .Add (.var 1) (.int 1)))) (.var 2)]) (.var 3)), .asg (.nm 5) (.bin .Add (.bin .Mult (.var 5) (.var 3)) (.var 4))], .ret (.var 5)]⟩
def n__law_draw : List Str := ["pen", "many", "digit"]
def f__law_draw : FD := ⟨["pen", "many"], [], 3, [.ite (.cmp .Lt (.idx (.var 0) (.int 2)) (.var 1)) [.setIdx (.var 0) (.int 2) (.call "_law_fresh" [.var 0] [] [])] [], .asg (.nm 2) (.bin .Mod (.bcall .int [.idx (.var 0) (.int 2)]) (.var 1)), .setIdx (.var 0) (.int 2) (.bin .FloorDiv (.bcall .int [.idx (.var 0) (.int 2)]) (.var 1)), .ret (.var 2)]⟩
def n__law_cells : List Str := ["pen", "many", "most", "found", "lap", "cell"]
def f__law_cells : FD := ⟨["pen", "many", "most"], [], 6, [.asg (.nm 3) (.lst []), .for .range [.call "_law_draw" [.var 0, .bin .Add (.var 2) (.int 1)] [] []] (.nm 4) [.asg (.nm 5) (.call "_law_draw" [.var 0, .var 1] [] []), .ite (.cmp .NotIn (.var 5) (.var 3)) [.expr (.bmeth .append (.var 3) [.var 5])] []], .ret (.bcall .tuple [.bcall .sorted [.var 3]])]⟩
def n__law_item : List Str := ["pen", "many", "option", "cell", "found"]
def f__law_item : FD := ⟨["pen", "many"], [], 5, [.asg (.tp [.nm 2, .nm 3]) (.tup [.call "_law_draw" [.var 0, .int 9] [] [], .call "_law_draw" [.var 0, .var 1] [] []]), .ite (.cmp .Lt (.var 2) (.int 4)) [.ret (.tup [.str "do", .var 3, .call "_law_cells" [.var 0, .var 1, .int 3] [] []])] [], .ite (.cmp .Eq (.var 2) (.int 4)) [.ret (.tup [.str "ask", .var 3])] [], .ite (.cmp .Lt (.var 2) (.int 7)) [.asg (.nm 4) (.call "_law_cells" [.var 0, .var 1, .int 3] [] []), .ret (.tup [.str "send", .ite (.cmp .NotEq (.var 4) (.tup [])) (.var 4) (.tup [.var 3])])] [], .ret (.tup [.str "mark", .call "_law_cells" [.var 0, .var 1, .var 1] [] []])]⟩
def n__law_program : List Str := ["pen", "kept", "loose", "most", "lap"]
def f__law_program : FD := ⟨["pen", "kept", "loose", "most"], [], 5, [.ite (.cmp .Eq (.bin .Add (.var 1) (.var 2)) (.int 0)) [.asg (.nm 2) (.int 1)] [], .ret (.tup [.var 1, .var 2, .bcall .tuple [.comp .range [.call "_law_draw" [.var 0, .bin .Add (.var 3) (.int 1)] [] []] (.nm 4) [4] [] (.call "_law_item" [.var 0, .bin .Add (.var 1) (.var 2)] [] [])]])]⟩
def n__law_written : List Str := ["item"]
def f__law_written : FD := ⟨["item"], [], 1, [.ret (.ite (.cmp .In (.idx (.var 0) (.int 0)) (.tup [.str "do", .str "ask"])) (.idx (.var 0) (.int 1)) .non)]⟩
def n__law_led : List Str := ["program", "fact", "at", "word", "cell", "item", "found"]
def f__law_led : FD := ⟨["program", "fact"], [], 7, [.asg (.tp [.nm 2, .nm 3, .nm 4]) (.var 1), .ite (.cmp .Eq (.var 2) (.bcall .len [.idx (.var 0) (.int 2)])) [.ret (.tup [])] [], .asg (.nm 5) (.idx (.idx (.var 0) (.int 2)) (.var 2)), .ite (.cmp .Eq (.idx (.var 5) (.int 0)) (.str "mark")) [.ret (.ite (.cmp .Eq (.var 3) (.str "wrong")) (.tup [.tup [.bin .Add (.var 2) (.int 1), .var 3, .var 4]]) (.tup []))] [], .asg (.nm 6) (.ite (.cmp .NotEq (.call "_law_written" [.var 5] [] []) (.var 4)) (.lst [.tup [.bin .Add (.var 2) (.int 1), .var 3, .var 4]]) (.lst [])), .ite (.and (.cmp .Eq (.idx (.var 5) (.int 0)) (.str "do")) (.cmp .In (.var 4) (.idx (.var 5) (.int 2)))) [.expr (.bmeth .append (.var 6) [.tup [.bin .Add (.var 2) (.int 1), .var 3, .idx (.var 5) (.int 1)]])] [], .ret (.bcall .tuple [.bcall .sorted [.var 6]])]⟩
def n_law : List Str := ["script", "pen", "turn", "program", "at", "cell", "word", "fact"]
def f_law : FD := ⟨["script"], [], 8, [.asg (.nm 1) (.call "_law_pen" [.var 0] [] []), .for .range [.bcall .max [.int 1, .bcall .min [.int 4, .bcall .len [.var 0]]]] (.nm 2) [.asg (.nm 3) (.call "_law_program" [.var 1, .call "_law_draw" [.var 1, .int 5] [] [], .call "_law_draw" [.var 1, .int 6] [] [], .int 10] [] []), .for .range [.bin .Add (.bcall .len [.idx (.var 3) (.int 2)]) (.int 1)] (.nm 4) [.for .range [.bin .Add (.idx (.var 3) (.int 0)) (.idx (.var 3) (.int 1))] (.nm 5) [.for .ex [.tup [.str "wrong", .str "open"]] (.nm 6) [.asg (.nm 7) (.tup [.var 4, .var 6, .var 5]), .ite (.cmp .NotEq (.bcall .repr [.call "leads" [.var 3, .var 7] [] []]) (.bcall .repr [.call "_law_led" [.var 3, .var 7] [] []])) [.ret (.bl false)] []]]]], .ret (.bl true)]⟩
def prg : Prg := ⟨[(Str.ofString "written_cell", f_written_cell), (Str.ofString "read_cells", f_read_cells), (Str.ofString "leads", f_leads), (Str.ofString "_law_pen", f__law_pen), (Str.ofString "_law_fresh", f__law_fresh), (Str.ofString "_law_draw", f__law_draw), (Str.ofString "_law_cells", f__law_cells), (Str.ofString "_law_item", f__law_item), (Str.ofString "_law_program", f__law_program), (Str.ofString "_law_written", f__law_written), (Str.ofString "_law_led", f__law_led), (Str.ofString "law", f_law)],
  [(Str.ofString "OPEN", .str "open")],
  [], 1000000⟩
def gt : GT := ⟨[(Str.ofString "written_cell", .fn), (Str.ofString "read_cells", .fn), (Str.ofString "OPEN", .val), (Str.ofString "leads", .fn), (Str.ofString "_law_pen", .fn), (Str.ofString "_law_fresh", .fn), (Str.ofString "_law_draw", .fn), (Str.ofString "_law_cells", .fn), (Str.ofString "_law_item", .fn), (Str.ofString "_law_program", .fn), (Str.ofString "_law_written", .fn), (Str.ofString "_law_led", .fn), (Str.ofString "law", .fn)], [],
  [(Str.ofString "written_cell", 1, []), (Str.ofString "read_cells", 1, []), (Str.ofString "_law_fresh", 1, []), (Str.ofString "_law_draw", 2, []), (Str.ofString "_law_cells", 3, []), (Str.ofString "_law_item", 2, []), (Str.ofString "_law_written", 1, []), (Str.ofString "_law_pen", 1, []), (Str.ofString "_law_program", 4, []), (Str.ofString "leads", 2, []), (Str.ofString "_law_led", 2, [])],
  [],
  [], ["tuple", "len", "sorted", "list", "range", "int", "max", "min", "repr"]⟩
theorem fn_written_cell : prg.fns.lookup (Str.ofString "written_cell") = some f_written_cell := by kernel_rfl
theorem ca_written_cell {k : Nat} {vs : List Val} (h : vs.length = 1) (M : Mem) : callAt prg (k + 1) (Str.ofString "written_cell") vs [] M = runB (gam prg k) f_written_cell vs M := call_eq fn_written_cell h M
theorem fn_read_cells : prg.fns.lookup (Str.ofString "read_cells") = some f_read_cells := by kernel_rfl
theorem ca_read_cells {k : Nat} {vs : List Val} (h : vs.length = 1) (M : Mem) : callAt prg (k + 1) (Str.ofString "read_cells") vs [] M = runB (gam prg k) f_read_cells vs M := call_eq fn_read_cells h M
theorem fn_leads : prg.fns.lookup (Str.ofString "leads") = some f_leads := by kernel_rfl
theorem ca_leads {k : Nat} {vs : List Val} (h : vs.length = 2) (M : Mem) : callAt prg (k + 1) (Str.ofString "leads") vs [] M = runB (gam prg k) f_leads vs M := call_eq fn_leads h M
theorem fn__law_pen : prg.fns.lookup (Str.ofString "_law_pen") = some f__law_pen := by kernel_rfl
theorem ca__law_pen {k : Nat} {vs : List Val} (h : vs.length = 1) (M : Mem) : callAt prg (k + 1) (Str.ofString "_law_pen") vs [] M = runB (gam prg k) f__law_pen vs M := call_eq fn__law_pen h M
theorem fn__law_fresh : prg.fns.lookup (Str.ofString "_law_fresh") = some f__law_fresh := by kernel_rfl
theorem ca__law_fresh {k : Nat} {vs : List Val} (h : vs.length = 1) (M : Mem) : callAt prg (k + 1) (Str.ofString "_law_fresh") vs [] M = runB (gam prg k) f__law_fresh vs M := call_eq fn__law_fresh h M
theorem fn__law_draw : prg.fns.lookup (Str.ofString "_law_draw") = some f__law_draw := by kernel_rfl
theorem ca__law_draw {k : Nat} {vs : List Val} (h : vs.length = 2) (M : Mem) : callAt prg (k + 1) (Str.ofString "_law_draw") vs [] M = runB (gam prg k) f__law_draw vs M := call_eq fn__law_draw h M
theorem fn__law_cells : prg.fns.lookup (Str.ofString "_law_cells") = some f__law_cells := by kernel_rfl
theorem ca__law_cells {k : Nat} {vs : List Val} (h : vs.length = 3) (M : Mem) : callAt prg (k + 1) (Str.ofString "_law_cells") vs [] M = runB (gam prg k) f__law_cells vs M := call_eq fn__law_cells h M
theorem fn__law_item : prg.fns.lookup (Str.ofString "_law_item") = some f__law_item := by kernel_rfl
theorem ca__law_item {k : Nat} {vs : List Val} (h : vs.length = 2) (M : Mem) : callAt prg (k + 1) (Str.ofString "_law_item") vs [] M = runB (gam prg k) f__law_item vs M := call_eq fn__law_item h M
theorem fn__law_program : prg.fns.lookup (Str.ofString "_law_program") = some f__law_program := by kernel_rfl
theorem ca__law_program {k : Nat} {vs : List Val} (h : vs.length = 4) (M : Mem) : callAt prg (k + 1) (Str.ofString "_law_program") vs [] M = runB (gam prg k) f__law_program vs M := call_eq fn__law_program h M
theorem fn__law_written : prg.fns.lookup (Str.ofString "_law_written") = some f__law_written := by kernel_rfl
theorem ca__law_written {k : Nat} {vs : List Val} (h : vs.length = 1) (M : Mem) : callAt prg (k + 1) (Str.ofString "_law_written") vs [] M = runB (gam prg k) f__law_written vs M := call_eq fn__law_written h M
theorem fn__law_led : prg.fns.lookup (Str.ofString "_law_led") = some f__law_led := by kernel_rfl
theorem ca__law_led {k : Nat} {vs : List Val} (h : vs.length = 2) (M : Mem) : callAt prg (k + 1) (Str.ofString "_law_led") vs [] M = runB (gam prg k) f__law_led vs M := call_eq fn__law_led h M
theorem fn_law : prg.fns.lookup (Str.ofString "law") = some f_law := by kernel_rfl
theorem ca_law {k : Nat} {vs : List Val} (h : vs.length = 1) (M : Mem) : callAt prg (k + 1) (Str.ofString "law") vs [] M = runB (gam prg k) f_law vs M := call_eq fn_law h M
end Mn
end -- D_k24
section -- C_k24
set_option linter.all false
set_option maxRecDepth 100000
namespace Mn
open PySem L2
def top (i : Nat) : Stmt := PySem.Challenge.pw_cutrows_k24_facts_led_to.main.body.getD i (.Pass ⟨0, 0, 0, 0⟩)
abbrev s_written_cell : Stmt := top 1
theorem sc_written_cell : FnScope n_written_cell f_written_cell.ps (defScope s_written_cell) := ⟨rfl, rfl, rfl, by decide +kernel, rfl, by decide +kernel, by decide +kernel⟩
theorem cv_written_cell : convB gt ⟨defScope s_written_cell, n_written_cell, fun _ => true⟩ (defBody s_written_cell) = some f_written_cell.body := by kernel_rfl
abbrev s_read_cells : Stmt := top 2
theorem sc_read_cells : FnScope n_read_cells f_read_cells.ps (defScope s_read_cells) := ⟨rfl, rfl, rfl, by decide +kernel, rfl, by decide +kernel, by decide +kernel⟩
theorem cv_read_cells : convB gt ⟨defScope s_read_cells, n_read_cells, fun _ => true⟩ (defBody s_read_cells) = some f_read_cells.body := by kernel_rfl
abbrev s_leads : Stmt := top 5
theorem sc_leads : FnScope n_leads f_leads.ps (defScope s_leads) := ⟨rfl, rfl, rfl, by decide +kernel, rfl, by decide +kernel, by decide +kernel⟩
theorem cv_leads : convB gt ⟨defScope s_leads, n_leads, fun _ => true⟩ (defBody s_leads) = some f_leads.body := by kernel_rfl
abbrev s__law_pen : Stmt := top 7
theorem sc__law_pen : FnScope n__law_pen f__law_pen.ps (defScope s__law_pen) := ⟨rfl, rfl, rfl, by decide +kernel, rfl, by decide +kernel, by decide +kernel⟩
theorem cv__law_pen : convB gt ⟨defScope s__law_pen, n__law_pen, fun _ => true⟩ (defBody s__law_pen) = some f__law_pen.body := by kernel_rfl
abbrev s__law_fresh : Stmt := top 8
theorem sc__law_fresh : FnScope n__law_fresh f__law_fresh.ps (defScope s__law_fresh) := ⟨rfl, rfl, rfl, by decide +kernel, rfl, by decide +kernel, by decide +kernel⟩
theorem cv__law_fresh : convB gt ⟨defScope s__law_fresh, n__law_fresh, fun _ => true⟩ (defBody s__law_fresh) = some f__law_fresh.body := by kernel_rfl
abbrev s__law_draw : Stmt := top 9
theorem sc__law_draw : FnScope n__law_draw f__law_draw.ps (defScope s__law_draw) := ⟨rfl, rfl, rfl, by decide +kernel, rfl, by decide +kernel, by decide +kernel⟩
theorem cv__law_draw : convB gt ⟨defScope s__law_draw, n__law_draw, fun _ => true⟩ (defBody s__law_draw) = some f__law_draw.body := by kernel_rfl
abbrev s__law_cells : Stmt := top 10
theorem sc__law_cells : FnScope n__law_cells f__law_cells.ps (defScope s__law_cells) := ⟨rfl, rfl, rfl, by decide +kernel, rfl, by decide +kernel, by decide +kernel⟩
theorem cv__law_cells : convB gt ⟨defScope s__law_cells, n__law_cells, fun _ => true⟩ (defBody s__law_cells) = some f__law_cells.body := by kernel_rfl
abbrev s__law_item : Stmt := top 11
theorem sc__law_item : FnScope n__law_item f__law_item.ps (defScope s__law_item) := ⟨rfl, rfl, rfl, by decide +kernel, rfl, by decide +kernel, by decide +kernel⟩
theorem cv__law_item : convB gt ⟨defScope s__law_item, n__law_item, fun _ => true⟩ (defBody s__law_item) = some f__law_item.body := by kernel_rfl
abbrev s__law_program : Stmt := top 12
theorem sc__law_program : FnScope n__law_program f__law_program.ps (defScope s__law_program) := ⟨rfl, rfl, rfl, by decide +kernel, rfl, by decide +kernel, by decide +kernel⟩
theorem cv__law_program : convB gt ⟨defScope s__law_program, n__law_program, fun _ => true⟩ (defBody s__law_program) = some f__law_program.body := by kernel_rfl
abbrev s__law_written : Stmt := top 13
theorem sc__law_written : FnScope n__law_written f__law_written.ps (defScope s__law_written) := ⟨rfl, rfl, rfl, by decide +kernel, rfl, by decide +kernel, by decide +kernel⟩
theorem cv__law_written : convB gt ⟨defScope s__law_written, n__law_written, fun _ => true⟩ (defBody s__law_written) = some f__law_written.body := by kernel_rfl
abbrev s__law_led : Stmt := top 14
theorem sc__law_led : FnScope n__law_led f__law_led.ps (defScope s__law_led) := ⟨rfl, rfl, rfl, by decide +kernel, rfl, by decide +kernel, by decide +kernel⟩
theorem cv__law_led : convB gt ⟨defScope s__law_led, n__law_led, fun _ => true⟩ (defBody s__law_led) = some f__law_led.body := by kernel_rfl
abbrev s_law : Stmt := top 15
theorem sc_law : FnScope n_law f_law.ps (defScope s_law) := ⟨rfl, rfl, rfl, by decide +kernel, rfl, by decide +kernel, by decide +kernel⟩
theorem cv_law : convB gt ⟨defScope s_law, n_law, fun _ => true⟩ (defBody s_law) = some f_law.body := by kernel_rfl
end Mn
end -- C_k24
section -- Dx24
set_option linter.all false
set_option autoImplicit false
set_option maxRecDepth 100000
namespace Mn
open PySem L2
theorem fresh_ok {k : Nat} {M : Mem} {p q : Nat} (h : Pen M p q) : ∃ v M', callAt prg (k + 1) (Str.ofString "_law_fresh") [.ref p] [] M = .ok (.int v) M' ∧ Pen M' p q ∧ Fr (· = p) M M' ∧ M'.length = M.length + 1 := by
  obtain ⟨a, d, is, h1, h2, h3, h4⟩ := h.ex
  have hpq := h.ne
  suffices X : XR (runB (gam prg k) f__law_fresh [.ref p] M) fun v M' => (∃ i, v = .int i) ∧ Pen M' p q ∧ Fr (· = p) M M' ∧ M'.length = M.length + 1 by
    obtain ⟨v, M', e, ⟨i, rfl⟩, q2, q3⟩ := X
    exact ⟨i, M', by rw [ca__law_fresh rfl]; exact e, q2, q3⟩
  refine x_body (z_cons (z_asg (x_idx (x_var rfl (x_int (su_lst h1 rfl rfl ⟨_, rfl, ?_⟩))))))
  refine z_cons (z_setI (x_bin (x_var rfl (x_int (o_add (x_var rfl (x_int ⟨_, st_lst (k := 1) h1 rfl, ?_⟩)))))))
  have g1 : (M.set p (.lst ([Val.ref q, .int a, .int d].set 1 (.int (a + 1)))))[p]? = some (.lst [.ref q, .int (a + 1), .int d]) := set_same h1
  have g2 : (M.set p (.lst ([Val.ref q, .int a, .int d].set 1 (.int (a + 1)))))[q]? = some (.lst (is.map .int)) := by rw [List.getElem?_set_ne hpq]; exact h2
  have f1 : Fr (· = p) M (M.set p (.lst ([Val.ref q, .int a, .int d].set 1 (.int (a + 1))))) := Fr.set rfl
  have l1 : (M.set p (.lst ([Val.ref q, .int a, .int d].set 1 (.int (a + 1))))).length = M.length := List.length_set
  generalize M.set p (.lst ([Val.ref q, .int a, .int d].set 1 (.int (a + 1)))) = M1 at g1 g2 f1 l1
  refine z_cons (z_asg (x_int ⟨_, rfl, ?_⟩))
  -- if pen[0] != []: cell = pen[0][int(at) % len(pen[0])]
  refine z_cons (XZ.imp (Q := fun f ρ' M' => f = .nx ∧ ∃ cell : Int, ρ' = [some (.ref p), some (.int a), some (.int cell), none, none, none, none] ∧ M' = M1 ++ [.lst []]) ?_ ?_)
  · refine z_if (x_t (x_cmp (x_idx (x_var rfl (x_int (su_lst g1 rfl rfl (x_lst (x_nil ⟨_, cmp_nil (app_old g2 _) app_new, _, rfl, fun hb => ?_, fun _ => z_nil ⟨rfl, 0, rfl, rfl⟩⟩))))))))
    have hne : 0 < is.length := by cases is with | nil => cases hb | cons _ _ => simp
    have pos : (0 : Int) < ((is.map Val.int).length : Nat) := by rw [List.length_map]; omega
    have g1' := app_old g1 [Obj.lst []]
    have g2' := app_old g2 [Obj.lst []]
    have lt := Int.emod_lt_of_pos a pos
    have nn := Int.emod_nonneg a (Int.ne_of_gt pos)
    obtain ⟨c, hc⟩ := ints_get (is := is) (n := (a % ((is.map Val.int).length : Nat)).toNat) (by rw [List.length_map] at lt ⊢; omega)
    refine z_cons <| z_asg <| x_idx <| x_idx <| x_var rfl <| x_int <| su_lst g1' rfl rfl <| x_bin <| x_bcall <| x_cons <| x_var rfl <| x_nil <| int_int <| x_bcall <| x_cons <| x_idx <| x_var rfl <| x_int <| su_lst g1' rfl rfl <| x_nil <| len_ref g2' <| o_mod pos <| su_lst g2' (ix_nat nn lt) hc ⟨_, rfl, z_nil ⟨rfl, c, rfl, rfl⟩⟩
  rintro f ρ' M' ⟨rfl, cell, rfl, rfl⟩
  have g1' := app_old g1 [Obj.lst []]
  have g2' := app_old g2 [Obj.lst []]
  have f2 : Fr (· = p) M (M1 ++ [Obj.lst []]) := f1.trans (Fr.app _)
  have l2 : (M1 ++ [Obj.lst []]).length = M.length + 1 := by rw [List.length_append, l1]; rfl
  generalize M1 ++ [Obj.lst []] = M2 at g1' g2' f2 l2
  clear g1 g2 f1
  have pen : Pen M2 p q := ⟨a + 1, d, is, g1', g2', h3, by omega⟩
  -- if at < len(pen[0]) and cell >= 10 ** 18: return cell - 10 ** 18
  refine z_cons (XZ.imp (Q := fun f ρ' M' => (∃ i, f = .rt (.int i)) ∧ M2 = M' ∨ f = .nx ∧ ρ' = [some (.ref p), some (.int a), some (.int cell), none, none, none, none] ∧ M2 = M') ?_ ?_)
  · refine z_if <| x_t <| x_and <| x_cmp <| x_var rfl <| x_bcall <| x_cons <| x_idx <| x_var rfl <| x_int <| su_lst g1' rfl rfl <| x_nil <| len_ref g2' ⟨_, rfl, _, rfl, fun _ => ?_, fun e => ⟨_, rfl, fun h => ?_, fun _ => z_nil (.inr ⟨rfl, rfl, rfl⟩)⟩⟩
    · refine x_cmp <| x_var rfl <| x_bin <| x_int <| x_int <| o_pow (by decide) ⟨_, rfl, _, rfl, fun _ => ?_, fun _ => z_nil (.inr ⟨rfl, rfl, rfl⟩)⟩
      exact z_cons <| z_ret <| x_bin <| x_var rfl <| x_bin <| x_int <| x_int <| o_pow (by decide) <| o_sub (.inl ⟨⟨_, rfl⟩, rfl⟩)
    · rw [e] at h; cases h
  rintro f ρ' M' (⟨⟨i, rfl⟩, rfl⟩ | ⟨rfl, rfl, rfl⟩)
  · exact ⟨⟨i, rfl⟩, pen, f2, l2⟩
  -- the state is mixed
  have pos : (0 : Int) < 2305843009213693951 := by decide
  refine z_cons <| z_asg <| x_int ⟨_, rfl, ?_⟩
  refine z_cons <| z_asg <| x_bin <| x_bcall <| x_cons <| x_bin <| x_bin <| x_bin <| x_var rfl <| x_int <| o_mul (.inr (by decide)) <| x_bin <| x_int <| x_var rfl <| o_mul (.inl (by decide)) <| o_add <| x_int <| o_add <| x_nil <| int_int <| x_var rfl <| o_mod pos ⟨_, rfl, ?_⟩
  refine z_cons <| z_asg <| x_var rfl ⟨_, rfl, ?_⟩
  have s0 := Int.emod_nonneg (cell * 48271 + 40692 * a + 31) (Int.ne_of_gt pos)
  have s1 := Int.emod_lt_of_pos (cell * 48271 + 40692 * a + 31) pos
  generalize (cell * 48271 + 40692 * a + 31) % 2305843009213693951 = st at s0 s1
  refine z_cons <| z_for <| x_cons <| x_int <| x_nil ⟨.sq (.im (irange 0 6)), 6, rfl, rfl, fun i ρ M => ∃ (s f : Int) (t : Option Val), 0 ≤ s ∧ s < 2305843009213693951 ∧ ρ = [some (.ref p), some (.int a), some (.int cell), some (.int 2305843009213693951), some (.int s), some (.int f), t] ∧ M = M2, ⟨st, st, none, s0, s1, rfl, rfl⟩, ?_, ?_⟩
  · rintro i ρ M hi ⟨s, f, t, t0, t1, rfl, rfl⟩
    refine ⟨.int i, _, by match i, hi with | 0, _ => rfl | 1, _ => rfl | 2, _ => rfl | 3, _ => rfl | 4, _ => rfl | 5, _ => rfl, rfl, ?_⟩
    refine z_cons <| z_asg <| x_bin <| x_bcall <| x_cons <| x_bin <| x_bin <| x_bin <| x_var rfl <| x_var rfl <| o_mul (.inl (by omega)) <| x_bin <| x_bin <| x_int <| x_bin <| x_var rfl <| x_int <| o_add <| o_mul (.inl (by decide)) <| x_bin <| x_var rfl <| x_int <| o_add <| o_mul (.inl (by omega)) <| o_add <| x_var rfl <| o_add <| x_nil <| int_int <| x_var rfl <| o_mod pos ⟨_, rfl, ?_⟩
    refine z_cons <| z_asg <| x_bin <| x_bin <| x_var rfl <| x_var rfl <| o_mul (.inr (by decide)) <| x_var rfl <| o_add ⟨_, rfl, z_nil ⟨_, _, _, Int.emod_nonneg _ (Int.ne_of_gt pos), Int.emod_lt_of_pos _ pos, rfl, rfl⟩⟩
  · rintro ρ M ⟨s, f, t, t0, t1, rfl, rfl⟩
    exact ⟨rfl, z_cons <| z_ret <| x_var rfl ⟨⟨_, rfl⟩, pen, f2, l2⟩⟩
theorem draw_ok {k : Nat} {M : Mem} {p q : Nat} {many : Int} (h : Pen M p q) (h0 : 0 < many) (h1 : many < 1073741824) : ∃ v M', callAt prg (k + 2) (Str.ofString "_law_draw") [.ref p, .int many] [] M = .ok (.int v) M' ∧ 0 ≤ v ∧ v < many ∧ Pen M' p q ∧ Fr (· = p) M M' := by
  suffices X : XR (runB (gam prg (k + 1)) f__law_draw [.ref p, .int many] M) fun v M' => (∃ i, v = .int i ∧ 0 ≤ i ∧ i < many) ∧ Pen M' p q ∧ Fr (· = p) M M' by
    obtain ⟨v, M', e, ⟨i, rfl, i0, i1⟩, q2, q3⟩ := X
    exact ⟨i, M', by rw [ca__law_draw rfl]; exact e, i0, i1, q2, q3⟩
  obtain ⟨a, d, is, g1, g2, g3, g4⟩ := h.ex
  have hpq := h.ne
  refine x_body <| z_cons <| XZ.imp (Q := fun f ρ' M' => f = .nx ∧ ρ' = [some (.ref p), some (.int many), none] ∧ Pen M' p q ∧ Fr (· = p) M M') ?_ ?_
  · refine z_if <| x_t <| x_cmp <| x_idx <| x_var rfl <| x_int <| su_lst g1 rfl rfl <| x_var rfl ⟨_, rfl, _, rfl, fun _ => ?_, fun _ => z_nil ⟨rfl, rfl, h, .refl⟩⟩
    obtain ⟨v, M1, e1, p1, f1, l1⟩ := fresh_ok (k := k) h
    refine z_cons <| z_setI <| x_call <| x_cons <| x_var rfl <| x_nil <| x_nil <| .of e1 ?_
    obtain ⟨a', d', is', k1, k2, k3, k4⟩ := p1.ex
    exact x_var rfl <| x_int ⟨_, st_lst (k := 2) k1 rfl, z_nil ⟨rfl, rfl, ⟨a', v, is', set_same k1, by rw [List.getElem?_set_ne hpq]; exact k2, k3, k4⟩, f1.trans (.set rfl)⟩⟩
  rintro f ρ' M1 ⟨rfl, rfl, p1, f1⟩
  obtain ⟨a', d', is', k1, k2, k3, k4⟩ := p1.ex
  refine z_cons <| z_asg <| x_bin <| x_bcall <| x_cons <| x_idx <| x_var rfl <| x_int <| su_lst k1 rfl rfl <| x_nil <| int_int <| x_var rfl <| o_mod h0 ⟨_, rfl, ?_⟩
  refine z_cons <| z_setI <| x_bin <| x_bcall <| x_cons <| x_idx <| x_var rfl <| x_int <| su_lst k1 rfl rfl <| x_nil <| int_int <| x_var rfl <| o_div h0 h1 <| x_var rfl <| x_int ⟨_, st_lst (k := 2) k1 rfl, ?_⟩
  exact z_cons <| z_ret <| x_var rfl ⟨⟨_, rfl, Int.emod_nonneg _ (Int.ne_of_gt h0), Int.emod_lt_of_pos _ h0⟩, ⟨a', _, is', set_same k1, by rw [List.getElem?_set_ne hpq]; exact k2, k3, k4⟩, f1.trans (.set rfl)⟩
/-- cells that are drawn -/
def CellsOk (many : Int) (cs : List Int) : Prop := cs.Pairwise (· < ·) ∧ ∀ c ∈ cs, 0 ≤ c ∧ c < many
theorem cells_ok {k : Nat} {M : Mem} {p q : Nat} {many most : Int} (h : Pen M p q) (h0 : 0 < many) (h1 : many < 1000) (h2 : 0 ≤ most) (h3 : most < 1000) :
    ∃ cs M', callAt prg (k + 3) (Str.ofString "_law_cells") [.ref p, .int many, .int most] [] M = .ok (.tup (cs.map .int)) M' ∧ CellsOk many cs ∧ Pen M' p q ∧ Fr (· = p) M M' := by
  suffices X : XR (runB (gam prg (k + 2)) f__law_cells [.ref p, .int many, .int most] M) fun v M' => (∃ cs, v = .tup (cs.map .int) ∧ CellsOk many cs) ∧ Pen M' p q ∧ Fr (· = p) M M' by
    obtain ⟨v, M', e, ⟨cs, rfl, c1⟩, q2, q3⟩ := X
    exact ⟨cs, M', by rw [ca__law_cells rfl]; exact e, c1, q2, q3⟩
  refine x_body <| z_cons <| z_asg <| x_lst <| x_nil ⟨_, rfl, ?_⟩
  have f1 : Fr (· = p) M (M ++ [Obj.lst []]) := .app _
  have p1 : Pen (M ++ [Obj.lst []]) p q := h.app _
  have n0 : p ≠ M.length := Nat.ne_of_lt h.lt.1
  have n1 : q ≠ M.length := Nat.ne_of_lt h.lt.2
  have g1 : (M ++ [Obj.lst ([] : List Val)])[M.length]? = some (.lst (([] : List Int).map .int)) := app_new
  generalize hq : M.length = w at n0 n1 g1
  generalize hM1 : M ++ [Obj.lst []] = M1 at f1 p1 g1
  have hl : M.length ≤ M1.length := f1.1
  refine z_cons <| z_for <| x_cons <| x_call <| x_cons <| x_var rfl <| x_cons <| x_bin <| x_var rfl <| x_int <| o_add <| x_nil <| x_nil ?_
  obtain ⟨n, M2, e1, v0, v1, p2, f2⟩ := draw_ok (k := k) p1 (many := most + 1) (by omega) (by omega)
  refine .of e1 <| x_nil ?_
  have g2 := f2.get g1 (fun s => n0 s.symm)
  refine ⟨.sq (.im (irange 0 n.toNat)), n.toNat, by
      show (rangeOf [.int n]).map (fun l => Src.sq (.im l)) = _
      show (if smallI n then some (irange 0 n.toNat) else none).map (fun l => Src.sq (.im l)) = _
      rw [if_pos (show smallI n = true from decide_eq_true (by omega))]; rfl, by show (some (irange 0 n.toNat)).map (·.length) = _; rw [Option.map_some, irange_len],
    fun i ρ M' => ∃ (cs : List Int) (t u : Option Val), ρ = [some (.ref p), some (.int many), some (.int most), some (.ref w), t, u] ∧ Pen M' p q ∧ M'[w]? = some (.lst (cs.map .int)) ∧ cs.Nodup ∧ (∀ c ∈ cs, 0 ≤ c ∧ c < many) ∧ cs.length ≤ i ∧ Fr (fun m => m = p ∨ m = w) M2 M' ∧ Fr (· = p) M M',
    ⟨[], none, none, rfl, p2, g2, List.nodup_nil, fun _ z => (List.not_mem_nil z).elim, Nat.le_refl _, .refl, f1.trans f2⟩, ?_, ?_⟩
  · rintro i ρ M' hi ⟨cs, t, u, rfl, p3, g3, nd, hc, hlen, f3, f4⟩
    refine ⟨.int (0 + (i : Nat)), _, by
      show (irange 0 n.toNat)[i]? = _
      rw [irange_eq, List.getElem?_map, List.getElem?_range hi]; rfl, rfl, ?_⟩
    obtain ⟨c, M3, e2, c0, c1, p4, f5⟩ := draw_ok (k := k) p3 h0 (by omega)
    refine z_cons <| z_asg <| x_call <| x_cons <| x_var rfl <| x_cons <| x_var rfl <| x_nil <| x_nil <| .of e2 ⟨_, rfl, ?_⟩
    have g4 := f5.get g3 (fun s => n0 s.symm)
    have f6 := f3.trans (f5.mono fun _ _ s => .inl s)
    refine z_cons <| z_if <| x_t <| x_cmp <| x_var rfl <| x_var rfl ⟨!decide (c ∈ cs), by show (cin (.int c) (.ref w) M3).map (!·) = _; rw [cin_ref g4]; rfl, _, rfl, fun hb => ?_, fun _ => z_nil (z_nil ⟨cs, _, _, rfl, p4, g4, nd, hc, by omega, f6, f4.trans f5⟩)⟩
    have hn : c ∉ cs := by simpa using hb
    have lc : (cs.map Val.int).length < sizeLine := by rw [List.length_map, sizeLine_eq]; omega
    refine z_cons <| z_expr <| x_bmeth <| x_var rfl ⟨recv_append g4, x_cons <| x_var rfl <| x_nil <| append_ok g4 lc <| z_nil <| z_nil ⟨cs ++ [c], _, _, rfl, ?_, ?_, ?_, ?_, by simp; omega, f6.trans (.set (.inr rfl)), ?_⟩⟩
    · exact p4.fr (S := (· = w)) (.set rfl) n0 n1
    · rw [set_same g4, List.map_append]; rfl
    · exact List.nodup_append.mpr ⟨nd, by simp, by simp; intro x hx e; subst e; exact hn hx⟩
    · intro z hz
      rcases List.mem_append.mp hz with hz | hz
      · exact hc z hz
      · rw [List.mem_singleton.mp hz]; exact ⟨c0, c1⟩
    · refine ⟨Nat.le_trans f4.1 (Nat.le_trans f5.1 (by simp)), fun m hm s => ?_⟩
      rw [List.getElem?_set_ne (by omega)]
      exact (f4.trans f5).2 m hm s
  · rintro ρ M' ⟨cs, t, u, rfl, p3, g3, nd, hc, hlen, f3, f4⟩
    refine ⟨by show (some (irange 0 n.toNat)).map (·.length) = _; rw [Option.map_some, irange_len], ?_⟩
    refine z_cons <| z_ret <| x_bcall <| x_cons <| x_bcall <| x_cons <| x_var rfl <| x_nil <| sorted_ints g3 (by rw [sizeLine_eq]; omega) <| x_nil <| tuple_lst app_new ⟨⟨_, rfl, sort_strict nd, fun c hm => hc c ((List.mergeSort_perm cs _).mem_iff.mp hm)⟩, p3.app _, f4.trans (.app _)⟩
/-- a drawn item -/
inductive It4 where
  | dod (c : Int) (cs : List Int) | ask (c : Int) | snd (cs : List Int) | mrk (cs : List Int)
def It4.val : It4 → Val
  | .dod c cs => .tup [.str "do", .int c, .tup (cs.map .int)]
  | .ask c => .tup [.str "ask", .int c]
  | .snd cs => .tup [.str "send", .tup (cs.map .int)]
  | .mrk cs => .tup [.str "mark", .tup (cs.map .int)]
def It4.ok (many : Int) : It4 → Prop
  | .dod c cs => (0 ≤ c ∧ c < many) ∧ CellsOk many cs
  | .ask c => 0 ≤ c ∧ c < many
  | .snd cs => CellsOk many cs ∧ cs ≠ []
  | .mrk cs => CellsOk many cs
theorem eqT {M : Mem} {x y : Val} (hx : okV x) (hy : okV y) : veqD M x y = some (PyData.eqv (dV x) (dV y)) := by
  unfold veqD datM
  rw [dat_sm _ x hx.1, dat_sm _ y hy.1]
  dsimp only
  rw [hx.shaped, hy.shaped]
  rfl
theorem ok_ints {many : Int} {cs : List Int} (h : ∀ c ∈ cs, 0 ≤ c ∧ c < many) (hm : many < 1000) (hl : cs.length ≤ 1000) : okV (.tup (cs.map .int)) := by
  refine ⟨smVs_ints fun c hc => ?_, ?_, ?_⟩
  · have := h c hc; omega
  · show dpVs (cs.map .int) + 1 ≤ 60
    rw [dpVs_ints]; decide
  · show szVs (cs.map .int) + 1 ≤ 25000
    rw [szVs_ints]; omega
theorem strict_len {many : Int} {cs : List Int} (h : CellsOk many cs) (h0 : 0 ≤ many) : cs.length ≤ many.toNat := by
  have key : ∀ (l : List Int) (lo : Int), l.Pairwise (· < ·) → (∀ c ∈ l, lo ≤ c ∧ c < many) → lo ≤ many → (l.length : Int) ≤ many - lo := by
    intro l
    induction l with
    | nil => intro lo _ _ h; simp; omega
    | cons a l ih =>
      intro lo hp hc hlo
      rw [List.pairwise_cons] at hp
      have ha := hc a List.mem_cons_self
      have := ih (a + 1) hp.2 (fun c hm => ⟨by have := hp.1 c hm; omega, (hc c (List.mem_cons_of_mem _ hm)).2⟩) (by omega)
      simp only [List.length_cons]
      omega
  have := key cs 0 h.1 h.2 h0
  omega
theorem item_ok {k : Nat} {M : Mem} {p q : Nat} {many : Int} (h : Pen M p q) (h0 : 0 < many) (h1 : many < 1000) :
    ∃ i M', callAt prg (k + 4) (Str.ofString "_law_item") [.ref p, .int many] [] M = .ok (It4.val i) M' ∧ i.ok many ∧ Pen M' p q ∧ Fr (· = p) M M' := by
  suffices X : XR (runB (gam prg (k + 3)) f__law_item [.ref p, .int many] M) fun v M' => (∃ i : It4, v = i.val ∧ i.ok many) ∧ Pen M' p q ∧ Fr (· = p) M M' by
    obtain ⟨v, M', e, ⟨i, rfl, c1⟩, q2, q3⟩ := X
    exact ⟨i, M', by rw [ca__law_item rfl]; exact e, c1, q2, q3⟩
  obtain ⟨o, M1, e1, o0, o1, p1, f1⟩ := draw_ok (k := k + 1) h (many := 9) (by decide) (by decide)
  obtain ⟨c, M2, e2, c0, c1, p2, f2⟩ := draw_ok (k := k + 1) p1 h0 (by omega)
  have f12 := f1.trans f2
  refine x_body <| z_cons <| z_asg <| x_tup <| x_cons <| x_call <| x_cons <| x_var rfl <| x_cons <| x_int <| x_nil <| x_nil <| .of e1 <| x_cons <| x_call <| x_cons <| x_var rfl <| x_cons <| x_var rfl <| x_nil <| x_nil <| .of e2 <| x_nil ⟨_, rfl, ?_⟩
  refine z_cons <| z_if <| x_t <| x_cmp <| x_var rfl <| x_int ⟨_, rfl, _, rfl, fun _ => ?_, fun _ => z_nil ?_⟩
  · obtain ⟨cs, M3, e3, k3, p3, f3⟩ := cells_ok (k := k) p2 h0 h1 (most := 3) (by decide) (by decide)
    exact z_cons <| z_ret <| x_tup <| x_cons <| x_str <| x_cons <| x_var rfl <| x_cons <| x_call <| x_cons <| x_var rfl <| x_cons <| x_var rfl <| x_cons <| x_int <| x_nil <| x_nil <| .of e3 <| x_nil ⟨⟨.dod c cs, rfl, ⟨c0, c1⟩, k3⟩, p3, f12.trans f3⟩
  refine z_cons <| z_if <| x_t <| x_cmp <| x_var rfl <| x_int ⟨_, rfl, _, rfl, fun _ => ?_, fun _ => z_nil ?_⟩
  · exact z_cons <| z_ret <| x_tup <| x_cons <| x_str <| x_cons <| x_var rfl <| x_nil ⟨⟨.ask c, rfl, c0, c1⟩, p2, f12⟩
  refine z_cons <| z_if <| x_t <| x_cmp <| x_var rfl <| x_int ⟨_, rfl, _, rfl, fun _ => ?_, fun _ => z_nil ?_⟩
  · obtain ⟨cs, M3, e3, k3, p3, f3⟩ := cells_ok (k := k) p2 h0 h1 (most := 3) (by decide) (by decide)
    have lc := strict_len k3 (by omega)
    refine z_cons <| z_asg <| x_call <| x_cons <| x_var rfl <| x_cons <| x_var rfl <| x_cons <| x_int <| x_nil <| x_nil <| .of e3 ⟨_, rfl, ?_⟩
    refine z_cons <| z_ret <| x_tup <| x_cons <| x_str <| x_cons <| x_ite <| x_cmp <| x_var rfl <| x_tup <| x_nil ⟨!PyData.eqv (dV (.tup (cs.map .int))) (dV (.tup [])), by
      show (veqD M3 (.tup (cs.map .int)) (.tup [])).map (!·) = _
      rw [eqT (ok_ints k3.2 h1 (by omega)) ⟨rfl, by decide, by decide⟩]; rfl, _, rfl, fun hb => ?_, fun _ => ?_⟩
    · refine x_var rfl <| x_nil ⟨⟨.snd cs, rfl, k3, ?_⟩, p3, f12.trans f3⟩
      intro z; subst z; cases hb
    · exact x_tup <| x_cons <| x_var rfl <| x_nil <| x_nil ⟨⟨.snd [c], rfl, ⟨List.pairwise_singleton _ _, by simp; exact ⟨c0, c1⟩⟩, by simp⟩, p3, f12.trans f3⟩
  · obtain ⟨cs, M3, e3, k3, p3, f3⟩ := cells_ok (k := k) p2 h0 h1 (most := many) (by omega) h1
    exact z_cons <| z_ret <| x_tup <| x_cons <| x_str <| x_cons <| x_call <| x_cons <| x_var rfl <| x_cons <| x_var rfl <| x_cons <| x_var rfl <| x_nil <| x_nil <| .of e3 <| x_nil ⟨⟨.mrk cs, rfl, k3⟩, p3, f12.trans f3⟩
def progV (kept loose : Int) (items : List It4) : Val := .tup [.int kept, .int loose, .tup (items.map It4.val)]
theorem program_ok {k : Nat} {M : Mem} {p q : Nat} {kept loose most : Int} (h : Pen M p q) (h0 : 0 ≤ kept) (h1 : kept < 20) (l0 : 0 ≤ loose) (l1 : loose < 20) (m0 : 0 ≤ most) (m1 : most < 200) :
    ∃ loose' items M', callAt prg (k + 5) (Str.ofString "_law_program") [.ref p, .int kept, .int loose, .int most] [] M = .ok (progV kept loose' items) M' ∧ 0 ≤ loose' ∧ loose' < 20 ∧ (items.length : Int) ≤ most ∧ (∀ i ∈ items, i.ok (kept + loose')) ∧ Pen M' p q ∧ Fr (· = p) M M' := by
  suffices X : XR (runB (gam prg (k + 4)) f__law_program [.ref p, .int kept, .int loose, .int most] M) fun v M' => (∃ (loose' : Int) (items : List It4), v = progV kept loose' items ∧ 0 ≤ loose' ∧ loose' < 20 ∧ (items.length : Int) ≤ most ∧ ∀ i ∈ items, i.ok (kept + loose')) ∧ Pen M' p q ∧ Fr (· = p) M M' by
    obtain ⟨v, M', e, ⟨l, is, rfl, a, b, c, d⟩, q2, q3⟩ := X
    exact ⟨l, is, M', by rw [ca__law_program rfl]; exact e, a, b, c, d, q2, q3⟩
  refine x_body <| z_cons <| XZ.imp (Q := fun f ρ' M' => f = .nx ∧ ∃ l : Int, ρ' = [some (.ref p), some (.int kept), some (.int l), some (.int most), none] ∧ M = M' ∧ 0 ≤ l ∧ l < 20 ∧ 0 < kept + l) ?_ ?_
  · refine z_if <| x_t <| x_cmp <| x_bin <| x_var rfl <| x_var rfl <| o_add <| x_int ⟨decide (kept + loose = 0), by
      show veqD M (.int _) (.int _) = _
      exact eqI, _, rfl, fun hb => ?_, fun hb => z_nil ⟨rfl, loose, rfl, rfl, l0, l1, ?_⟩⟩
    · exact z_cons <| z_asg <| x_int ⟨_, rfl, z_nil ⟨rfl, 1, rfl, rfl, by decide, by decide, by omega⟩⟩
    · have := of_decide_eq_false hb; omega
  rintro f ρ' M' ⟨rfl, l, rfl, rfl, a0, a1, a2⟩
  obtain ⟨n, M1, e1, n0, n1, p1, f1⟩ := draw_ok (k := k + 2) h (many := most + 1) (by omega) (by omega)
  refine z_cons <| z_ret <| x_tup <| x_cons <| x_var rfl <| x_cons <| x_var rfl <| x_cons <| x_bcall <| x_cons <| x_comp <| x_cons <| x_call <| x_cons <| x_var rfl <| x_cons <| x_bin <| x_var rfl <| x_int <| o_add <| x_nil <| x_nil <| .of e1 <| x_nil ?_
  refine ⟨_, n.toNat, src_range (by omega), rng_len, by rw [sizeLine_eq]; omega, fun i acc M' => ∃ items : List It4, acc = items.map It4.val ∧ items.length = i ∧ (∀ i ∈ items, i.ok (kept + l)) ∧ Pen M' p q ∧ Fr (· = p) M M', ⟨[], rfl, rfl, fun _ z => (List.not_mem_nil z).elim, p1, f1⟩, ?_, ?_⟩
  · rintro i acc M' hi ⟨items, rfl, e2, ho, p2, f2⟩
    refine ⟨_, _, rng_at hi, rfl, x_c0 ⟨fun _ => ?_, fun z => by cases z⟩⟩
    obtain ⟨it, M2, e3, o3, p3, f3⟩ := item_ok (k := k) p2 (many := kept + l) (by omega) (by omega)
    refine x_call <| x_cons <| x_var rfl <| x_cons <| x_bin <| x_var rfl <| x_var rfl <| o_add <| x_nil <| x_nil <| .of e3 ⟨items ++ [it], by simp, by simp; omega, ?_, p3, f2.trans f3⟩
    intro z hz
    rcases List.mem_append.mp hz with hz | hz
    · exact ho z hz
    · rw [List.mem_singleton.mp hz]; exact o3
  · rintro acc M' ⟨items, rfl, e2, ho, p2, f2⟩
    exact ⟨rng_len, x_nil <| tuple_lst app_new <| x_nil ⟨⟨l, items, rfl, a0, a1, by omega, ho⟩, p2.app _, f2.trans (.app _)⟩⟩
theorem pen_ok {k : Nat} {ns : List Int} (h : ns.length ≤ 63) : ∃ p q M', callAt prg (k + 1) (Str.ofString "_law_pen") [.ref 0] [] [.rol (ns.map .int)] = .ok (.ref p) M' ∧ Pen M' p q := by
  suffices X : XR (runB (gam prg k) f__law_pen [.ref 0] [.rol (ns.map .int)]) fun v M' => ∃ p q, v = .ref p ∧ Pen M' p q by
    obtain ⟨v, M', e, p, q, rfl, q2⟩ := X
    exact ⟨p, q, M', by rw [ca__law_pen rfl]; exact e, q2⟩
  refine x_body <| z_cons <| z_ret <| x_lst <| x_cons <| x_bcall <| x_cons <| x_sl <| x_var rfl <| .of (x := (none : Option Int)) (M' := [.rol (ns.map .int)]) rfl <| .of (x := some 63) (M' := [.rol (ns.map .int)]) rfl <| .of (x := .ref 1) (M' := [.rol (ns.map .int), .lst (cut (ns.map .int) none (some 63))]) rfl <| x_nil <| .of (x := .ref 2) (M' := [.rol (ns.map .int), .lst (cut (ns.map .int) none (some 63)), .lst (cut (ns.map .int) none (some 63))]) rfl <| x_cons <| x_int <| x_cons <| x_int <| x_nil ?_
  exact ⟨3, 2, rfl, ⟨0, 0, cut ns none (some 63), rfl, by rw [cut_map]; rfl, Nat.le_trans (cut_len _ _ _) h, by decide⟩⟩
def It4.written : It4 → Val
  | .dod c _ => .int c
  | .ask c => .int c
  | _ => .non
def It4.read : It4 → Val
  | .dod _ cs => .tup (cs.map .int)
  | .snd cs => .tup (cs.map .int)
  | _ => .tup []
theorem written_ok {k : Nat} {i : It4} {M : Mem} : callAt prg (k + 1) (Str.ofString "written_cell") [i.val] [] M = .ok i.written M := by
  rw [ca_written_cell rfl]
  cases i <;> kernel_rfl
theorem written_ok' {k : Nat} {i : It4} {M : Mem} : callAt prg (k + 1) (Str.ofString "_law_written") [i.val] [] M = .ok i.written M := by
  rw [ca__law_written rfl]
  cases i <;> kernel_rfl
theorem read_ok {k : Nat} {i : It4} {M : Mem} : callAt prg (k + 1) (Str.ofString "read_cells") [i.val] [] M = .ok i.read M := by
  rw [ca_read_cells rfl]
  cases i <;> kernel_rfl
theorem nil_okV : okV (.tup []) := ⟨rfl, by decide, by decide⟩
theorem non_okV : okV .non := ⟨rfl, by decide, by decide⟩
theorem ints_small {many : Int} {cs : List Int} (h : CellsOk many cs) (h0 : 0 ≤ many) (h1 : many < 40) : smVs (cs.map .int) = true ∧ szVs (cs.map .int) ≤ 40 ∧ dpVs (cs.map .int) = 0 :=
  ⟨smVs_ints fun c hc => by have := h.2 c hc; omega, by rw [szVs_ints]; have := strict_len h h0; omega, dpVs_ints _⟩
theorem sm_int {c : Int} (h0 : 0 ≤ c) (h1 : c < 1000) : smV (.int c) = true := decide_eq_true (by omega)
theorem it_small {i : It4} {many : Int} (h : i.ok many) (h0 : 0 ≤ many) (h1 : many < 40) : smV i.val = true ∧ dpV i.val ≤ 3 ∧ szV i.val ≤ 50 := by
  cases i with
  | dod c cs =>
    obtain ⟨a1, a2, a3⟩ := ints_small h.2 h0 h1
    refine ⟨?_, ?_, ?_⟩
    · show (smV (.str "do") && (smV (.int c) && (smVs (cs.map .int) && true))) = true
      rw [a1, sm_int h.1.1 (by have := h.1.2; omega)]; kernel_rfl
    · show max 0 (max 0 (max (dpVs (cs.map .int) + 1) 0)) + 1 ≤ 3
      rw [a3]; decide
    · show 1 + (1 + (szVs (cs.map .int) + 1 + 0)) + 1 ≤ 50
      omega
  | ask c =>
    refine ⟨?_, by show max 0 (max 0 0) + 1 ≤ 3; decide, by show 1 + (1 + 0) + 1 ≤ 50; decide⟩
    show (smV (.str "ask") && (smV (.int c) && true)) = true
    rw [sm_int h.1 (by have := h.2; omega)]; kernel_rfl
  | snd cs =>
    obtain ⟨a1, a2, a3⟩ := ints_small h.1 h0 h1
    refine ⟨?_, ?_, ?_⟩
    · show (smV (.str "send") && (smVs (cs.map .int) && true)) = true
      rw [a1]; kernel_rfl
    · show max 0 (max (dpVs (cs.map .int) + 1) 0) + 1 ≤ 3
      rw [a3]; decide
    · show 1 + (szVs (cs.map .int) + 1 + 0) + 1 ≤ 50
      omega
  | mrk cs =>
    obtain ⟨a1, a2, a3⟩ := ints_small h h0 h1
    refine ⟨?_, ?_, ?_⟩
    · show (smV (.str "mark") && (smVs (cs.map .int) && true)) = true
      rw [a1]; kernel_rfl
    · show max 0 (max (dpVs (cs.map .int) + 1) 0) + 1 ≤ 3
      rw [a3]; decide
    · show 1 + (szVs (cs.map .int) + 1 + 0) + 1 ≤ 50
      omega
theorem okV_tup {vs : List Val} {c : Nat} (h : ∀ v ∈ vs, smV v = true ∧ dpV v ≤ 50 ∧ szV v ≤ c) (hl : c * vs.length + 1 ≤ 25000) : okV (.tup vs) := by
  refine ⟨smVs_all fun v hv => (h v hv).1, ?_, ?_⟩
  · show dpVs vs + 1 ≤ 60
    have := dpVs_le fun v hv => (h v hv).2.1
    omega
  · show szVs vs + 1 ≤ 25000
    have := szVs_le fun v hv => (h v hv).2.2
    omega
theorem read_okV {i : It4} {many : Int} (h : i.ok many) (h0 : 0 ≤ many) (h1 : many < 40) : okV i.read := by
  have key : ∀ cs, CellsOk many cs → okV (.tup (cs.map .int)) := fun cs h => by
    obtain ⟨a1, a2, a3⟩ := ints_small h h0 h1
    exact ⟨a1, by show dpVs _ + 1 ≤ 60; omega, by show szVs _ + 1 ≤ 25000; omega⟩
  cases i with
  | dod c cs => exact key cs h.2
  | ask c => exact nil_okV
  | snd cs => exact key cs h.1
  | mrk cs => exact nil_okV
theorem written_okV {i : It4} {many : Int} (h : i.ok many) (h1 : many < 40) : okV i.written := by
  cases i with
  | dod c cs => exact ⟨sm_int h.1.1 (by have := h.1.2; omega), by show 0 ≤ 60; decide, by show 1 ≤ 25000; decide⟩
  | ask c => exact ⟨sm_int h.1 (by have := h.2; omega), by show 0 ≤ 60; decide, by show 1 ≤ 25000; decide⟩
  | snd cs => exact non_okV
  | mrk cs => exact non_okV
theorem prog_okV {kept loose : Int} {items : List It4} (h : ∀ i ∈ items, i.ok (kept + loose)) (h0 : 0 ≤ kept) (h1 : kept < 20) (l0 : 0 ≤ loose) (l1 : loose < 20) (hl : items.length ≤ 64) : okV (progV kept loose items) := by
  have a : ∀ v ∈ items.map It4.val, smV v = true ∧ dpV v ≤ 3 ∧ szV v ≤ 50 := fun v hv => by
    obtain ⟨i, hi, rfl⟩ := List.mem_map.mp hv
    exact it_small (h i hi) (by omega) (by omega)
  have b1 := smVs_all fun v hv => (a v hv).1
  have b2 := dpVs_le fun v hv => (a v hv).2.1
  have b3 := szVs_le fun v hv => (a v hv).2.2
  rw [List.length_map] at b3
  refine ⟨?_, ?_, ?_⟩
  · show (smV (.int kept) && (smV (.int loose) && (smVs (items.map It4.val) && true))) = true
    rw [b1, sm_int h0 (by omega), sm_int l0 (by omega)]; rfl
  · show max 0 (max 0 (max (dpVs (items.map It4.val) + 1) 0)) + 1 ≤ 60
    omega
  · show 1 + (1 + (szVs (items.map It4.val) + 1 + 0)) + 1 ≤ 25000
    omega
def fact (n : Int) (w : Str) (c : Int) : Val := .tup [.int n, .str w, .int c]
theorem len_tup {vs : List Val} {M : Mem} {Q : Val → Mem → Prop} (k : Q (.int vs.length) M) : XR (bcall .len [.tup vs] M) Q := .of rfl k
def dfact (x : Int × Str × Int) : PyData := .tuple [.int x.1, .str x.2.1, .int x.2.2]
theorem dats_facts (rd : Nat → Option PyData) : ∀ l : List (Int × Str × Int), dats rd (l.map fun x => fact x.1 x.2.1 x.2.2) = some (l.map dfact)
  | [] => rfl
  | x :: l => by
    show (match dat rd (fact x.1 x.2.1 x.2.2), dats rd (l.map fun x => fact x.1 x.2.1 x.2.2) with | some d, some ds => some (d :: ds) | _, _ => none) = _
    rw [dats_facts rd l]; rfl
theorem sortable_facts {l : List (Int × Str × Int)} (h : ∀ x ∈ l, SeqAt.shaped (dfact x) = true) : sortable (l.map dfact) = true := by
  unfold sortable
  have h1 : ((l.map dfact).all fun d => (l.map dfact).all fun e => PySem.W.alike d e) = true := by
    simp only [List.all_eq_true, List.mem_map]
    rintro _ ⟨i, _, rfl⟩ _ ⟨j, _, rfl⟩
    rfl
  have h2 : (l.map dfact).all SeqAt.shaped = true := by
    simp only [List.all_eq_true, List.mem_map]
    rintro _ ⟨i, hi, rfl⟩
    exact h i hi
  rw [h1, h2]
  refine (Bool.or_eq_true _ _).mpr (.inl (List.all_eq_true.mpr fun d hd => ?_))
  obtain ⟨i, _, rfl⟩ := List.mem_map.mp hd
  rfl
theorem shaped_fact {x : Int × Str × Int} (h : PyData.strOk x.2.1 = true) : SeqAt.shaped (dfact x) = true := by
  show ((true && (PyData.strOk x.2.1 && (true && true))) && decide _) = true
  rw [h]; rfl
theorem sorted_facts {M : Mem} {q : Nat} {l : List (Int × Str × Int)} (h : M[q]? = some (.lst (l.map fun x => fact x.1 x.2.1 x.2.2))) (hs : ∀ x ∈ l, PyData.strOk x.2.1 = true) (hl : l.length ≤ sizeLine) {Q : Val → Mem → Prop}
    (k : Q (.ref M.length) (M ++ [.lst ((l.map fun x => fact x.1 x.2.1 x.2.2).mergeSort vle)])) : XR (bcall .sorted [.ref q] M) Q := .of (by
  show (match lstOf M (.ref q) with | some vs => (match vsort vs with | some ws => new (.lst ws) M | none => .stuck) | none => .stuck) = _
  have e : vsort (l.map fun x => fact x.1 x.2.1 x.2.2) = some ((l.map fun x => fact x.1 x.2.1 x.2.2).mergeSort vle) := by
    rw [vsort_def, dats_facts]
    dsimp only
    rw [sortable_facts fun x hx => shaped_fact (hs x hx), decide_eq_true (by rw [List.length_map]; exact hl)]
    rfl
  simp only [lstOf, h, e]
  rfl) k
end Mn
end -- Dx24
section -- Dy24
set_option linter.all false
set_option autoImplicit false
set_option maxRecDepth 100000
namespace Mn
open PySem L2
/-- the facts that an item leads to, as they are found -/
def ledL (it : It4) (n : Int) (w : Str) (c : Int) : List (Int × Str × Int) :=
  match it with
  | .dod a cs => (if a = c then [] else [(n + 1, w, c)]) ++ (if c ∈ cs then [(n + 1, w, a)] else [])
  | .ask a => if a = c then [] else [(n + 1, w, c)]
  | .snd _ => [(n + 1, w, c)]
  | .mrk _ => if w = "open" then [] else [(n + 1, w, c)]
def ledV (items : List It4) (n : Nat) (w : Str) (c : Int) : List Val := match items[n]? with
  | some it => ((ledL it n w c).map fun x => fact x.1 x.2.1 x.2.2).mergeSort vle
  | none => []
theorem strW {w : Str} (hw : w = "wrong" ∨ w = "open") : PyData.strOk w = true := by
  rcases hw with rfl | rfl <;> kernel_rfl
theorem ledL_w {it : It4} {n : Int} {w : Str} {c : Int} : ∀ x ∈ ledL it n w c, x.2.1 = w := by
  intro x hx
  cases it with
  | dod a cs =>
    have hx : x ∈ (if a = c then [] else [(n + 1, w, c)]) ++ (if c ∈ cs then [(n + 1, w, a)] else []) := hx
    rcases List.mem_append.mp hx with hx | hx
    · split at hx
      · cases hx
      · rw [List.mem_singleton.mp hx]
    · split at hx
      · rw [List.mem_singleton.mp hx]
      · cases hx
  | ask a =>
    have hx : x ∈ (if a = c then [] else [(n + 1, w, c)]) := hx
    split at hx
    · cases hx
    · rw [List.mem_singleton.mp hx]
  | snd cs =>
    have hx : x ∈ [(n + 1, w, c)] := hx
    rw [List.mem_singleton.mp hx]
  | mrk cs =>
    have hx : x ∈ (if w = "open" then [] else [(n + 1, w, c)]) := hx
    split at hx
    · cases hx
    · rw [List.mem_singleton.mp hx]
theorem cmpI {M : Mem} {a b : Int} : cmpop .Eq (.int a) (.int b) M = some (decide (a = b)) := eqI (M := M)
theorem cmpI' {M : Mem} {a b : Int} : cmpop .NotEq (.int a) (.int b) M = some (!decide (a = b)) := by
  show (veqD M (.int a) (.int b)).map (!·) = _
  rw [eqI]; rfl
theorem cmpS {M : Mem} {a b : Str} : cmpop .Eq (.str a) (.str b) M = some (decide (a = b)) := rfl
theorem cmpN {M : Mem} {c : Int} : cmpop .Eq .non (.int c) M = some false := rfl
theorem cmpN' {M : Mem} {c : Int} : cmpop .NotEq .non (.int c) M = some true := rfl
theorem cinT {M : Mem} {c : Int} {is : List Int} : cmpop .In (.int c) (.tup (is.map .int)) M = some (decide (c ∈ is)) := vin_ints
def wordOf : It4 → Str
  | .dod _ _ => "do" | .ask _ => "ask" | .snd _ => "send" | .mrk _ => "mark"
theorem word_at {Γ : Gam} {ρ : Env} {M : Mem} {i : Nat} {it : It4} (h : ρ[i]? = some (some it.val)) {Q : Val → Mem → Prop} (q : Q (.str (wordOf it)) M) : XR (evE Γ (.idx (.var i) (.int 0)) ρ M) Q := by
  cases it <;> exact x_idx <| x_var h <| x_int <| su_tup (k := 0) rfl rfl q
/-- the end: tuple(sorted(found)) -/
theorem led_end {Γ : Gam} {ρ : Env} {M : Mem} {i q : Nat} {l : List (Int × Str × Int)} (h : ρ[i]? = some (some (.ref q))) (hq : M[q]? = some (.lst (l.map fun x => fact x.1 x.2.1 x.2.2))) (hs : ∀ x ∈ l, PyData.strOk x.2.1 = true) (hl : l.length ≤ 1000) {Z : Fl → Env → Mem → Prop}
    (k : ∀ M', Fr0 M M' → Z (.rt (.tup ((l.map fun x => fact x.1 x.2.1 x.2.2).mergeSort vle))) ρ M') : XZ (evSs Γ [.ret (.bcall .tuple [.bcall .sorted [.var i]])] ρ M) Z :=
  z_cons <| z_ret <| x_bcall <| x_cons <| x_bcall <| x_cons <| x_var h <| x_nil <| sorted_facts hq hs (by rw [sizeLine_eq]; omega) <| x_nil <| tuple_lst app_new <| k _ (.app _)
def It4.isMrk : It4 → Bool
  | .mrk _ => true
  | _ => false
def It4.isDo : It4 → Bool
  | .dod _ _ => true
  | _ => false
theorem cmpM {M : Mem} {it : It4} : cmpop .Eq (.str (wordOf it)) (.str "mark") M = some it.isMrk := by cases it <;> kernel_rfl
theorem cmpDo {M : Mem} {it : It4} : cmpop .Eq (.str (wordOf it)) (.str "do") M = some it.isDo := by cases it <;> kernel_rfl
theorem ledL_d {a : Int} {cs : List Int} {n : Int} {w : Str} {c : Int} : ledL (.dod a cs) n w c = (if a = c then [] else [(n + 1, w, c)]) ++ (if c ∈ cs then [(n + 1, w, a)] else []) := rfl
theorem ledL_a {a : Int} {n : Int} {w : Str} {c : Int} : ledL (.ask a) n w c = if a = c then [] else [(n + 1, w, c)] := rfl
theorem ledL_m {cs : List Int} {n : Int} {w : Str} {c : Int} : ledL (.mrk cs) n w c = if w = "open" then [] else [(n + 1, w, c)] := rfl
end Mn
end -- Dy24
section -- Dz24
set_option linter.all false
set_option autoImplicit false
set_option maxRecDepth 100000
namespace Mn
open PySem L2
theorem leads_ok {k : Nat} {kept loose c : Int} {items : List It4} {n : Nat} {w : Str} {M : Mem} (hn : n ≤ items.length) (hw : w = "wrong" ∨ w = "open") :
    ∃ M', callAt prg (k + 2) (Str.ofString "leads") [progV kept loose items, fact n w c] [] M = .ok (.tup (ledV items n w c)) M' ∧ Fr0 M M' := by
  suffices X : XR (runB (gam prg (k + 1)) f_leads [progV kept loose items, fact n w c] M) fun v M' => v = .tup (ledV items n w c) ∧ Fr0 M M' by
    obtain ⟨v, M', e, rfl, q⟩ := X
    exact ⟨M', by rw [ca_leads rfl]; exact e, q⟩
  refine x_body <| z_cons <| z_asg <| x_var rfl ⟨_, rfl, ?_⟩
  refine z_cons <| z_if <| x_t <| x_cmp <| x_var rfl <| x_bcall <| x_cons <| x_idx <| x_var rfl <| x_int <| su_tup (k := 2) rfl rfl <| x_nil <| len_tup ⟨_, cmpI, _, rfl, fun hb => ?_, fun hb => z_nil ?_⟩
  · have e : n = items.length := by have := of_decide_eq_true hb; rw [List.length_map] at this; omega
    refine z_cons <| z_ret <| x_tup <| x_nil ⟨?_, .refl⟩
    unfold ledV
    rw [List.getElem?_eq_none (by omega)]
  have hlt : n < items.length := by have := of_decide_eq_false hb; rw [List.length_map] at this; omega
  obtain ⟨it, hit⟩ : ∃ it, items[n]? = some it := ⟨items[n], List.getElem?_eq_getElem hlt⟩
  have e0 : ledV items n w c = ((ledL it n w c).map fun x => fact x.1 x.2.1 x.2.2).mergeSort vle := by unfold ledV; rw [hit]
  rw [e0]
  have hit' : (items.map It4.val)[((n : Int)).toNat]? = some it.val := by rw [List.getElem?_map, Int.toNat_natCast, hit]; rfl
  refine z_cons <| z_asg <| x_idx <| x_idx <| x_var rfl <| x_int <| su_tup (k := 2) rfl rfl <| x_var rfl <| su_tup (ix_nat (by omega) (by rw [List.length_map]; omega)) hit' ⟨_, rfl, ?_⟩
  have ss := ledL_w (it := it) (n := n) (w := w) (c := c)
  have hs : ∀ x ∈ ledL it n w c, PyData.strOk x.2.1 = true := fun x hx => by rw [ss x hx]; exact strW hw
  cases it with
  | mrk cs =>
    refine z_cons <| XZ.imp (Q := fun f ρ' M' => M' = M ∧ (w = "open" ∧ f = .rt (.tup []) ∨ w ≠ "open" ∧ f = .nx ∧ ρ' = [some (progV kept loose items), some (fact n w c), some (.int n), some (.str w), some (.int c), some (It4.mrk cs).val, none])) ?_ ?_
    · refine z_if <| x_t <| x_and <| x_cmp <| word_at (it := .mrk cs) rfl <| x_str ⟨_, cmpM, _, rfl, fun _ => ?_, fun h => by cases h⟩
      exact x_cmp <| x_var rfl <| x_glob rfl ⟨_, cmpS, _, rfl, fun hb => z_cons <| z_ret <| x_tup <| x_nil ⟨rfl, .inl ⟨of_decide_eq_true hb, rfl⟩⟩, fun hb => z_nil ⟨rfl, .inr ⟨of_decide_eq_false hb, rfl, rfl⟩⟩⟩
    rintro f ρ' M' ⟨rfl, ⟨hw', rfl⟩ | ⟨hw', rfl, rfl⟩⟩
    · refine ⟨?_, .refl⟩
      show Val.tup [] = _
      rw [ledL_m]
      rw [if_pos hw']; simp
    refine z_cons <| z_asg <| x_ite <| x_cmp <| x_call <| x_cons <| x_var rfl <| x_nil <| x_nil <| .of (written_ok (k := k)) <| x_var rfl ⟨_, cmpN, _, rfl, (fun h => by cases h), fun _ => ?_⟩
    refine x_lst <| x_cons <| x_tup <| x_cons <| x_bin <| x_var rfl <| x_int <| o_add <| x_cons <| x_var rfl <| x_cons <| x_var rfl <| x_nil <| x_nil ⟨_, rfl, ?_⟩
    refine z_cons <| z_if <| x_t <| x_and <| x_cmp <| word_at (it := .mrk cs) rfl <| x_str ⟨_, cmpDo, _, rfl, (fun h => by cases h), fun _ => ⟨_, rfl, (fun h => by cases h), fun _ => z_nil ?_⟩⟩
    refine led_end (l := ledL (.mrk cs) n w c) rfl (by rw [ledL_m]; rw [if_neg hw']; exact app_new) hs (by rw [ledL_m]; rw [if_neg hw']; exact (by decide : 1 ≤ 1000)) fun M2 f2 => ⟨rfl, (Fr.app _).trans f2⟩
  | snd cs =>
    refine z_cons <| z_if <| x_t <| x_and <| x_cmp <| word_at (it := .snd cs) rfl <| x_str ⟨_, cmpM, _, rfl, (fun h => by cases h), fun _ => ⟨_, rfl, (fun h => by cases h), fun _ => z_nil ?_⟩⟩
    refine z_cons <| z_asg <| x_ite <| x_cmp <| x_call <| x_cons <| x_var rfl <| x_nil <| x_nil <| .of (written_ok (k := k)) <| x_var rfl ⟨_, cmpN, _, rfl, (fun h => by cases h), fun _ => ?_⟩
    refine x_lst <| x_cons <| x_tup <| x_cons <| x_bin <| x_var rfl <| x_int <| o_add <| x_cons <| x_var rfl <| x_cons <| x_var rfl <| x_nil <| x_nil ⟨_, rfl, ?_⟩
    refine z_cons <| z_if <| x_t <| x_and <| x_cmp <| word_at (it := .snd cs) rfl <| x_str ⟨_, cmpDo, _, rfl, (fun h => by cases h), fun _ => ⟨_, rfl, (fun h => by cases h), fun _ => z_nil ?_⟩⟩
    exact led_end (l := ledL (.snd cs) n w c) rfl app_new hs (by show 1 ≤ 1000; decide) fun M2 f2 => ⟨rfl, (Fr.app _).trans f2⟩
  | ask a =>
    refine z_cons <| z_if <| x_t <| x_and <| x_cmp <| word_at (it := .ask a) rfl <| x_str ⟨_, cmpM, _, rfl, (fun h => by cases h), fun _ => ⟨_, rfl, (fun h => by cases h), fun _ => z_nil ?_⟩⟩
    refine z_cons <| XZ.imp (Q := fun f ρ' M' => f = .nx ∧ ρ' = [some (progV kept loose items), some (fact n w c), some (.int n), some (.str w), some (.int c), some (It4.ask a).val, some (.ref M.length)] ∧ M' = M ++ [.lst ((ledL (.ask a) n w c).map fun x => fact x.1 x.2.1 x.2.2)]) ?_ ?_
    · refine z_asg <| x_ite <| x_cmp <| x_call <| x_cons <| x_var rfl <| x_nil <| x_nil <| .of (written_ok (k := k)) <| x_var rfl ⟨_, cmpI, _, rfl, fun hb => ?_, fun hb => ?_⟩
      · exact x_lst <| x_nil ⟨_, rfl, rfl, rfl, by rw [ledL_a]; rw [if_pos (of_decide_eq_true hb)]; rfl⟩
      · exact x_lst <| x_cons <| x_tup <| x_cons <| x_bin <| x_var rfl <| x_int <| o_add <| x_cons <| x_var rfl <| x_cons <| x_var rfl <| x_nil <| x_nil ⟨_, rfl, rfl, rfl, by rw [ledL_a]; rw [if_neg (of_decide_eq_false hb)]; rfl⟩
    rintro f ρ' M' ⟨rfl, rfl, rfl⟩
    refine z_cons <| z_if <| x_t <| x_and <| x_cmp <| word_at (it := .ask a) rfl <| x_str ⟨_, cmpDo, _, rfl, (fun h => by cases h), fun _ => ⟨_, rfl, (fun h => by cases h), fun _ => z_nil ?_⟩⟩
    exact led_end (l := ledL (.ask a) n w c) rfl app_new hs (by rw [ledL_a]; split <;> exact Nat.le_of_ble_eq_true rfl) fun M2 f2 => ⟨rfl, (Fr.app _).trans f2⟩
  | dod a cs =>
    refine z_cons <| z_if <| x_t <| x_and <| x_cmp <| word_at (it := .dod a cs) rfl <| x_str ⟨_, cmpM, _, rfl, (fun h => by cases h), fun _ => ⟨_, rfl, (fun h => by cases h), fun _ => z_nil ?_⟩⟩
    refine z_cons <| XZ.imp (Q := fun f ρ' M' => f = .nx ∧ ρ' = [some (progV kept loose items), some (fact n w c), some (.int n), some (.str w), some (.int c), some (It4.dod a cs).val, some (.ref M.length)] ∧ M' = M ++ [.lst ((if a = c then [] else [((n : Int) + 1, w, c)]).map fun x => fact x.1 x.2.1 x.2.2)]) ?_ ?_
    · refine z_asg <| x_ite <| x_cmp <| x_call <| x_cons <| x_var rfl <| x_nil <| x_nil <| .of (written_ok (k := k)) <| x_var rfl ⟨_, cmpI, _, rfl, fun hb => ?_, fun hb => ?_⟩
      · exact x_lst <| x_nil ⟨_, rfl, rfl, rfl, by rw [if_pos (of_decide_eq_true hb)]; rfl⟩
      · exact x_lst <| x_cons <| x_tup <| x_cons <| x_bin <| x_var rfl <| x_int <| o_add <| x_cons <| x_var rfl <| x_cons <| x_var rfl <| x_nil <| x_nil ⟨_, rfl, rfl, rfl, by rw [if_neg (of_decide_eq_false hb)]; rfl⟩
    rintro f ρ' M' ⟨rfl, rfl, rfl⟩
    have g := app_new (M := M) (o := .lst ((if a = c then [] else [((n : Int) + 1, w, c)]).map fun x => fact x.1 x.2.1 x.2.2))
    have f1 : Fr0 M (M ++ [Obj.lst ((if a = c then [] else [((n : Int) + 1, w, c)]).map fun x => fact x.1 x.2.1 x.2.2)]) := .app _
    refine z_cons <| XZ.imp (Q := fun f ρ' M' => f = .nx ∧ ρ' = [some (progV kept loose items), some (fact n w c), some (.int n), some (.str w), some (.int c), some (It4.dod a cs).val, some (.ref M.length)] ∧ M'[M.length]? = some (.lst ((ledL (.dod a cs) n w c).map fun x => fact x.1 x.2.1 x.2.2)) ∧ Fr0 M M') ?_ ?_
    · refine z_if <| x_t <| x_and <| x_cmp <| word_at (it := .dod a cs) rfl <| x_str ⟨_, cmpDo, _, rfl, fun _ => ?_, fun h => by cases h⟩
      refine x_cmp <| x_var rfl <| x_call <| x_cons <| x_var rfl <| x_nil <| x_nil <| .of (read_ok (k := k) (i := .dod a cs)) ⟨_, cinT, _, rfl, fun hb => ?_, fun hb => z_nil ⟨rfl, rfl, ?_, f1⟩⟩
      · refine z_cons <| z_expr <| x_bmeth <| x_var rfl ⟨recv_append g, x_cons <| x_tup <| x_cons <| x_bin <| x_var rfl <| x_int <| o_add <| x_cons <| x_var rfl <| x_cons <| x_idx <| x_var rfl <| x_int <| su_tup (k := 1) rfl rfl <| x_nil <| x_nil <| append_ok g (by rw [List.length_map, sizeLine_eq]; split <;> (simp only [List.length_nil, List.length_cons]; omega)) <| z_nil ⟨rfl, rfl, ?_, ?_⟩⟩
        · rw [set_same g]
          rw [ledL_d]
          rw [if_pos (of_decide_eq_true hb), List.map_append]; rfl
        · exact ⟨by simp, fun m hm _ => by rw [List.getElem?_set_ne (by omega), List.getElem?_append_left hm]⟩
      · rw [g]
        rw [ledL_d]
        rw [if_neg (of_decide_eq_false hb), List.append_nil]
    rintro f ρ' M' ⟨rfl, rfl, g2, f2⟩
    exact led_end (l := ledL (.dod a cs) n w c) rfl g2 hs (by rw [ledL_d]; split <;> split <;> exact Nat.le_of_ble_eq_true rfl) fun M2 f3 => ⟨rfl, f2.trans f3⟩
end Mn
end -- Dz24
section -- Dw24
set_option linter.all false
set_option autoImplicit false
set_option maxRecDepth 100000
namespace Mn
open PySem L2
theorem led_ok {k : Nat} {kept loose c : Int} {items : List It4} {n : Nat} {w : Str} {M : Mem} (hn : n ≤ items.length) (hw : w = "wrong" ∨ w = "open") :
    ∃ M', callAt prg (k + 2) (Str.ofString "_law_led") [progV kept loose items, fact n w c] [] M = .ok (.tup (ledV items n w c)) M' ∧ Fr0 M M' := by
  suffices X : XR (runB (gam prg (k + 1)) f__law_led [progV kept loose items, fact n w c] M) fun v M' => v = .tup (ledV items n w c) ∧ Fr0 M M' by
    obtain ⟨v, M', e, rfl, q⟩ := X
    exact ⟨M', by rw [ca__law_led rfl]; exact e, q⟩
  refine x_body <| z_cons <| z_asg <| x_var rfl ⟨_, rfl, ?_⟩
  refine z_cons <| z_if <| x_t <| x_cmp <| x_var rfl <| x_bcall <| x_cons <| x_idx <| x_var rfl <| x_int <| su_tup (k := 2) rfl rfl <| x_nil <| len_tup ⟨_, cmpI, _, rfl, fun hb => ?_, fun hb => z_nil ?_⟩
  · have e : n = items.length := by have := of_decide_eq_true hb; rw [List.length_map] at this; omega
    refine z_cons <| z_ret <| x_tup <| x_nil ⟨?_, .refl⟩
    unfold ledV
    rw [List.getElem?_eq_none (by omega)]
  have hlt : n < items.length := by have := of_decide_eq_false hb; rw [List.length_map] at this; omega
  obtain ⟨it, hit⟩ : ∃ it, items[n]? = some it := ⟨items[n], List.getElem?_eq_getElem hlt⟩
  have e0 : ledV items n w c = ((ledL it n w c).map fun x => fact x.1 x.2.1 x.2.2).mergeSort vle := by unfold ledV; rw [hit]
  rw [e0]
  have hit' : (items.map It4.val)[((n : Int)).toNat]? = some it.val := by rw [List.getElem?_map, Int.toNat_natCast, hit]; rfl
  refine z_cons <| z_asg <| x_idx <| x_idx <| x_var rfl <| x_int <| su_tup (k := 2) rfl rfl <| x_var rfl <| su_tup (ix_nat (by omega) (by rw [List.length_map]; omega)) hit' ⟨_, rfl, ?_⟩
  have ss := ledL_w (it := it) (n := n) (w := w) (c := c)
  have hs : ∀ x ∈ ledL it n w c, PyData.strOk x.2.1 = true := fun x hx => by rw [ss x hx]; exact strW hw
  cases it with
  | mrk cs =>
    refine z_cons <| z_if <| x_t <| x_cmp <| word_at (it := .mrk cs) rfl <| x_str ⟨_, cmpM, _, rfl, fun _ => ?_, fun h => by cases h⟩
    refine z_cons <| z_ret <| x_ite <| x_cmp <| x_var rfl <| x_str ⟨_, cmpS, _, rfl, fun hb => ?_, fun hb => ?_⟩
    · have hb := of_decide_eq_true hb
      refine x_tup <| x_cons <| x_tup <| x_cons <| x_bin <| x_var rfl <| x_int <| o_add <| x_cons <| x_var rfl <| x_cons <| x_var rfl <| x_nil <| x_nil ⟨?_, .refl⟩
      rw [ledL_m, if_neg (by subst hb; decide +kernel)]
      show _ = Val.tup ([fact (n + 1) w c].mergeSort vle)
      rw [List.mergeSort_singleton]; rfl
    · have hb := of_decide_eq_false hb
      refine x_tup <| x_nil ⟨?_, .refl⟩
      rw [ledL_m, if_pos (hw.resolve_left hb)]
      show _ = Val.tup ([].mergeSort vle)
      rw [List.mergeSort_nil]
  | snd cs =>
    refine z_cons <| z_if <| x_t <| x_cmp <| word_at (it := .snd cs) rfl <| x_str ⟨_, cmpM, _, rfl, (fun h => by cases h), fun _ => z_nil ?_⟩
    refine z_cons <| z_asg <| x_ite <| x_cmp <| x_call <| x_cons <| x_var rfl <| x_nil <| x_nil <| .of (written_ok' (k := k)) <| x_var rfl ⟨_, cmpN', _, rfl, fun _ => ?_, fun h => by cases h⟩
    refine x_lst <| x_cons <| x_tup <| x_cons <| x_bin <| x_var rfl <| x_int <| o_add <| x_cons <| x_var rfl <| x_cons <| x_var rfl <| x_nil <| x_nil ⟨_, rfl, ?_⟩
    refine z_cons <| z_if <| x_t <| x_and <| x_cmp <| word_at (it := .snd cs) rfl <| x_str ⟨_, cmpDo, _, rfl, (fun h => by cases h), fun _ => ⟨_, rfl, (fun h => by cases h), fun _ => z_nil ?_⟩⟩
    exact led_end (l := ledL (.snd cs) n w c) rfl app_new hs (by show 1 ≤ 1000; decide) fun M2 f2 => ⟨rfl, (Fr.app _).trans f2⟩
  | ask a =>
    refine z_cons <| z_if <| x_t <| x_cmp <| word_at (it := .ask a) rfl <| x_str ⟨_, cmpM, _, rfl, (fun h => by cases h), fun _ => z_nil ?_⟩
    refine z_cons <| XZ.imp (Q := fun f ρ' M' => f = .nx ∧ ρ' = [some (progV kept loose items), some (fact n w c), some (.int n), some (.str w), some (.int c), some (It4.ask a).val, some (.ref M.length)] ∧ M' = M ++ [.lst ((ledL (.ask a) n w c).map fun x => fact x.1 x.2.1 x.2.2)]) ?_ ?_
    · refine z_asg <| x_ite <| x_cmp <| x_call <| x_cons <| x_var rfl <| x_nil <| x_nil <| .of (written_ok' (k := k)) <| x_var rfl ⟨_, cmpI', _, rfl, fun hb => ?_, fun hb => ?_⟩
      rotate_left
      · exact x_lst <| x_nil ⟨_, rfl, rfl, rfl, by rw [ledL_a]; rw [if_pos (by simpa using hb)]; rfl⟩
      · exact x_lst <| x_cons <| x_tup <| x_cons <| x_bin <| x_var rfl <| x_int <| o_add <| x_cons <| x_var rfl <| x_cons <| x_var rfl <| x_nil <| x_nil ⟨_, rfl, rfl, rfl, by rw [ledL_a]; rw [if_neg (by simpa using hb)]; rfl⟩
    rintro f ρ' M' ⟨rfl, rfl, rfl⟩
    refine z_cons <| z_if <| x_t <| x_and <| x_cmp <| word_at (it := .ask a) rfl <| x_str ⟨_, cmpDo, _, rfl, (fun h => by cases h), fun _ => ⟨_, rfl, (fun h => by cases h), fun _ => z_nil ?_⟩⟩
    exact led_end (l := ledL (.ask a) n w c) rfl app_new hs (by rw [ledL_a]; split <;> exact Nat.le_of_ble_eq_true rfl) fun M2 f2 => ⟨rfl, (Fr.app _).trans f2⟩
  | dod a cs =>
    refine z_cons <| z_if <| x_t <| x_cmp <| word_at (it := .dod a cs) rfl <| x_str ⟨_, cmpM, _, rfl, (fun h => by cases h), fun _ => z_nil ?_⟩
    refine z_cons <| XZ.imp (Q := fun f ρ' M' => f = .nx ∧ ρ' = [some (progV kept loose items), some (fact n w c), some (.int n), some (.str w), some (.int c), some (It4.dod a cs).val, some (.ref M.length)] ∧ M' = M ++ [.lst ((if a = c then [] else [((n : Int) + 1, w, c)]).map fun x => fact x.1 x.2.1 x.2.2)]) ?_ ?_
    · refine z_asg <| x_ite <| x_cmp <| x_call <| x_cons <| x_var rfl <| x_nil <| x_nil <| .of (written_ok' (k := k)) <| x_var rfl ⟨_, cmpI', _, rfl, fun hb => ?_, fun hb => ?_⟩
      rotate_left
      · exact x_lst <| x_nil ⟨_, rfl, rfl, rfl, by rw [if_pos (by simpa using hb)]; rfl⟩
      · exact x_lst <| x_cons <| x_tup <| x_cons <| x_bin <| x_var rfl <| x_int <| o_add <| x_cons <| x_var rfl <| x_cons <| x_var rfl <| x_nil <| x_nil ⟨_, rfl, rfl, rfl, by rw [if_neg (by simpa using hb)]; rfl⟩
    rintro f ρ' M' ⟨rfl, rfl, rfl⟩
    have g := app_new (M := M) (o := .lst ((if a = c then [] else [((n : Int) + 1, w, c)]).map fun x => fact x.1 x.2.1 x.2.2))
    have f1 : Fr0 M (M ++ [Obj.lst ((if a = c then [] else [((n : Int) + 1, w, c)]).map fun x => fact x.1 x.2.1 x.2.2)]) := .app _
    refine z_cons <| XZ.imp (Q := fun f ρ' M' => f = .nx ∧ ρ' = [some (progV kept loose items), some (fact n w c), some (.int n), some (.str w), some (.int c), some (It4.dod a cs).val, some (.ref M.length)] ∧ M'[M.length]? = some (.lst ((ledL (.dod a cs) n w c).map fun x => fact x.1 x.2.1 x.2.2)) ∧ Fr0 M M') ?_ ?_
    · refine z_if <| x_t <| x_and <| x_cmp <| word_at (it := .dod a cs) rfl <| x_str ⟨_, cmpDo, _, rfl, fun _ => ?_, fun h => by cases h⟩
      refine x_cmp <| x_var rfl <| x_idx <| x_var rfl <| x_int <| su_tup (k := 2) rfl rfl ⟨_, cinT, _, rfl, fun hb => ?_, fun hb => z_nil ⟨rfl, rfl, ?_, f1⟩⟩
      · refine z_cons <| z_expr <| x_bmeth <| x_var rfl ⟨recv_append g, x_cons <| x_tup <| x_cons <| x_bin <| x_var rfl <| x_int <| o_add <| x_cons <| x_var rfl <| x_cons <| x_idx <| x_var rfl <| x_int <| su_tup (k := 1) rfl rfl <| x_nil <| x_nil <| append_ok g (by rw [List.length_map, sizeLine_eq]; split <;> (simp only [List.length_nil, List.length_cons]; omega)) <| z_nil ⟨rfl, rfl, ?_, ?_⟩⟩
        · rw [set_same g]
          rw [ledL_d]
          rw [if_pos (of_decide_eq_true hb), List.map_append]; rfl
        · exact ⟨by simp, fun m hm _ => by rw [List.getElem?_set_ne (by omega), List.getElem?_append_left hm]⟩
      · rw [g]
        rw [ledL_d]
        rw [if_neg (of_decide_eq_false hb), List.append_nil]
    rintro f ρ' M' ⟨rfl, rfl, g2, f2⟩
    exact led_end (l := ledL (.dod a cs) n w c) rfl g2 hs (by rw [ledL_d]; split <;> split <;> exact Nat.le_of_ble_eq_true rfl) fun M2 f3 => ⟨rfl, f2.trans f3⟩
end Mn
end -- Dw24
section -- Dv24
set_option linter.all false
set_option autoImplicit false
set_option maxRecDepth 100000
namespace Mn
open PySem L2
theorem led_okV {items : List It4} {n : Nat} {w : Str} {c many : Int} (hn : n ≤ items.length) (hl : items.length ≤ 64) (hw : w = "wrong" ∨ w = "open") (c0 : 0 ≤ c) (c1 : c < 100) (hi : ∀ i ∈ items, i.ok many) (hm : many < 100) : okV (.tup (ledV items n w c)) := by
  unfold ledV
  cases e : items[n]? with
  | none => exact nil_okV
  | some it =>
    have ho := hi it (List.mem_of_getElem? e)
    have len : (ledL it n w c).length ≤ 2 := by
      cases it with
      | dod a cs => rw [ledL_d]; split <;> split <;> (simp only [List.length_append, List.length_nil, List.length_cons]; omega)
      | ask a => rw [ledL_a]; split <;> (simp only [List.length_nil, List.length_cons]; omega)
      | snd cs => exact (by omega : 1 ≤ 2)
      | mrk cs => rw [ledL_m]; split <;> (simp only [List.length_nil, List.length_cons]; omega)
    have mem : ∀ x ∈ ledL it n w c, x.1 = n + 1 ∧ x.2.1 = w ∧ 0 ≤ x.2.2 ∧ x.2.2 < 100 := by
      have one : ∀ {x : Int × Str × Int} {b : Int}, 0 ≤ b → b < 100 → x ∈ [((n : Int) + 1, w, b)] → x.1 = n + 1 ∧ x.2.1 = w ∧ 0 ≤ x.2.2 ∧ x.2.2 < 100 := fun h0 h1 hx => by rw [List.mem_singleton.mp hx]; exact ⟨rfl, rfl, h0, h1⟩
      intro x hx
      cases it with
      | dod a cs =>
        rw [ledL_d] at hx
        have h0 := ho.1.1
        have h1 := ho.1.2
        rcases List.mem_append.mp hx with hx | hx
        · split at hx
          · cases hx
          · exact one c0 c1 hx
        · split at hx
          · exact one h0 (by omega) hx
          · cases hx
      | ask a =>
        rw [ledL_a] at hx
        split at hx
        · cases hx
        · exact one c0 c1 hx
      | snd cs => exact one c0 c1 hx
      | mrk cs =>
        rw [ledL_m] at hx
        split at hx
        · cases hx
        · exact one c0 c1 hx
    refine okV_tup (c := 4) (fun v hv => ?_) ?_
    · have hv := (List.mergeSort_perm _ _).mem_iff.mp hv
      obtain ⟨x, hx, rfl⟩ := List.mem_map.mp hv
      obtain ⟨x1, x2, x3, x4⟩ := mem x hx
      refine ⟨?_, Nat.le_of_ble_eq_true rfl, Nat.le_of_ble_eq_true rfl⟩
      show (smV (.int x.1) && (smV (.str x.2.1) && (smV (.int x.2.2) && true))) = true
      rw [x1, x2, sm_int (by omega) (by omega), sm_int x3 (by omega), show smV (.str w) = true by rcases hw with rfl | rfl <;> kernel_rfl]; rfl
    · rw [List.length_mergeSort, List.length_map]
      omega
theorem min_int {a b : Int} {M : Mem} {Q : Val → Mem → Prop} (k : Q (.int (if b < a then b else a)) M) : XR (bcall .min [.int a, .int b] M) Q := .of rfl k
theorem max_int {a b : Int} {M : Mem} {Q : Val → Mem → Prop} (k : Q (.int (if b > a then b else a)) M) : XR (bcall .max [.int a, .int b] M) Q := .of rfl k
end Mn
end -- Dv24
section -- L_k24
set_option linter.all false
set_option autoImplicit false
set_option maxRecDepth 100000
namespace Mn
open PySem L2
/-- the pen, its objects told -/
theorem pen0_ok {k : Nat} {ns : List Int} (h : ns.length ≤ 63) : ∃ is : List Int, is.length ≤ 63 ∧ callAt prg (k + 1) (Str.ofString "_law_pen") [.ref 0] [] [.rol (ns.map .int)] = .ok (.ref 3) [.rol (ns.map .int), .lst (is.map .int), .lst (is.map .int), .lst [.ref 2, .int 0, .int 0]] := by
  refine ⟨cut ns none (some 63), Nat.le_trans (cut_len _ _ _) h, ?_⟩
  rw [← cut_map, ca__law_pen rfl]
  rfl
theorem mem_rng {n : Nat} {v : Val} (h : v ∈ irange 0 n) : ∃ i : Nat, v = .int i ∧ i < n := by
  obtain ⟨i, hi, e⟩ := List.mem_iff_getElem.mp h
  rw [irange_len] at hi
  exact ⟨i, by rw [← e]; exact (List.getElem?_eq_some_iff.mp (rng_get hi)).2.symm ▸ rfl, hi⟩
theorem prun (ns : List Int) (hn : ns.length ≤ 63) : ∃ M', runB (gam prg 20) f_law [.ref 0] [.rol (ns.map .int)] = .ok (.bl true) M' := by
  suffices X : XR (runB (gam prg 20) f_law [.ref 0] [.rol (ns.map .int)]) fun v M' => v = .bl true by
    obtain ⟨v, M', e, rfl⟩ := X
    exact ⟨M', e⟩
  obtain ⟨is, hi, e0⟩ := pen0_ok (k := 19) hn
  refine x_body <| z_cons <| z_asg <| x_call <| x_cons <| x_var rfl <| x_nil <| x_nil <| .of e0 ⟨_, rfl, ?_⟩
  have pen : Pen [.rol (ns.map .int), .lst (is.map .int), .lst (is.map .int), .lst [.ref 2, .int 0, .int 0]] 3 2 := ⟨0, 0, is, rfl, rfl, hi, by decide⟩
  refine z_cons <| z_for <| x_cons <| x_bcall <| x_cons <| x_int <| x_cons <| x_bcall <| x_cons <| x_int <| x_cons <| x_bcall <| x_cons <| x_var rfl <| x_nil <| .of (x := .int ((ns.map Val.int).length : Nat)) rfl <| x_nil <| min_int <| x_nil <| max_int <| x_nil ?_
  generalize hm : (if (if ((ns.map Val.int).length : Int) < 4 then ((ns.map Val.int).length : Int) else 4) > 1 then (if ((ns.map Val.int).length : Int) < 4 then ((ns.map Val.int).length : Int) else 4) else 1) = m
  have m0 : 0 ≤ m ∧ m ≤ 4 := by
    subst hm
    split <;> split <;> omega
  clear hm
  generalize [Obj.rol (ns.map .int), .lst (is.map .int), .lst (is.map .int), .lst [.ref 2, .int 0, .int 0]] = M0 at pen
  refine ⟨_, m.toNat, src_range (by omega), rng_len, fun i ρ M => ∃ o2 o3 o4 o5 o6 o7 : Option Val, ρ = [some (.ref 0), some (.ref 3), o2, o3, o4, o5, o6, o7] ∧ Pen M 3 2, ⟨none, none, none, none, none, none, rfl, pen⟩, ?_, ?_⟩
  · rintro i ρ M hi ⟨o2, o3, o4, o5, o6, o7, rfl, pen⟩
    refine ⟨_, _, rng_at hi, rfl, ?_⟩
    obtain ⟨kept, M1, e1, k0, k1, p1, f1⟩ := draw_ok (k := 18) pen (many := 5) (by decide) (by decide)
    obtain ⟨loose, M2, e2, l0, l1, p2, f2⟩ := draw_ok (k := 18) p1 (many := 6) (by decide) (by decide)
    obtain ⟨l, items, M4, e4, a0, a1, a2, a3, p4, f4⟩ := program_ok (k := 15) p2 k0 (by omega : kept < 20) l0 (by omega : loose < 20) (most := 10) (by decide) (by decide)
    refine z_cons <| z_asg <| x_call <| x_cons <| x_var rfl <| x_cons <| x_call <| x_cons <| x_var rfl <| x_cons <| x_int <| x_nil <| x_nil <| .of e1 <| x_cons <| x_call <| x_cons <| x_var rfl <| x_cons <| x_int <| x_nil <| x_nil <| .of e2 <| x_cons <| x_int <| x_nil <| x_nil <| .of e4 ⟨_, rfl, ?_⟩
    have hl : items.length ≤ 64 := by omega
    clear e1 e2 e4 f1 f2 f4 p1 p2 pen
    refine z_cons <| z_forI <| x_cons <| x_bin <| x_bcall <| x_cons <| x_idx <| x_var rfl <| x_int <| su_tup (k := 2) rfl rfl <| x_nil <| len_tup <| x_int <| o_add <| x_nil ⟨_, irange 0 (((items.map It4.val).length : Int) + 1).toNat, src_range (by rw [List.length_map]; omega), srcI_im, fun _ ρ' M' => Fr0 M4 M' ∧ ∃ o4 o5 o6 o7 : Option Val, ρ' = [some (.ref 0), some (.ref 3), some (.int i), some (progV kept l items), o4, o5, o6, o7], ⟨.refl, o4, o5, o6, o7, rfl⟩, fun _ _ _ h => h.1, ?_, ?_⟩
    · rintro _ v ρ M5 hv ⟨f5, o4, o5, o6, o7, rfl⟩
      obtain ⟨n, rfl, hn⟩ := mem_rng (List.mem_of_getElem? hv)
      have hn : n ≤ items.length := by rw [List.length_map] at hn; omega
      refine ⟨_, rfl, z_cons <| z_forI <| x_cons <| x_bin <| x_idx <| x_var rfl <| x_int <| su_tup (k := 0) rfl rfl <| x_idx <| x_var rfl <| x_int <| su_tup (k := 1) rfl rfl <| o_add <| x_nil ⟨_, irange 0 (kept + l).toNat, src_range (by omega), srcI_im, fun _ ρ' M' => Fr0 M5 M' ∧ ∃ o5 o6 o7 : Option Val, ρ' = [some (.ref 0), some (.ref 3), some (.int i), some (progV kept l items), some (.int n), o5, o6, o7], ⟨.refl, o5, o6, o7, rfl⟩, fun _ _ _ h => h.1, ?_, ?_⟩⟩
      · rintro _ v ρ M6 hv ⟨f6, o5, o6, o7, rfl⟩
        obtain ⟨c, rfl, hc⟩ := mem_rng (List.mem_of_getElem? hv)
        refine ⟨_, rfl, z_cons <| z_forI <| x_cons <| x_tup <| x_cons <| x_str <| x_cons <| x_str <| x_nil <| x_nil ⟨_, [.str "wrong", .str "open"], rfl, srcI_im, fun _ ρ' M' => Fr0 M6 M' ∧ ∃ o6 o7 : Option Val, ρ' = [some (.ref 0), some (.ref 3), some (.int i), some (progV kept l items), some (.int n), some (.int c), o6, o7], ⟨.refl, o6, o7, rfl⟩, fun _ _ _ h => h.1, ?_, ?_⟩⟩
        · rintro _ v ρ M7 hv ⟨f7, o6, o7, rfl⟩
          obtain ⟨w, rfl, hw⟩ : ∃ w, v = .str w ∧ (w = "wrong" ∨ w = "open") := by
            have hv := List.mem_of_getElem? hv
            rcases List.mem_cons.mp hv with rfl | hv
            · exact ⟨_, rfl, .inl rfl⟩
            · rw [List.mem_singleton.mp hv]; exact ⟨_, rfl, .inr rfl⟩
          have ok := led_okV (c := c) hn hl hw (by omega) (by omega) a3 (by omega)
          obtain ⟨M8, e8, f8⟩ := leads_ok (k := 18) (kept := kept) (loose := l) (c := c) (M := M7) hn hw
          obtain ⟨M9, e9, f9⟩ := led_ok (k := 18) (kept := kept) (loose := l) (c := c) (M := M8) hn hw
          refine ⟨_, rfl, z_cons <| z_asg <| x_tup <| x_cons <| x_var rfl <| x_cons <| x_var rfl <| x_cons <| x_var rfl <| x_nil ⟨_, rfl, ?_⟩⟩
          exact z_cons <| z_if <| x_t <| x_cmp <| x_bcall <| x_cons <| x_call <| x_cons <| x_var rfl <| x_cons <| x_var rfl <| x_nil <| x_nil <| .of e8 <| x_nil <| .of (repr_eq ok _) <| x_bcall <| x_cons <| x_call <| x_cons <| x_var rfl <| x_cons <| x_var rfl <| x_nil <| x_nil <| .of e9 <| x_nil <| .of (repr_eq ok _) ⟨_, ne_self, _, rfl, (fun h => by cases h), fun _ => z_nil <| z_nil ⟨(f7.trans f8).trans f9, _, _, rfl⟩⟩
        · rintro ρ M7 ⟨f7, o6, o7, rfl⟩
          exact z_nil ⟨f6.trans f7, _, _, _, rfl⟩
      · rintro ρ M6 ⟨f6, o5, o6, o7, rfl⟩
        exact z_nil ⟨f5.trans f6, _, _, _, _, rfl⟩
    · rintro ρ M5 ⟨f5, o4, o5, o6, o7, rfl⟩
      exact z_nil ⟨_, _, _, _, _, _, rfl, p4.fr f5 id id⟩
  · rintro ρ M ⟨o2, o3, o4, o5, o6, o7, rfl, pen⟩
    exact ⟨rng_len, z_cons <| z_ret <| x_bl rfl⟩
end Mn
end -- L_k24
section -- H_k24
set_option linter.all false
set_option maxRecDepth 100000
namespace Mn
open PySem L2
section
variable {l : PySem.W.OpenLaw} {w : World} {K : PySem.W.Frag} {h : Heap} {mg : Str → Option Value} {fa g0 g1 g2 g3 g4 g5 g6 g7 g8 g9 g10 g11 : Addr}
  {od0 an0 od1 an1 od2 an2 od3 an3 od4 an4 od5 an5 od6 an6 od7 an7 od8 an8 od9 an9 od10 an10 od11 an11 : Option Addr} {sl0 sl1 sl2 sl3 sl4 sl5 sl6 sl7 sl8 sl9 sl10 sl11 : Array (Option Value)} {oc0 kV0 dc0 pm0 cd0 ct0 oc1 kV1 dc1 pm1 cd1 ct1 oc2 kV2 dc2 pm2 cd2 ct2 oc3 kV3 dc3 pm3 cd3 ct3 oc4 kV4 dc4 pm4 cd4 ct4 oc5 kV5 dc5 pm5 cd5 ct5 oc6 kV6 dc6 pm6 cd6 ct6 oc7 kV7 dc7 pm7 cd7 ct7 oc8 kV8 dc8 pm8 cd8 ct8 oc9 kV9 dc9 pm9 cd9 ct9 oc10 kV10 dc10 pm10 cd10 ct10 oc11 kV11 dc11 pm11 cd11 ct11 : Value} {y0t : Tok}
theorem all_mk (X : K.In h) (Gm : h.Ns mainGlobals mg) (hfa : mg "law" = some (.ref fa))
    (a0 : PySem.W.nsIn K mainGlobals "written_cell" = some (some (.ref g0))) (l0 : K.lookup g0 = some ⟨oc0, od0, .func (PySem.W.fnOf "written_cell" "written_cell" (defArgs s_written_cell) (defBody s_written_cell) (defScope s_written_cell) .none kV0 dc0 pm0 an0 cd0 ct0), sl0⟩) (c0 : PySem.W.codeIn K cd0 "written_cell" = true) (k0 : PySem.W.keepIn K (.ref g0) = true)
    (a1 : PySem.W.nsIn K mainGlobals "read_cells" = some (some (.ref g1))) (l1 : K.lookup g1 = some ⟨oc1, od1, .func (PySem.W.fnOf "read_cells" "read_cells" (defArgs s_read_cells) (defBody s_read_cells) (defScope s_read_cells) .none kV1 dc1 pm1 an1 cd1 ct1), sl1⟩) (c1 : PySem.W.codeIn K cd1 "read_cells" = true) (k1 : PySem.W.keepIn K (.ref g1) = true)
    (a2 : PySem.W.nsIn K mainGlobals "leads" = some (some (.ref g2))) (l2 : K.lookup g2 = some ⟨oc2, od2, .func (PySem.W.fnOf "leads" "leads" (defArgs s_leads) (defBody s_leads) (defScope s_leads) .none kV2 dc2 pm2 an2 cd2 ct2), sl2⟩) (c2 : PySem.W.codeIn K cd2 "leads" = true) (k2 : PySem.W.keepIn K (.ref g2) = true)
    (a3 : PySem.W.nsIn K mainGlobals "_law_pen" = some (some (.ref g3))) (l3 : K.lookup g3 = some ⟨oc3, od3, .func (PySem.W.fnOf "_law_pen" "_law_pen" (defArgs s__law_pen) (defBody s__law_pen) (defScope s__law_pen) .none kV3 dc3 pm3 an3 cd3 ct3), sl3⟩) (c3 : PySem.W.codeIn K cd3 "_law_pen" = true) (k3 : PySem.W.keepIn K (.ref g3) = true)
    (a4 : PySem.W.nsIn K mainGlobals "_law_fresh" = some (some (.ref g4))) (l4 : K.lookup g4 = some ⟨oc4, od4, .func (PySem.W.fnOf "_law_fresh" "_law_fresh" (defArgs s__law_fresh) (defBody s__law_fresh) (defScope s__law_fresh) .none kV4 dc4 pm4 an4 cd4 ct4), sl4⟩) (c4 : PySem.W.codeIn K cd4 "_law_fresh" = true) (k4 : PySem.W.keepIn K (.ref g4) = true)
    (a5 : PySem.W.nsIn K mainGlobals "_law_draw" = some (some (.ref g5))) (l5 : K.lookup g5 = some ⟨oc5, od5, .func (PySem.W.fnOf "_law_draw" "_law_draw" (defArgs s__law_draw) (defBody s__law_draw) (defScope s__law_draw) .none kV5 dc5 pm5 an5 cd5 ct5), sl5⟩) (c5 : PySem.W.codeIn K cd5 "_law_draw" = true) (k5 : PySem.W.keepIn K (.ref g5) = true)
    (a6 : PySem.W.nsIn K mainGlobals "_law_cells" = some (some (.ref g6))) (l6 : K.lookup g6 = some ⟨oc6, od6, .func (PySem.W.fnOf "_law_cells" "_law_cells" (defArgs s__law_cells) (defBody s__law_cells) (defScope s__law_cells) .none kV6 dc6 pm6 an6 cd6 ct6), sl6⟩) (c6 : PySem.W.codeIn K cd6 "_law_cells" = true) (k6 : PySem.W.keepIn K (.ref g6) = true)
    (a7 : PySem.W.nsIn K mainGlobals "_law_item" = some (some (.ref g7))) (l7 : K.lookup g7 = some ⟨oc7, od7, .func (PySem.W.fnOf "_law_item" "_law_item" (defArgs s__law_item) (defBody s__law_item) (defScope s__law_item) .none kV7 dc7 pm7 an7 cd7 ct7), sl7⟩) (c7 : PySem.W.codeIn K cd7 "_law_item" = true) (k7 : PySem.W.keepIn K (.ref g7) = true)
    (a8 : PySem.W.nsIn K mainGlobals "_law_program" = some (some (.ref g8))) (l8 : K.lookup g8 = some ⟨oc8, od8, .func (PySem.W.fnOf "_law_program" "_law_program" (defArgs s__law_program) (defBody s__law_program) (defScope s__law_program) .none kV8 dc8 pm8 an8 cd8 ct8), sl8⟩) (c8 : PySem.W.codeIn K cd8 "_law_program" = true) (k8 : PySem.W.keepIn K (.ref g8) = true)
    (a9 : PySem.W.nsIn K mainGlobals "_law_written" = some (some (.ref g9))) (l9 : K.lookup g9 = some ⟨oc9, od9, .func (PySem.W.fnOf "_law_written" "_law_written" (defArgs s__law_written) (defBody s__law_written) (defScope s__law_written) .none kV9 dc9 pm9 an9 cd9 ct9), sl9⟩) (c9 : PySem.W.codeIn K cd9 "_law_written" = true) (k9 : PySem.W.keepIn K (.ref g9) = true)
    (a10 : PySem.W.nsIn K mainGlobals "_law_led" = some (some (.ref g10))) (l10 : K.lookup g10 = some ⟨oc10, od10, .func (PySem.W.fnOf "_law_led" "_law_led" (defArgs s__law_led) (defBody s__law_led) (defScope s__law_led) .none kV10 dc10 pm10 an10 cd10 ct10), sl10⟩) (c10 : PySem.W.codeIn K cd10 "_law_led" = true) (k10 : PySem.W.keepIn K (.ref g10) = true)
    (a11 : PySem.W.nsIn K mainGlobals "law" = some (some (.ref g11))) (l11 : K.lookup g11 = some ⟨oc11, od11, .func (PySem.W.fnOf "law" "law" (defArgs s_law) (defBody s_law) (defScope s_law) .none kV11 dc11 pm11 an11 cd11 ct11), sl11⟩) (c11 : PySem.W.codeIn K cd11 "law" = true) (k11 : PySem.W.keepIn K (.ref g11) = true)
    (z0 : PySem.W.nsIn K mainGlobals "tuple" = some none)
    (z1 : PySem.W.nsIn K mainGlobals "len" = some none)
    (z2 : PySem.W.nsIn K mainGlobals "sorted" = some none)
    (z3 : PySem.W.nsIn K mainGlobals "list" = some none)
    (z4 : PySem.W.nsIn K mainGlobals "range" = some none)
    (z5 : PySem.W.nsIn K mainGlobals "int" = some none)
    (z6 : PySem.W.nsIn K mainGlobals "max" = some none)
    (z7 : PySem.W.nsIn K mainGlobals "min" = some none)
    (z8 : PySem.W.nsIn K mainGlobals "repr" = some none)
    (y0 : PySem.W.nsIn K mainGlobals "OPEN" = some (some (.str "open" y0t))) :
    Top ⟨l.prog, w, K, mg⟩ gt prg ∧ ∃ fdat : FuncData, DefOk ⟨l.prog, w, K, mg⟩ gt f_law fa fdat ∧ ∀ (s : Shared) (u : Value), BindsTo s fdat ⟨[u], []⟩ (f_law.ps.zip [u]) := by
  have e := hfa.symm.trans (PySem.W.mg_of X Gm a11)
  cases e
  have d0 : DefOk ⟨l.prog, w, K, mg⟩ gt f_written_cell g0 _ := def_mk n_written_cell l0 c0 sc_written_cell cv_written_cell rfl
  have d1 : DefOk ⟨l.prog, w, K, mg⟩ gt f_read_cells g1 _ := def_mk n_read_cells l1 c1 sc_read_cells cv_read_cells rfl
  have d2 : DefOk ⟨l.prog, w, K, mg⟩ gt f_leads g2 _ := def_mk n_leads l2 c2 sc_leads cv_leads rfl
  have d3 : DefOk ⟨l.prog, w, K, mg⟩ gt f__law_pen g3 _ := def_mk n__law_pen l3 c3 sc__law_pen cv__law_pen rfl
  have d4 : DefOk ⟨l.prog, w, K, mg⟩ gt f__law_fresh g4 _ := def_mk n__law_fresh l4 c4 sc__law_fresh cv__law_fresh rfl
  have d5 : DefOk ⟨l.prog, w, K, mg⟩ gt f__law_draw g5 _ := def_mk n__law_draw l5 c5 sc__law_draw cv__law_draw rfl
  have d6 : DefOk ⟨l.prog, w, K, mg⟩ gt f__law_cells g6 _ := def_mk n__law_cells l6 c6 sc__law_cells cv__law_cells rfl
  have d7 : DefOk ⟨l.prog, w, K, mg⟩ gt f__law_item g7 _ := def_mk n__law_item l7 c7 sc__law_item cv__law_item rfl
  have d8 : DefOk ⟨l.prog, w, K, mg⟩ gt f__law_program g8 _ := def_mk n__law_program l8 c8 sc__law_program cv__law_program rfl
  have d9 : DefOk ⟨l.prog, w, K, mg⟩ gt f__law_written g9 _ := def_mk n__law_written l9 c9 sc__law_written cv__law_written rfl
  have d10 : DefOk ⟨l.prog, w, K, mg⟩ gt f__law_led g10 _ := def_mk n__law_led l10 c10 sc__law_led cv__law_led rfl
  have d11 : DefOk ⟨l.prog, w, K, mg⟩ gt f_law fa _ := def_mk n_law l11 c11 sc_law cv_law rfl
  have tb : ∀ x, gt.blt.contains x = true → mg x = none := fun x hx => by
    have hx : x ∈ gt.blt := List.contains_iff_mem.mp hx
    rcases List.mem_cons.mp hx with rfl | hx
    · exact PySem.W.mg_none_of X Gm z0
    rcases List.mem_cons.mp hx with rfl | hx
    · exact PySem.W.mg_none_of X Gm z1
    rcases List.mem_cons.mp hx with rfl | hx
    · exact PySem.W.mg_none_of X Gm z2
    rcases List.mem_cons.mp hx with rfl | hx
    · exact PySem.W.mg_none_of X Gm z3
    rcases List.mem_cons.mp hx with rfl | hx
    · exact PySem.W.mg_none_of X Gm z4
    rcases List.mem_cons.mp hx with rfl | hx
    · exact PySem.W.mg_none_of X Gm z5
    rcases List.mem_cons.mp hx with rfl | hx
    · exact PySem.W.mg_none_of X Gm z6
    rcases List.mem_cons.mp hx with rfl | hx
    · exact PySem.W.mg_none_of X Gm z7
    rcases List.mem_cons.mp hx with rfl | hx
    · exact PySem.W.mg_none_of X Gm z8
    cases hx
  have tf : ∀ e ∈ gt.fsg, ∃ fd fa F, prg.fns.lookup e.1 = some fd ∧ DefOk ⟨l.prog, w, K, mg⟩ gt fd fa F ∧ BindOk ⟨l.prog, w, K, mg⟩ fd F e.2.1 e.2.2 ∧ mg e.1 = some (.ref fa) ∧ PySem.W.keepIn K (.ref fa) = true := fun e he => by
    have he : e ∈ gt.fsg := he
    rcases List.mem_cons.mp he with rfl | he
    · exact ⟨f_written_cell, g0, _, rfl, d0, bind_all (fd := f_written_cell) fun us hl => (match us, hl with | [_], _ => rfl), PySem.W.mg_of X Gm a0, k0⟩
    rcases List.mem_cons.mp he with rfl | he
    · exact ⟨f_read_cells, g1, _, rfl, d1, bind_all (fd := f_read_cells) fun us hl => (match us, hl with | [_], _ => rfl), PySem.W.mg_of X Gm a1, k1⟩
    rcases List.mem_cons.mp he with rfl | he
    · exact ⟨f__law_fresh, g4, _, rfl, d4, bind_all (fd := f__law_fresh) fun us hl => (match us, hl with | [_], _ => rfl), PySem.W.mg_of X Gm a4, k4⟩
    rcases List.mem_cons.mp he with rfl | he
    · exact ⟨f__law_draw, g5, _, rfl, d5, bind_all (fd := f__law_draw) fun us hl => (match us, hl with | [_, _], _ => rfl), PySem.W.mg_of X Gm a5, k5⟩
    rcases List.mem_cons.mp he with rfl | he
    · exact ⟨f__law_cells, g6, _, rfl, d6, bind_all (fd := f__law_cells) fun us hl => (match us, hl with | [_, _, _], _ => rfl), PySem.W.mg_of X Gm a6, k6⟩
    rcases List.mem_cons.mp he with rfl | he
    · exact ⟨f__law_item, g7, _, rfl, d7, bind_all (fd := f__law_item) fun us hl => (match us, hl with | [_, _], _ => rfl), PySem.W.mg_of X Gm a7, k7⟩
    rcases List.mem_cons.mp he with rfl | he
    · exact ⟨f__law_written, g9, _, rfl, d9, bind_all (fd := f__law_written) fun us hl => (match us, hl with | [_], _ => rfl), PySem.W.mg_of X Gm a9, k9⟩
    rcases List.mem_cons.mp he with rfl | he
    · exact ⟨f__law_pen, g3, _, rfl, d3, bind_all (fd := f__law_pen) fun us hl => (match us, hl with | [_], _ => rfl), PySem.W.mg_of X Gm a3, k3⟩
    rcases List.mem_cons.mp he with rfl | he
    · exact ⟨f__law_program, g8, _, rfl, d8, bind_all (fd := f__law_program) fun us hl => (match us, hl with | [_, _, _, _], _ => rfl), PySem.W.mg_of X Gm a8, k8⟩
    rcases List.mem_cons.mp he with rfl | he
    · exact ⟨f_leads, g2, _, rfl, d2, bind_all (fd := f_leads) fun us hl => (match us, hl with | [_, _], _ => rfl), PySem.W.mg_of X Gm a2, k2⟩
    rcases List.mem_cons.mp he with rfl | he
    · exact ⟨f__law_led, g10, _, rfl, d10, bind_all (fd := f__law_led) fun us hl => (match us, hl with | [_, _], _ => rfl), PySem.W.mg_of X Gm a10, k10⟩
    cases he
  have tg : ∀ x v, prg.glb.lookup x = some v → ∃ u uv, mg x = some uv ∧ RelV u uv ∧ ∀ φ H, RV ⟨l.prog, w, K, mg⟩ φ H v u := fun x v e => by
    rcases glb_cons e with ⟨rfl, rfl⟩ | e
    · exact ⟨.str "open", _, PySem.W.mg_of X Gm y0, ⟨_, rfl⟩, fun _ _ => .str _⟩
    cases (show (none : Option Val) = some v from e)
  have tl : ∀ C f, fldIn prg C f = true → ∃ Ca, mg C = some (.ref Ca) ∧ Cls K Ca ∧ NoAttr K Ca f := fun C f e => by
    cases (show false = true from e)
  exact ⟨⟨tb, tg, tl, tf, fun e he => (List.not_mem_nil he).elim, fun e he => (List.not_mem_nil he).elim⟩, _, d11, fun s u => .of_eq rfl⟩
end
end Mn
open PySem PySem.W PyProof.Rows
set_option maxRecDepth 100000 in
set_option maxHeartbeats 0 in
theorem PySem.Challenge.cw_cutrows_k24_facts_led_to_holds : PySem.Challenge.rw_cutrows_k24_facts_led_to.Holds := by
  w_on; o_law; k_head; (case hw => w_witness2)
  k_fill
  refine Mn.walk_mn (l := PySem.Challenge.rw_cutrows_k24_facts_led_to) (k := 20) (G := Mn.gt) (P := Mn.prg) (fd := Mn.f_law) rfl rfl ⟨rfl, by decide, by decide⟩ rfl (fun w h Y => PySem.W.kIn_of Y) ?F Mn.prun
  case F =>
    intro w mg fa h KX Gm hmg
    refine' Mn.all_mk KX Gm hmg ?a0 ?l0 ?c0 ?k0 ?a1 ?l1 ?c1 ?k1 ?a2 ?l2 ?c2 ?k2 ?a3 ?l3 ?c3 ?k3 ?a4 ?l4 ?c4 ?k4 ?a5 ?l5 ?c5 ?k5 ?a6 ?l6 ?c6 ?k6 ?a7 ?l7 ?c7 ?k7 ?a8 ?l8 ?c8 ?k8 ?a9 ?l9 ?c9 ?k9 ?a10 ?l10 ?c10 ?k10 ?a11 ?l11 ?c11 ?k11 ?z0 ?z1 ?z2 ?z3 ?z4 ?z5 ?z6 ?z7 ?z8 ?y0
    (case a0 => k_is); (case l0 => k_is); (case c0 => k_is); (case k0 => k_is); (case a1 => k_is); (case l1 => k_is); (case c1 => k_is); (case k1 => k_is); (case a2 => k_is); (case l2 => k_is); (case c2 => k_is); (case k2 => k_is); (case a3 => k_is); (case l3 => k_is); (case c3 => k_is); (case k3 => k_is); (case a4 => k_is); (case l4 => k_is); (case c4 => k_is); (case k4 => k_is); (case a5 => k_is); (case l5 => k_is); (case c5 => k_is); (case k5 => k_is); (case a6 => k_is); (case l6 => k_is); (case c6 => k_is); (case k6 => k_is); (case a7 => k_is); (case l7 => k_is); (case c7 => k_is); (case k7 => k_is); (case a8 => k_is); (case l8 => k_is); (case c8 => k_is); (case k8 => k_is); (case a9 => k_is); (case l9 => k_is); (case c9 => k_is); (case k9 => k_is); (case a10 => k_is); (case l10 => k_is); (case c10 => k_is); (case k10 => k_is); (case a11 => k_is); (case l11 => k_is); (case c11 => k_is); (case k11 => k_is); (case z0 => k_is); (case z1 => k_is); (case z2 => k_is); (case z3 => k_is); (case z4 => k_is); (case z5 => k_is); (case z6 => k_is); (case z7 => k_is); (case z8 => k_is); (case y0 => k_is)
end -- H_k24
