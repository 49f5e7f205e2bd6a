import PyProof.Rows.All
import Wide.All
import OpenK.AllK
import Wide.FinOn
import PySem.Challenge.RW_endlesslands_k06_meetings_and_sums_of_la
import HandS.ForMost
import HandS.TupAny
import HandS.TupMul
import HandS.StrMore
import KE.DataEq
import HandS.TupLe
import HandS.Wide
import HandS.TupLen
import HandS.Conv
import HandS.Style
import KE.KDictDisplayH
import HandS.Iter
import HandS.NoneIn
import HandS.IsInst
import KE.DatumOrd
import HandS.Deep
import HandS.SortRule
import HandS.ReplaceLit
import HandS.DictTup
import HandS.Codes
import KE.Datum
import HandS.ReplaceList
set_option Elab.async false
set_option linter.all false
set_option maxRecDepth 100000
/-! EL1: values, core terms, the evaluator -/
namespace EL
open PySem L2

inductive Fl where | own | deep | frz | ro
  deriving DecidableEq, Repr
/-- kinds of dicts: keys ints or texts; keys flat tuples -/
inductive DK where | k | t
  deriving DecidableEq, Repr
inductive PV where
  | non | bl (b : Bool) | int (i : Int) | str (x : Str)
  | tup (xs : List PV)
  | ktp (xs : List PV)
  | lst (f : Fl) (xs : List PV)
  | dic (f : Fl) (d : DK) (kvs : List (List Key × PV))
  deriving Repr
abbrev Env := List (Option PV)
structure XV where
  cls : String
  arg : List PV
inductive R (α : Type) where
  | stuck | ok (a : α) | exc (x : XV) (env : Env)
def R.bind {α β : Type} (r : R α) (f : α → R β) : R β := match r with
  | .stuck => .stuck
  | .ok a => f a
  | .exc x e => .exc x e
def R.of {α : Type} : Option α → R α
  | some a => .ok a
  | none => .stuck
@[simp] theorem R.bind_ok {α β : Type} (a : α) (f : α → R β) : (R.ok a).bind f = f a := rfl
@[simp] theorem R.bind_stuck {α β : Type} (f : α → R β) : (R.stuck : R α).bind f = .stuck := rfl
@[simp] theorem R.of_some {α : Type} (a : α) : R.of (some a) = .ok a := rfl
@[simp] theorem R.of_none {α : Type} : (R.of none : R α) = .stuck := rfl
theorem R.bind_eq_ok {α β : Type} {r : R α} {f : α → R β} {b : β} (h : r.bind f = .ok b) : ∃ a, r = .ok a ∧ f a = .ok b := by
  cases r with
  | stuck => cases h
  | ok a => exact ⟨a, rfl, h⟩
  | exc x e => cases h
theorem R.of_eq_ok {α : Type} {o : Option α} {a : α} (h : R.of o = .ok a) : o = some a := by
  cases o with
  | none => cases h
  | some b => cases h; rfl

/-! ### values -/
def isOwn : PV → Bool
  | .lst .own _ | .lst .deep _ | .dic .own _ _ | .dic .deep _ _ => true
  | _ => false
def frz : PV → PV
  | .lst .own xs | .lst .deep xs => .lst .frz xs
  | .dic .own d kvs | .dic .deep d kvs => .dic .frz d kvs
  | v => v
@[simp] theorem frz_non : frz .non = .non := rfl
@[simp] theorem frz_bl (b) : frz (.bl b) = .bl b := rfl
@[simp] theorem frz_int (b) : frz (.int b) = .int b := rfl
@[simp] theorem frz_str (b) : frz (.str b) = .str b := rfl
@[simp] theorem frz_tup (b) : frz (.tup b) = .tup b := rfl
@[simp] theorem frz_ktp (b) : frz (.ktp b) = .ktp b := rfl
@[simp] theorem frz_own (xs) : frz (.lst .own xs) = .lst .frz xs := rfl
@[simp] theorem frz_deep (xs) : frz (.lst .deep xs) = .lst .frz xs := rfl
@[simp] theorem frz_frz (xs) : frz (.lst .frz xs) = .lst .frz xs := rfl
@[simp] theorem frz_ro (xs) : frz (.lst .ro xs) = .lst .ro xs := rfl
@[simp] theorem frz_down (d xs) : frz (.dic .own d xs) = .dic .frz d xs := rfl
@[simp] theorem frz_dfrz (d xs) : frz (.dic .frz d xs) = .dic .frz d xs := rfl

/-! ### data: equality -/
mutual
def toD : PV → Option PyData
  | .non => some .none
  | .bl b => some (.bool b)
  | .int i => some (.int i)
  | .str x => some (.str x)
  | .tup xs => (toDs xs).map .tuple
  | .ktp xs => (toDs xs).map .tuple
  | .lst _ xs => (toDs xs).map .list
  | .dic _ _ _ => none
def toDs : List PV → Option (List PyData)
  | [] => some []
  | x :: xs => match toD x, toDs xs with
    | some d, some ds => some (d :: ds)
    | _, _ => none
end
def eqP (a b : PV) : Option Bool := match toD a, toD b with
  | some x, some y => if decide (min x.depth y.depth ≤ 64) then some (PyData.eqv x y) else none
  | _, _ => none

/-! ### keys -/
def toK : PV → Option Key
  | .int i => some (.inl i)
  | .str x => some (.inr x)
  | _ => none
def ofK : Key → PV
  | .inl i => .int i
  | .inr x => .str x
def toKs : List PV → Option (List Key)
  | [] => some []
  | x :: xs => match toK x, toKs xs with
    | some k, some ks => some (k :: ks)
    | _, _ => none
def keyP : DK → PV → Option (List Key)
  | .k, v => (toK v).map fun k => [k]
  | .t, .tup xs => toKs xs
  | .t, _ => none
def ofKey : DK → List Key → PV
  | .k, ks => ofK (ks.headD (.inl 0))
  | .t, ks => .tup (ks.map ofK)
def getP (kvs : List (List Key × PV)) (k : List Key) : Option PV := (kvs.find? fun p => decide (p.1 = k)).map (·.2)
def putP (kvs : List (List Key × PV)) (k : List Key) (v : PV) : List (List Key × PV) :=
  if kvs.any fun p => decide (p.1 = k) then kvs.map fun p => if p.1 = k then (p.1, v) else p else kvs ++ [(k, v)]
def dropP (kvs : List (List Key × PV)) (k : List Key) : List (List Key × PV) := kvs.filter fun p => decide (p.1 ≠ k)

/-! ### operators on values -/
inductive Bin where | add | sub | mul | mod | fdiv | pow
  deriving DecidableEq, Repr
inductive Cmp where | eq | ne | lt | le | gt | ge | is | isNot | in_ | notIn
  deriving DecidableEq, Repr
def flat : Fl → Bool
  | .own | .frz => true
  | _ => false
def small (i : Int) : Bool := decide (i.natAbs < 18446744073709551616)
theorem small_of {i : Int} (h : small i = true) : -(2 ^ 64) < i ∧ i < 2 ^ 64 := by
  have := of_decide_eq_true h
  omega
def mulOk (i j : Int) : Bool := small i || small j || decide (i.natAbs.log2 + j.natAbs.log2 + 2 ≤ 1000000)
def divOk (j : Int) : Bool := decide (j ≠ 0) && decide (j.natAbs.log2 < 9000)
def powOk (i j : Int) : Bool := decide (0 ≤ j) && decide (j ≤ 1000000) && decide (i.natAbs < 2 ^ 64)
def sLen (n : Nat) : Bool := decide (n ≤ sizeLine)
def binP : Bin → PV → PV → Option PV
  | .add, .int i, .int j => some (.int (i + j))
  | .add, .str x, .str y => if sLen (x.length + y.length) then some (.str (x ++ y)) else none
  | .add, .lst f xs, .lst g ys => if flat f && flat g && sLen (xs.length + ys.length) then some (.lst .own (xs ++ ys)) else none
  | .add, .tup xs, .tup ys => if sLen (xs.length + ys.length) then some (.tup (xs ++ ys)) else none
  | .mul, .tup xs, .int k => if !xs.isEmpty && decide (2 ≤ k) && decide (k ≤ 1000) && decide (xs.length ≤ 1000) then some (.tup (List.replicate k.toNat xs).flatten) else none
  | .sub, .int i, .int j => some (.int (i - j))
  | .mul, .int i, .int j => if mulOk i j then some (.int (i * j)) else none
  | .mul, .lst f xs, .int k => if flat f && decide (-(2 ^ 63) ≤ k) && decide (k < 2 ^ 63) && sLen (xs.length * k.toNat) then some (.lst .own (List.replicate k.toNat xs).flatten) else none
  | .mul, .str x, .int k => if decide (-(2 ^ 63) ≤ k) && decide (k < 2 ^ 63) && sLen (x.length * k.toNat) then some (.str (Txt.mul x k)) else none
  | .mod, .int i, .int j => if decide (j ≠ 0) then some (.int (i.fmod j)) else none
  | .fdiv, .int i, .int j => if divOk j then some (.int (i.fdiv j)) else none
  | .pow, .int i, .int j => if powOk i j then some (.int (i ^ j.toNat)) else none
  | _, _, _ => none
def intsP : List PV → Option (List Int)
  | [] => some []
  | .int i :: r => (intsP r).map (i :: ·)
  | _ :: _ => none
/-! order of data: ints, texts, tuples of such -/
mutual
def ltD : PyData → PyData → Option Bool
  | .int i, .int j => some (decide (i < j))
  | .str x, .str y => some (decide (x.cps.toList < y.cps.toList))
  | .tuple xs, .tuple ys => ltDs xs ys
  | _, _ => none
def ltDs : List PyData → List PyData → Option Bool
  | [], [] => some false
  | [], _ :: _ => some true
  | _ :: _, [] => some false
  | x :: xs, y :: ys => if PyData.eqv x y then ltDs xs ys else match ltD x y, ltDs xs ys with
    | some b, some _ => some b
    | _, _ => none
end
def ltI (a b : PV) : Option Bool := match toD a, toD b with
  | some x, some y => if decide (x.depth ≤ 60) && decide (y.depth ≤ 60) then ltD x y else none
  | _, _ => none
def anyEq (x : PV) (ys : List PV) : Option Bool := match toDs ys, toD x with
  | some ds, some d => if decide (min (PyData.depthAll ds) d.depth ≤ 64) then some (ds.any fun z => PyData.eqv z d) else none
  | _, _ => none
def inP (x : PV) : PV → Option Bool
  | .lst _ ys | .tup ys | .ktp ys => anyEq x ys
  | .str z => match x with
    | .str y => match y.cps.toList with
      | [c] => some (decide (c ∈ z.cps.toList))
      | _ => none
    | _ => none
  | .dic _ d kvs => (keyP d x).map fun k => (getP kvs k).isSome
  | _ => none
def isP : PV → PV → Option Bool
  | x, .non => some (match x with | .non => true | _ => false)
  | .bl a, .bl b => some (decide (a = b))
  | _, _ => none
def cmpP : Cmp → PV → PV → Option Bool
  | .eq, a, b => eqP a b
  | .ne, a, b => (eqP a b).map (!·)
  | .lt, a, b => ltI a b
  | .gt, a, b => ltI b a
  | .le, .int i, .int j => some (decide (i ≤ j))
  | .ge, .int i, .int j => some (decide (j ≤ i))
  | .le, _, _ | .ge, _, _ => none
  | .is, a, b => isP a b
  | .isNot, a, b => (isP a b).map (!·)
  | .in_, a, b => inP a b
  | .notIn, a, b => (inP a b).map (!·)
/-- a[i] -/
def idxP : PV → PV → Option PV
  | .lst f xs, .int i => match atI xs i with
    | some v => if f = .deep then (if isOwn v then none else some v) else some (frz v)
    | none => none
  | .tup xs, .int i => (atI xs i).map frz
  | .ktp xs, .int i => (atI xs i).map frz
  | .str z, .int i => if sLen z.length then (atI z.cps.toList i).map fun c => .str ⟨#[c]⟩ else none
  | .dic _ d kvs, k => match keyP d k with
    | some k => (getP kvs k).map frz
    | none => none
  | _, _ => none
/-- a[lo:hi] -/
def cut {α : Type} (xs : List α) (lo hi : Option Int) : List α := (xs.drop (HT.sIx xs.length 0 lo)).take (HT.sIx xs.length xs.length hi - HT.sIx xs.length 0 lo)
def slcP (a : PV) (lo hi : Option Int) : Option PV := match a with
  | .lst f xs => if flat f then some (.lst .own (cut xs lo hi)) else none
  | .tup xs => some (.tup (cut xs lo hi))
  | .str z => if sLen z.length then some (.str ⟨(cut z.cps.toList lo hi).toArray⟩) else none
  | _ => none
def revP : PV → Option PV
  | .lst f xs => if flat f then some (.lst .own xs.reverse) else none
  | _ => none

/-! ### built-in functions, methods -/
inductive Blt where | len | abs | min2 | max2 | min1 | max1 | sum | sorted | tuple | list | int | str | all | lenset | isi (t : String)
  deriving DecidableEq, Repr
def blsP : List PV → Option (List Bool)
  | [] => some []
  | .bl b :: r => (blsP r).map (b :: ·)
  | _ :: _ => none
/-- the greatest by an order that is told: first of them -/
def insK (ks : List Int) (lt : List Int → List Int → Bool) (l : List (List Int)) : List (List Int) := match l with
  | [] => [ks]
  | x :: r => if lt ks x then ks :: x :: r else x :: insK ks lt r
def srtI (l : List (List Int)) : List (List Int) := l.foldr (fun x acc => insK x HT.lexLt acc) []
/-- lists of ints, or of tuples of ints, as rows of ints -/
def rowsP : List PV → Option (List (List Int))
  | [] => some []
  | .tup xs :: r => match intsP xs, rowsP r with
    | some x, some y => some (x :: y)
    | _, _ => none
  | .int i :: r => (rowsP r).map ([i] :: ·)
  | _ :: _ => none
def isTy (t : String) : PV → Bool
  | .non => t == "NoneType"
  | .bl _ => t == "bool" || t == "int"
  | .int _ => t == "int"
  | .str _ => t == "str"
  | .tup _ => t == "tuple"
  | .ktp _ => t == "tuple"
  | .lst _ _ => t == "list"
  | .dic _ _ _ => t == "dict"
/-- pairs of whole numbers -/
def sqP (p : Int × Int) : PV := .tup [.int p.1, .int p.2]
def prP : PV → Option (Int × Int)
  | .tup [.int a, .int b] => some (a, b)
  | _ => none
def prsP : List PV → Option (List (Int × Int))
  | [] => some []
  | x :: r => match prP x, prsP r with
    | some p, some ps => some (p :: ps)
    | _, _ => none
def ltQ (p q : Int × Int) : Bool := if p.1 = q.1 then decide (p.2 < q.2) else decide (p.1 < q.1)
def minQ (p : Int × Int) (ps : List (Int × Int)) : Int × Int := ps.foldl (fun a y => if ltQ y a = true then y else a) p
def maxQ (p : Int × Int) (ps : List (Int × Int)) : Int × Int := ps.foldl (fun a y => if ltQ a y = true then y else a) p
def insQ (p : Int × Int) : List (Int × Int) → List (Int × Int)
  | [] => [p]
  | q :: r => if ltQ q p = true then q :: insQ p r else p :: q :: r
def srtQ (l : List (Int × Int)) : List (Int × Int) := l.foldr insQ []
def bltP : Blt → List PV → Option PV
  | .len, [.lst _ xs] => some (.int xs.length)
  | .len, [.tup xs] => some (.int xs.length)
  | .len, [.ktp xs] => some (.int xs.length)
  | .len, [.str z] => if sLen z.length then some (.int z.length) else none
  | .len, [.dic _ _ kvs] => some (.int kvs.length)
  | .abs, [.int i] => some (.int (if i < 0 then -i else i))
  | .min2, [.int i, .int j] => some (.int (if j < i then j else i))
  | .max2, [.int i, .int j] => some (.int (if j > i then j else i))
  | .sum, [.lst .deep xs] => none
  | .sum, [.lst f xs] => (intsP xs).map fun ns => .int ns.sum
  | .tuple, [.lst f xs] => if flat f then some (.tup xs) else none
  | .tuple, [.tup xs] => some (.tup xs)
  | .list, [.lst f xs] => if flat f then some (.lst .own xs) else none
  | .list, [.tup xs] => some (.lst .own xs)
  | .list, [.dic _ .t kvs] => some (.lst .own (kvs.map fun q => .tup (q.1.map ofK)))
  | .list, [.str z] => if sLen z.length then some (.lst .own (z.cps.toList.map fun c => .str ⟨#[c]⟩)) else none
  | .int, [.int i] => some (.int i)
  | .int, [.bl b] => some (.int (if b then 1 else 0))
  | .all, [.lst .deep xs] => none
  | .all, [.lst _ xs] => (blsP xs).map fun bs => .bl (bs.all id)
  | .min1, [.dic _ .t kvs] => match prsP (kvs.map fun q => .tup (q.1.map ofK)) with
    | some (p :: ps) => some (sqP (minQ p ps))
    | _ => none
  | .min1, [.lst f xs] => if flat f then (match prsP xs with
    | some (p :: ps) => some (sqP (minQ p ps))
    | _ => none) else none
  | .max1, [.lst f xs] => if flat f then (match prsP xs with
    | some (p :: ps) => some (sqP (maxQ p ps))
    | _ => none) else none
  | .sorted, [.lst f xs] => if flat f then (prsP xs).map fun ps => .lst .own ((srtQ ps).map sqP) else none
  | .isi t, [.dic .own d kvs] => some (.bl (isTy t (.dic .own d kvs)))
  | .isi _, [.dic _ _ _] => none
  | .isi t, [v] => some (.bl (isTy t v))
  | _, _ => none
inductive Mth where | join | items | index
  deriving DecidableEq, Repr
def strsP : List PV → Option (List Str)
  | [] => some []
  | .str x :: r => (strsP r).map (x :: ·)
  | _ :: _ => none
def mthP : Mth → PV → List PV → Option PV
  | .join, .str a, [.lst _ xs] => match strsP xs with
    | some ys => if decide ((ys.map (·.length)).sum + a.length * ys.length ≤ 16777216) then some (.str (Txt.join a ys)) else none
    | none => none
  | .index, .lst f xs, [p] => if flat f then (match prsP xs, prP p with
    | some ps, some q => if decide (q ∈ ps) then some (.int (ps.idxOf q : Nat)) else none
    | _, _ => match strsP xs, p with
      | some ys, .str x => if decide (x ∈ ys) && ys.all PyData.strOk then some (.int (ys.idxOf x : Nat)) else none
      | _, _ => none) else none
  | _, _, _ => none

/-! ### core terms -/
inductive CT where
  | var (i : Nat) | tup (is : List Nat)
  deriving Repr
/-- plain indices -/
inductive IK where
  | lit (i : Int) | var (k : Nat) | at_ (k : Nat) (i : Int)
  deriving Repr
mutual
inductive CE where
  | var (i : Nat) | mv (i : Nat)
  | lit (v : PV)
  | glb (x : String) (v : PV)
  | bin (op : Bin) (a b : CE)
  | neg (a : CE)
  | cmp (op : Cmp) (a b : CE)
  | chn (o1 o2 : Cmp) (a b c : CE)
  | and (a b : CE) | or (a b : CE) | not (a : CE)
  | ite (c a b : CE)
  | tup (es : CEs)
  | lst (deep : Bool) (es : CEs)
  | dic (d : DK) (ps : CPs)
  | dic1 (k v : CE)
  | idx (a i : CE)
  | idx2 (j : Nat) (a b : IK)
  | slc (a : CE) (lo hi : CO)
  | rev (a : CE)
  | call (f : String) (cf : CF) (es : CEs)
  | prm (f : String) (p : List PV → Option PV) (es : CEs)
  | blt (b : Blt) (es : CEs)
  | mth (m : Mth) (o : CE) (es : CEs)
  | ixl (i : Nat) (e : CE)
  | get (i : Nat) (k : CE) (d : Option PV)
  | sidx (o e : CE)
  | brw (j : Nat) (e : CE)
  | rpl (a : CE) (y z : Str)
  | lc (deep : Bool) (vs : List Nat) (t : CT) (it : CI) (c : CO) (e : CE)
  | lc2 (vs vs1 : List Nat) (t : CT) (it : CI) (c : CO) (t1 : CT) (it1 : CI) (c1 : CO) (e : CE)
inductive CEs where | nil | cons (e : CE) (r : CEs)
inductive CPs where | nil | cons (k v : CE) (r : CPs)
inductive CO where | no | yes (e : CE)
inductive CI where
  | rng1 (a : CE) | rng2 (a b : CE) | val (e : CE) | keys (e : CE) | items (e : CE) | values (e : CE) | keysF (j : Nat) | itemsF (j : Nat)
inductive CS where
  | expr (e : CE)
  | asg (t : CT) (e : CE)
  | par (i j : Nat) (a b : CE)
  | sti (i : Nat) (k e : CE)
  | sti2 (i : Nat) (a b : IK) (e : CE)
  | app (i : Nat) (e : CE)
  | ext (i : Nat) (e : CE)
  | del (i : Nat) (k : CE)
  | ret (e : CO)
  | ite (c : CE) (a b : CSs)
  | whl (c : CE) (b : CSs)
  | for_ (t : CT) (it : CI) (b : CSs)
  | ali (l g : Nat) (k b : IK) (i : Nat) (x y : Str)
  | brk | cnt | pass | rais
inductive CSs where | nil | cons (s : CS) (r : CSs)
inductive CF where | mk (ps : Nat) (ns : List String) (b : CSs)
end

/-! ### the evaluator -/
inductive Arg where
  | val (v : PV) | ref (i : Nat)
inductive Flow where
  | nxt | ret (v : PV) | brk | cnt
def slot (env : Env) (i : Nat) : Option PV := (env[i]?).join
def getA (env : Env) : Arg → Option PV
  | .val v => some v
  | .ref i => slot env i
def getAs (env : Env) : List Arg → Option (List PV)
  | [] => some []
  | a :: r => match getA env a, getAs env r with
    | some v, some vs => some (v :: vs)
    | _, _ => none
/-- the arguments of a call: own slots are lent (taken out of the frame), each once -/
def lend (env : Env) : List Arg → Option (List PV × Env)
  | [] => some ([], env)
  | .val v :: r => match lend env r with
    | some (vs, e) => some (v :: vs, e)
    | none => none
  | .ref i :: r => match slot env i with
    | some v => if isOwn v then
        (match lend (env.set i none) r with
        | some (vs, e) => some (v :: vs, e)
        | none => none)
      else (match lend env r with
        | some (vs, e) => some (v :: vs, e)
        | none => none)
    | none => none
/-- behind the call: what was lent comes back -/
def back (env : Env) : List Arg → List PV → List PV → Env
  | .ref i :: r, v :: vs, o :: os => back (if isOwn v then env.set i (some o) else env) r vs os
  | .val _ :: r, _ :: vs, _ :: os => back env r vs os
  | _, _, _ => env
def setT (t : CT) (v : PV) (env : Env) : Option Env := match t with
  | .var i => some (env.set i (some v))
  | .tup is => match v with
    | .tup xs => if xs.length = is.length then some ((is.zip xs).foldl (fun e p => e.set p.1 (some (frz p.2))) env) else none
    | .ktp xs => if xs.length = is.length then some ((is.zip xs).foldl (fun e p => e.set p.1 (some (frz p.2))) env) else none
    | .lst f xs => if flat f then (if xs.length = is.length then some ((is.zip xs).foldl (fun e p => e.set p.1 (some (frz p.2))) env) else none) else none
    | _ => none
def setIx (f : Fl) (xs : List PV) (k v : PV) : Option PV := match k with
  | .int i => match ixN xs.length i with
    | some j => some (.lst f (xs.set j v))
    | none => none
  | _ => none
def stiP (c k v : PV) : Option PV := match c with
  | .lst .own xs => setIx .own xs k (frz v)
  | .dic .own d kvs => match keyP d k with
    | some q => if decide (kvs.length < sizeLine) then some (.dic .own d (putP kvs q (frz v))) else none
    | none => none
  | _ => none
/-- what a for walks -/
def itemsP (v : PV) : Option (List PV) := match v with
  | .lst _ xs => some (xs.map frz)
  | .tup xs => some (xs.map frz)
  | .ktp xs => some (xs.map frz)
  | .str z => some (z.cps.toList.map fun c => .str ⟨#[c]⟩)
  | _ => none
def rngOk (i : Int) : Bool := decide (i.natAbs < 4611686018427387904)
theorem rngOk_of {i : Int} (h : rngOk i = true) : -(2 ^ 62) ≤ i ∧ i < 2 ^ 62 := by
  have := of_decide_eq_true h
  omega
def rngP (a b : Int) : List PV := (List.range (b - a).toNat).map fun k => .int (a + (k : Nat))
def wipeE (env : Env) : List Nat → Env
  | [] => env
  | v :: vs => (wipeE env vs).set v none
/-- what the slots vs held comes back -/
def restE (env old : Env) : List Nat → Env
  | [] => env
  | v :: vs => restE (env.set v (slot old v)) old vs
/-- a comprehension's slots: each once, nothing own in them, its target's among them -/
def wipeOk (env : Env) (vs ts : List Nat) : Bool := decide vs.Nodup && (vs.all fun v => match slot env v with
  | some p => !isOwn p
  | none => true) && ts.all fun i => vs.contains i
/-- a loop over items -/
def loopF (b : PV → Env → R (Flow × Env)) : List PV → Env → R (Flow × Env)
  | [], env => .ok (.nxt, env)
  | x :: xs, env => (b x env).bind fun p => match p.1 with
    | .nxt => loopF b xs p.2
    | .cnt => loopF b xs p.2
    | .brk => .ok (.nxt, p.2)
    | .ret v => .ok (.ret v, p.2)
/-- a comprehension over items: what is made so far, the frame -/
def loopL (b : PV → List PV → Env → R (List PV × Env)) : List PV → List PV → Env → R (List PV × Env)
  | [], acc, env => .ok (acc, env)
  | x :: xs, acc, env => (b x acc env).bind fun p => loopL b xs p.1 p.2
def loopW (c : Env → R (PV × Env)) (b : Env → R (Flow × Env)) : Nat → Env → R (Flow × Env)
  | 0, _ => .stuck
  | n + 1, env => (c env).bind fun p => match p.1 with
    | .bl true => (b p.2).bind fun q => match q.1 with
      | .nxt => loopW c b n q.2
      | .cnt => loopW c b n q.2
      | .brk => .ok (.nxt, q.2)
      | .ret v => .ok (.ret v, q.2)
    | .bl false => .ok (.nxt, p.2)
    | _ => .stuck
def FUEL : Nat := 1099511627776
def asgT : CT → List Nat
  | .var i => [i]
  | .tup is => is
mutual
/-- the slots that a statement assigns -/
def asgS : CS → List Nat
  | .asg t _ => asgT t
  | .par i j _ _ => [i, j]
  | .ite _ a b => asgB a ++ asgB b
  | .whl _ b => asgB b
  | .for_ t _ b => asgT t ++ asgB b
  | .ali l _ _ _ _ _ _ => [l]
  | _ => []
def asgB : CSs → List Nat
  | .nil => []
  | .cons s r => asgS s ++ asgB r
end
def freeA (vs : List PV) (A : List Nat) : Bool := A.all fun i => match vs[i]? with
  | some v => !isOwn v
  | none => true
def bool? : PV → Option Bool
  | .bl b => some b
  | _ => none
def int? : PV → Option Int
  | .int i => some i
  | _ => none
/-- own slots of parameters come back; a parameter that was not own is as it was -/
def outs (env : Env) : List PV → Nat → Option (List PV)
  | [], _ => some []
  | v :: vs, i => match outs env vs (i + 1) with
    | some os => if isOwn v then (slot env i).map (· :: os) else some (v :: os)
    | none => none
/-- reading a slot as a value: what was own is frozen -/
def rdS (env : Env) (i : Nat) : R (PV × Env) := match slot env i with
  | some v => if isOwn v then .ok (frz v, env.set i (some (frz v))) else .ok (v, env)
  | none => .stuck
def mvS (env : Env) (i : Nat) : R (PV × Env) := match slot env i with
  | some v => if isOwn v then .ok (v, env.set i none) else .ok (v, env)
  | none => .stuck
/-- an operand: a name of a slot is looked up when it is used -/
def asA (c : CE) (r : R (PV × Env)) (env : Env) : R (Arg × Env) := match c with
  | .var i => match slot env i with
    | some _ => .ok (.ref i, env)
    | none => .stuck
  | _ => r.bind fun p => .ok (.val p.1, p.2)
def evK (k : IK) (env : Env) : Option Int := match k with
  | .lit i => some i
  | .var k => match slot env k with
    | some (.int i) => some i
    | _ => none
  | .at_ k i => match slot env k with
    | some (.tup xs) => match atI xs i with
      | some (.int i) => some i
      | _ => none
    | some (.lst .frz xs) => match atI xs i with
      | some (.int i) => some i
      | _ => none
    | _ => none
/-- only what is not own stays -/
def dropO (env : Env) : Env := env.map fun o => match o with
  | some v => if isOwn v then none else some v
  | none => none
/-- what holds nothing that can change -/
def plainR : PV → Bool
  | .non | .bl _ | .int _ | .str _ => true
  | .tup xs => (strsP xs).isSome
  | _ => false
def ownL : Option PV → Bool
  | some (.lst .own _) => true
  | some (.lst .deep _) => true
  | _ => false
/-- what a deep list holds: own flat lists, frozen things -/
def frz1 : PV → PV
  | .lst .own xs => .lst .own xs
  | v => frz v
/-- a frozen dict -/
def frzD (env : Env) (j : Nat) : Option (List (List Key × PV)) := match slot env j with
  | some (.dic .frz .t kvs) => some kvs
  | some (.dic .ro .t kvs) => some kvs
  | _ => none
/-- a dict that nobody else walks: it is frozen from here on -/
def ownD (a : Arg) (env : Env) : Option (List (List Key × PV) × Env) := match a with
  | .val (.dic .own .t kvs) => some (kvs, env)
  | .ref i => match slot env i with
    | some (.dic .own .t kvs) => some (kvs, env.set i (some (.dic .frz .t kvs)))
    | _ => none
  | _ => none
mutual
def ev : CE → Env → R (PV × Env)
  | .var i, env => rdS env i
  | .mv i, env => mvS env i
  | .lit v, env => .ok (v, env)
  | .glb _ v, env => .ok (v, env)
  | .bin op a b, env => (asA a (ev a env) env).bind fun p => (asA b (ev b p.2) p.2).bind fun q => match getA q.2 p.1, getA q.2 q.1 with
    | some x, some y => (R.of (binP op x y)).bind fun z => .ok (z, q.2)
    | _, _ => .stuck
  | .neg a, env => (ev a env).bind fun p => match p.1 with
    | .int i => .ok (.int (-i), p.2)
    | _ => .stuck
  | .cmp op a b, env => (asA a (ev a env) env).bind fun p => (asA b (ev b p.2) p.2).bind fun q => match getA q.2 p.1, getA q.2 q.1 with
    | some x, some y => (R.of (cmpP op x y)).bind fun z => .ok (.bl z, q.2)
    | _, _ => .stuck
  | .chn o1 o2 a b c, env => (asA a (ev a env) env).bind fun p => (ev b p.2).bind fun q => match getA q.2 p.1 with
    | some x => (R.of (cmpP o1 x q.1)).bind fun z => match z with
      | false => .ok (.bl false, q.2)
      | true => (asA c (ev c q.2) q.2).bind fun r => match getA r.2 r.1 with
        | some w => (R.of (cmpP o2 q.1 w)).bind fun z => .ok (.bl z, r.2)
        | none => .stuck
    | none => .stuck
  | .and a b, env => (ev a env).bind fun p => match p.1 with
    | .bl true => ev b p.2
    | .bl false => .ok (.bl false, p.2)
    | _ => .stuck
  | .or a b, env => (ev a env).bind fun p => match p.1 with
    | .bl true => .ok (.bl true, p.2)
    | .bl false => ev b p.2
    | _ => .stuck
  | .not a, env => (ev a env).bind fun p => match p.1 with
    | .bl b => .ok (.bl (!b), p.2)
    | _ => .stuck
  | .ite c a b, env => (ev c env).bind fun p => match p.1 with
    | .bl true => ev a p.2
    | .bl false => ev b p.2
    | _ => .stuck
  | .tup es, env => (evs es env).bind fun p => if sLen p.1.length then .ok (.tup (p.1.map frz), p.2) else .stuck
  | .lst deep es, env => (evs es env).bind fun p => if sLen p.1.length then .ok (if deep then .lst .deep (p.1.map frz1) else .lst .own (p.1.map frz), p.2) else .stuck
  | .dic d ps, env => (evp d ps env).bind fun p => .ok (.dic .own d p.1, p.2)
  | .dic1 k v, env => (ev k env).bind fun p => (ev v p.2).bind fun q => (R.of (keyP .t p.1)).bind fun x => .ok (.dic .own .t [(x, frz q.1)], q.2)
  | .idx a i, env => (asA a (ev a env) env).bind fun p => (ev i p.2).bind fun q => match getA q.2 p.1 with
    | some x => (R.of (idxP x q.1)).bind fun z => .ok (z, q.2)
    | none => .stuck
  | .idx2 j a b, env => match slot env j, evK a env, evK b env with
    | some (.lst .deep xs), some i, some k => match atI xs i with
      | some (.lst .own ys) => (R.of (atI ys k)).bind fun z => .ok (frz z, env)
      | _ => .stuck
    | _, _, _ => .stuck
  | .slc a lo hi, env => (asA a (ev a env) env).bind fun p => (evO lo p.2).bind fun l => (evO hi l.2).bind fun h => match getA h.2 p.1 with
    | some x => (R.of (slcP x l.1 h.1)).bind fun z => .ok (z, h.2)
    | none => .stuck
  | .rev a, env => (asA a (ev a env) env).bind fun p => match getA p.2 p.1 with
    | some x => (R.of (revP x)).bind fun z => .ok (z, p.2)
    | none => .stuck
  | .call _ cf es, env => (evAs es env).bind fun p => match lend p.2 p.1 with
    | some (vs, e) => (run cf vs).bind fun r => .ok (r.1, back e p.1 vs r.2)
    | none => .stuck
  | .prm _ f es, env => (evAs es env).bind fun p => match getAs p.2 p.1 with
    | some vs => (R.of (f vs)).bind fun z => .ok (z, p.2)
    | none => .stuck
  | .blt b es, env => (evAs es env).bind fun p => match getAs p.2 p.1 with
    | some vs => (R.of (bltP b vs)).bind fun z => .ok (z, p.2)
    | none => .stuck
  | .mth m o es, env => (asA o (ev o env) env).bind fun q => (evAs es q.2).bind fun p => match getA p.2 q.1, getAs p.2 p.1 with
    | some x, some vs => (R.of (mthP m x vs)).bind fun z => .ok (z, p.2)
    | _, _ => .stuck
  | .rpl a y z, env => (ev a env).bind fun p => match p.1 with
    | .str x => if decide (x.length + (x.length + 1) * z.length ≤ 16777216) then .ok (.str (Txt.replace x y z), p.2) else .stuck
    | _ => .stuck
  | .brw j e, env => match slot env j with
    | some (.lst .deep xs) => (ev e (dropO (env.set j (some (.lst .frz xs))))).bind fun p => if plainR p.1 then .ok (p.1, env) else .stuck
    | _ => .stuck
  | .ixl i e, env => match slot env i with
    | some (.lst f _) => if flat f then (ev e env).bind fun p => match slot p.2 i with
        | some x => (R.of (mthP .index x [p.1])).bind fun z => .ok (z, p.2)
        | none => .stuck
      else .stuck
    | _ => .stuck
  | .get i k d, env => match slot env i with
    | some (.dic _ _ _) => (ev k env).bind fun p => match slot p.2 i with
      | some (.dic _ dk kvs) => (R.of (keyP dk p.1)).bind fun q => .ok ((match getP kvs q with
        | some v => frz v
        | none => frz (d.getD .non)), p.2)
      | _ => .stuck
    | _ => .stuck
  | .sidx o e, env => (asA o (ev o env) env).bind fun p => match getA p.2 p.1 with
    | some (.str x) => (ev e p.2).bind fun q => match q.1 with
      | .str y => (R.of (Txt.index0 x y)).bind fun k => .ok (.int (k : Nat), q.2)
      | _ => .stuck
    | _ => .stuck
  | .lc deep vs t it c e, env => (evI it env).bind fun p => if wipeOk p.2 vs (asgT t) then
      (loopL (fun x acc en => match setT t x en with
        | some e1 => (evC c e1).bind fun q => if q.1 then (ev e q.2).bind fun r => if decide (acc.length < sizeLine) then .ok (acc ++ [if deep then frz1 r.1 else frz r.1], wipeE r.2 vs) else .stuck
            else .ok (acc, wipeE q.2 vs)
        | none => .stuck) p.1 [] (wipeE p.2 vs)).bind fun r => .ok (if deep then .lst .deep r.1 else .lst .own r.1, restE r.2 p.2 vs)
    else .stuck
  | .lc2 vs vs1 t it c t1 it1 c1 e, env => (evI it env).bind fun p => if wipeOk p.2 vs (asgT t) && vs1.all (fun i => vs.contains i) && (asgT t1).all (fun i => vs1.contains i) then
      (loopL (fun x acc en => match setT t x en with
        | some e1 => (evC c e1).bind fun q => if q.1 then (evI it1 q.2).bind fun p1 =>
            (loopL (fun x1 acc1 en1 => match setT t1 x1 en1 with
              | some e2 => (evC c1 e2).bind fun q1 => if q1.1 then (ev e q1.2).bind fun r => if decide (acc1.length < sizeLine) then .ok (acc1 ++ [frz r.1], wipeE r.2 vs1) else .stuck
                  else .ok (acc1, wipeE q1.2 vs1)
              | none => .stuck) p1.1 acc (wipeE p1.2 vs1)).bind fun r => .ok (r.1, wipeE r.2 vs)
            else .ok (acc, wipeE q.2 vs)
        | none => .stuck) p.1 [] (wipeE p.2 vs)).bind fun r => .ok (.lst .own r.1, restE r.2 p.2 vs)
    else .stuck
def evs : CEs → Env → R (List PV × Env)
  | .nil, env => .ok ([], env)
  | .cons e r, env => (ev e env).bind fun p => (evs r p.2).bind fun q => .ok (p.1 :: q.1, q.2)
def evAs : CEs → Env → R (List Arg × Env)
  | .nil, env => .ok ([], env)
  | .cons e r, env => (asA e (ev e env) env).bind fun p => (evAs r p.2).bind fun q => .ok (p.1 :: q.1, q.2)
def evp (d : DK) : CPs → Env → R (List (List Key × PV) × Env)
  | .nil, env => .ok ([], env)
  | .cons k v .nil, env => (ev k env).bind fun p => (ev v p.2).bind fun q => (R.of (keyP d p.1)).bind fun x => .ok ([(x, frz q.1)], q.2)
  | .cons _ _ _, _ => .stuck
def evO : CO → Env → R (Option Int × Env)
  | .no, env => .ok (none, env)
  | .yes e, env => (ev e env).bind fun p => (R.of (int? p.1)).bind fun i => .ok (some i, p.2)
def evC : CO → Env → R (Bool × Env)
  | .no, env => .ok (true, env)
  | .yes e, env => (ev e env).bind fun p => (R.of (bool? p.1)).bind fun b => .ok (b, p.2)
def evI : CI → Env → R (List PV × Env)
  | .rng1 a, env => (ev a env).bind fun p => match p.1 with
    | .int i => if rngOk i then .ok (rngP 0 i, p.2) else .stuck
    | _ => .stuck
  | .rng2 a b, env => (ev a env).bind fun p => (ev b p.2).bind fun q => match p.1, q.1 with
    | .int i, .int j => if rngOk i && rngOk j then .ok (rngP i j, q.2) else .stuck
    | _, _ => .stuck
  | .val e, env => (ev e env).bind fun p => (R.of (itemsP p.1)).bind fun xs => .ok (xs, p.2)
  | .keys e, env => (asA e (ev e env) env).bind fun p => (R.of (ownD p.1 p.2)).bind fun q => .ok (q.1.map fun r => .tup (r.1.map ofK), q.2)
  | .items e, env => (asA e (ev e env) env).bind fun p => (R.of (ownD p.1 p.2)).bind fun q => .ok (q.1.map fun r => .tup [.tup (r.1.map ofK), frz r.2], q.2)
  | .values e, env => (ev e env).bind fun p => match p.1 with
    | .dic _ _ kvs => .ok (kvs.map fun q => frz q.2, p.2)
    | _ => .stuck
  | .keysF j, env => (R.of (frzD env j)).bind fun q => .ok (q.map fun r => .tup (r.1.map ofK), env)
  | .itemsF j, env => (R.of (frzD env j)).bind fun q => .ok (q.map fun r => .tup [.tup (r.1.map ofK), frz r.2], env)
def ex : CS → Env → R (Flow × Env)
  | .expr e, env => (ev e env).bind fun p => .ok (.nxt, p.2)
  | .asg t e, env => (ev e env).bind fun p => match setT t p.1 p.2 with
    | some e1 => .ok (.nxt, e1)
    | none => .stuck
  | .par i j a b, env => (ev a env).bind fun p => (ev b p.2).bind fun q => .ok (.nxt, (q.2.set i (some p.1)).set j (some q.1))
  | .sti i k e, env => (ev e env).bind fun p => match slot p.2 i with
    | some _ => (ev k p.2).bind fun q => match slot q.2 i with
      | some c => (R.of (stiP c q.1 p.1)).bind fun z => .ok (.nxt, q.2.set i (some z))
      | none => .stuck
    | none => .stuck
  | .sti2 j a b e, env => (ev e env).bind fun r => match slot r.2 j, evK a r.2, evK b r.2 with
    | some (.lst .deep xs), some i, some k => match ixN xs.length i with
      | some n => match xs[n]? with
        | some (.lst .own ys) => (R.of (setIx .own ys (.int k) (frz r.1))).bind fun z => .ok (.nxt, r.2.set j (some (.lst .deep (xs.set n z))))
        | _ => .stuck
      | none => .stuck
    | _, _, _ => .stuck
  | .ali l g k b i x y, env => match slot env g, evK k env, evK b env, slot env i with
    | some (.lst .deep xs), some n, some j, some (.bl c) => match ixN xs.length n with
      | some m => match xs[m]? with
        | some (.lst .own ys) => (R.of (if decide (l < env.length) then setIx .own ys (.int j) (.str (if c then x else y)) else none)).bind fun z => .ok (.nxt, (env.set l none).set g (some (.lst .deep (xs.set m z))))
        | _ => .stuck
      | none => .stuck
    | _, _, _, _ => .stuck
  | .app i e, env => if ownL (slot env i) then (ev e env).bind fun p => match slot p.2 i with
      | some (.lst .own xs) => if decide (xs.length < sizeLine) then .ok (.nxt, p.2.set i (some (.lst .own (xs ++ [frz p.1])))) else .stuck
      | some (.lst .deep xs) => if decide (xs.length < sizeLine) then .ok (.nxt, p.2.set i (some (.lst .deep (xs ++ [frz1 p.1])))) else .stuck
      | _ => .stuck
    else .stuck
  | .ext i e, env => if ownL (slot env i) then (ev e env).bind fun p => match slot p.2 i, p.1 with
      | some (.lst .own xs), .lst f ys => if flat f && sLen (xs.length + ys.length) then .ok (.nxt, p.2.set i (some (.lst .own (xs ++ ys)))) else .stuck
      | _, _ => .stuck
    else .stuck
  | .del i k, env => (ev k env).bind fun p => match slot p.2 i with
    | some (.dic .own d kvs) => (R.of (keyP d p.1)).bind fun q => if (getP kvs q).isSome then .ok (.nxt, p.2.set i (some (.dic .own d (dropP kvs q)))) else .stuck
    | _ => .stuck
  | .ret .no, env => .ok (.ret .non, env)
  | .ret (.yes e), env => (ev e env).bind fun p => .ok (.ret p.1, p.2)
  | .ite c a b, env => (ev c env).bind fun p => match p.1 with
    | .bl true => exs a p.2
    | .bl false => exs b p.2
    | _ => .stuck
  | .whl c b, env => loopW (ev c) (exs b) FUEL env
  | .for_ t it b, env => (evI it env).bind fun p => loopF (fun x en => match setT t x en with
      | some e1 => exs b e1
      | none => .stuck) p.1 p.2
  | .brk, env => .ok (.brk, env)
  | .cnt, env => .ok (.cnt, env)
  | .pass, env => .ok (.nxt, env)
  | .rais, env => .stuck
def exs : CSs → Env → R (Flow × Env)
  | .nil, env => .ok (.nxt, env)
  | .cons s r, env => (ex s env).bind fun p => match p.1 with
    | .nxt => exs r p.2
    | f => .ok (f, p.2)
def run : CF → List PV → R (PV × List PV)
  | .mk ps ns b, vs => if vs.length = ps ∧ ps ≤ ns.length ∧ freeA vs (asgB b) = true then
      (exs b (vs.map some ++ List.replicate (ns.length - ps) none)).bind fun p => match p.1 with
        | .ret v => (R.of (outs p.2 vs 0)).bind fun os => .ok (v, os)
        | .nxt => (R.of (outs p.2 vs 0)).bind fun os => .ok (.non, os)
        | _ => .stuck
    else .stuck
termination_by structural c => c
end
end EL

set_option maxRecDepth 100000
/-! EL2: what stands for what; owned and stable addresses -/
namespace EL
open PySem L2
abbrev AS := Addr → Prop
/-- what stands at a may be changed -/
def Mu (H : Hp) (a : Addr) : Prop := match H a with
  | some (.lst _) => True
  | some (.dK _) => True
  | some (.dT _) => True
  | _ => False
theorem Mu.lst {H : Hp} {a : Addr} {vs : List V} (h : H a = some (.lst vs)) : Mu H a := by unfold Mu; rw [h]; trivial
theorem Mu.dK {H : Hp} {a : Addr} {vs} (h : H a = some (.dK vs)) : Mu H a := by unfold Mu; rw [h]; trivial
theorem Mu.dT {H : Hp} {a : Addr} {vs} (h : H a = some (.dT vs)) : Mu H a := by unfold Mu; rw [h]; trivial
theorem Mu.ex {H : Hp} {a : Addr} (h : Mu H a) : ∃ o, H a = some o := by
  unfold Mu at h
  cases e : H a with
  | none => rw [e] at h; exact h.elim
  | some o => exact ⟨o, rfl⟩
theorem Mu.not_tup {H : Hp} {a : Addr} {vs} (h : H a = some (.tup vs)) : ¬ Mu H a := by unfold Mu; rw [h]; exact id
theorem Mu.not_frz {H : Hp} {a : Addr} {o u} (h : H a = some (.frz o u)) : ¬ Mu H a := by unfold Mu; rw [h]; exact id

def KLst (K : PySem.W.Frag) (a : Addr) (xs : List V) : Prop :=
  ∃ (o : Obj) (its : Array Value) (n : Nat), K.lookup a = some o ∧ o.cls = .type "list" ∧ o.dict = none ∧ o.data = .seq its n ∧ its.size ≤ sizeLine ∧ Vals xs its.toList
/-- a list that is read -/
def LsF (K : PySem.W.Frag) (H : Hp) (S : AS) (f : Fl) (a : Addr) (vs : List V) : Prop :=
  if f = .ro then (∃ o, H a = some (.frz o (.lst vs))) ∨ KLst K a vs else H a = some (.lst vs) ∧ S a
/-- a dict that is read: its pairs, the keys as rows -/
def DAt (H : Hp) (d : DK) (a : Addr) (ks : List (List Key × V)) : Prop := match d with
  | .t => Rd H a (.dT ks)
  | .k => ∃ kk : List (Key × V), Rd H a (.dK kk) ∧ ks = kk.map fun p => ([p.1], p.2)
/-- a dict of one's own -/
def DOw (H : Hp) (d : DK) (a : Addr) (ks : List (List Key × V)) : Prop := match d with
  | .t => H a = some (.dT ks)
  | .k => ∃ kk : List (Key × V), H a = some (.dK kk) ∧ ks = kk.map fun p => ([p.1], p.2)
theorem DOw.at {H : Hp} {d : DK} {a : Addr} {ks} (h : DOw H d a ks) : DAt H d a ks := by
  cases d with
  | t => exact .inl h
  | k => obtain ⟨kk, h1, h2⟩ := h; exact ⟨kk, .inl h1, h2⟩
theorem DOw.mu {H : Hp} {d : DK} {a : Addr} {ks} (h : DOw H d a ks) : Mu H a := by
  cases d with
  | t => exact Mu.dT h
  | k => obtain ⟨kk, h1, h2⟩ := h; exact Mu.dK h1
mutual
/-- what is read: frozen lists and dicts stand at stable addresses -/
def RepF (K : PySem.W.Frag) (H : Hp) (S : AS) : PV → V → Prop
  | .non, v => v = .non
  | .bl b, v => v = .bl b
  | .int i, v => v = .int i
  | .str x, v => v = .str x
  | .tup xs, v => ∃ a vs, v = .ref a ∧ H a = some (.tup vs) ∧ RepFs K H S xs vs
  | .ktp xs, v => ∃ a vs, v = .ref a ∧ SqT K H a vs ∧ RepFs K H S xs vs
  | .lst f xs, v => ∃ a vs, v = .ref a ∧ LsF K H S f a vs ∧ RepFs K H S xs vs
  | .dic _ d kvs, v => ∃ a ks, v = .ref a ∧ S a ∧ DAt H d a ks ∧ RepKs K H S kvs ks
def RepFs (K : PySem.W.Frag) (H : Hp) (S : AS) : List PV → List V → Prop
  | [], vs => vs = []
  | x :: xs, vs => ∃ v ws, vs = v :: ws ∧ RepF K H S x v ∧ RepFs K H S xs ws
def RepP (K : PySem.W.Frag) (H : Hp) (S : AS) : List Key × PV → List Key × V → Prop
  | (k, p), q => q.1 = k ∧ RepF K H S p q.2
def RepKs (K : PySem.W.Frag) (H : Hp) (S : AS) : List (List Key × PV) → List (List Key × V) → Prop
  | [], vs => vs = []
  | x :: xs, vs => ∃ v ws, vs = v :: ws ∧ RepP K H S x v ∧ RepKs K H S xs ws
termination_by structural p => p
end
/-- a list that a deep list holds of its own -/
def Rep1 (K : PySem.W.Frag) (H : Hp) (S : AS) (p : PV) (v : V) (F : AS) : Prop := match p with
  | .lst .own xs => ∃ a vs, v = .ref a ∧ H a = some (.lst vs) ∧ F a ∧ RepFs K H S xs vs
  | p => isOwn p = false ∧ RepF K H S p v
def Dis (F G : AS) : Prop := ∀ a, F a → G a → False
def Sub (F G : AS) : Prop := ∀ a, F a → G a
def Rep1s (K : PySem.W.Frag) (H : Hp) (S : AS) : List PV → List V → AS → Prop
  | [], vs, _ => vs = []
  | x :: xs, vs, F => ∃ v ws F1 F2, vs = v :: ws ∧ Sub F1 F ∧ Sub F2 F ∧ Dis F1 F2 ∧ Rep1 K H S x v F1 ∧ Rep1s K H S xs ws F2
/-- a value of one's own: its lists and dicts stand in F -/
def RepO (K : PySem.W.Frag) (H : Hp) (S : AS) (p : PV) (v : V) (F : AS) : Prop := match p with
  | .lst .own xs => ∃ a vs, v = .ref a ∧ H a = some (.lst vs) ∧ F a ∧ RepFs K H S xs vs
  | .lst .deep xs => ∃ a vs F1, v = .ref a ∧ H a = some (.lst vs) ∧ F a ∧ Sub F1 F ∧ ¬ F1 a ∧ Rep1s K H S xs vs F1
  | .dic .own d kvs => ∃ a ks, v = .ref a ∧ DOw H d a ks ∧ F a ∧ RepKs K H S kvs ks
  | .dic .deep _ _ => False
  | p => RepF K H S p v
/-- the frame's slots -/
def REnv (K : PySem.W.Frag) (H : Hp) (S : AS) : Env → St → AS → Prop
  | [], s, _ => s = []
  | none :: e, s, F => ∃ x t, s = x :: t ∧ REnv K H S e t F
  | some p :: e, s, F => ∃ v t F1 F2, s = some v :: t ∧ Sub F1 F ∧ Sub F2 F ∧ Dis F1 F2 ∧ RepO K H S p v F1 ∧ REnv K H S e t F2

/-- the state: the slots, stable addresses S, owned ones F -/
structure M (K : PySem.W.Frag) (env : Env) (σ : St) (H : Hp) (S F : AS) : Prop where
  en : REnv K H S env σ F
  dj : Dis S F
  mu : ∀ a, F a → Mu H a
  st : ∀ a, S a → H a ≠ none
structure Step (H : Hp) (S F : AS) (H' : Hp) (S' F' : AS) : Prop where
  sub : Sub S S'
  new : ∀ a, S' a ∨ F' a → S a ∨ F a ∨ H a = none
  fr : ∀ b o, H b = some o → ¬ F b → H' b = some o

section
variable {K : PySem.W.Frag} {H H' H2 : Hp} {S S' S2 F F' F2 G : AS}
theorem Step.refl : Step H S F H S F := ⟨fun _ h => h, fun _ h => h.elim .inl fun h => .inr (.inl h), fun _ _ h _ => h⟩
theorem Step.none_of (s : Step H S F H' S' F') {a : Addr} (h : H' a = none) : H a = none ∨ F a := by
  cases e : H a with
  | none => exact .inl rfl
  | some o =>
    by_cases hf : F a
    · exact .inr hf
    · rw [s.fr a o e hf] at h; cases h
theorem Step.trans (s : Step H S F H' S' F') (t : Step H' S' F' H2 S2 F2) (dj : Dis S' F') : Step H S F H2 S2 F2 := by
  refine ⟨fun a h => t.sub a (s.sub a h), fun a h => ?_, fun b o e hb => ?_⟩
  · rcases t.new a h with h | h | h
    · exact s.new a (.inl h)
    · exact s.new a (.inr h)
    · rcases s.none_of h with h | h
      · exact .inr (.inr h)
      · exact .inr (.inl h)
  · refine t.fr b o (s.fr b o e hb) fun hf => ?_
    rcases s.new b (.inr hf) with h | h | h
    · exact dj b (s.sub b h) hf
    · exact hb h
    · rw [e] at h; cases h
/-- what is kept: the stable addresses, what cannot be changed -/
structure Kept (H : Hp) (S : AS) (H' : Hp) (S' : AS) : Prop where
  sub : Sub S S'
  st : ∀ a o, S a → H a = some o → H' a = some o
  im : ∀ a o, ¬ Mu H a → H a = some o → H' a = some o
theorem Kept.refl : Kept H S H S := ⟨fun _ h => h, fun _ _ _ h => h, fun _ _ _ h => h⟩
theorem Kept.trans (s : Kept H S H' S') (t : Kept H' S' H2 S2) : Kept H S H2 S2 := by
  refine ⟨fun a h => t.sub a (s.sub a h), fun a o ha h => t.st a o (s.sub a ha) (s.st a o ha h), fun a o ha h => ?_⟩
  have e := s.im a o ha h
  refine t.im a o ?_ e
  unfold Mu at ha ⊢
  rw [e]; rw [h] at ha; exact ha
theorem Step.kept (s : Step H S F H' S' F') (dj : Dis S F) (mu : ∀ a, F a → Mu H a) : Kept H S H' S' :=
  ⟨s.sub, fun a o ha h => s.fr a o h fun hf => dj a ha hf, fun a o ha h => s.fr a o h fun hf => ha (mu a hf)⟩
theorem Kept.new {p : Addr} {o : HO} (h : H p = none) (hs : Sub S S') : Kept H S (upd H p o) S' :=
  ⟨hs, fun a u _ e => by rw [upd_ne (ne_of_none e h)]; exact e, fun a u _ e => by rw [upd_ne (ne_of_none e h)]; exact e⟩

theorem SqT.kept {a : Addr} {vs : List V} (k : Kept H S H' S') (h : SqT K H a vs) : SqT K H' a vs := by
  rcases h with (h | ⟨o, h⟩) | h
  · exact .inl (.inl (k.im a _ (Mu.not_tup h) h))
  · exact .inl (.inr ⟨o, k.im a _ (Mu.not_frz h) h⟩)
  · exact .inr h
theorem LsF.kept {f : Fl} {a : Addr} {vs : List V} (k : Kept H S H' S') (h : LsF K H S f a vs) : LsF K H' S' f a vs := by
  unfold LsF at h ⊢
  split at h
  · rename_i e
    rw [if_pos e]
    rcases h with ⟨o, h⟩ | h
    · exact .inl ⟨o, k.im a _ (Mu.not_frz h) h⟩
    · exact .inr h
  · rename_i e
    rw [if_neg e]
    exact ⟨k.st a _ h.2 h.1, k.sub a h.2⟩
theorem Rd.kept {a : Addr} {u : HO} (k : Kept H S H' S') (hs : S a) (h : Rd H a u) : Rd H' a u := by
  rcases h with h | ⟨o, h⟩
  · exact .inl (k.st a _ hs h)
  · exact .inr ⟨o, k.st a _ hs h⟩
theorem DAt.kept {d : DK} {a : Addr} {ks} (k : Kept H S H' S') (hs : S a) (h : DAt H d a ks) : DAt H' d a ks := by
  cases d with
  | t => exact Rd.kept k hs h
  | k => obtain ⟨kk, h1, h2⟩ := h; exact ⟨kk, Rd.kept k hs h1, h2⟩
mutual
theorem RepF.kept (k : Kept H S H' S') : ∀ (p : PV) {v : V}, RepF K H S p v → RepF K H' S' p v
  | .non, _, h => h
  | .bl _, _, h => h
  | .int _, _, h => h
  | .str _, _, h => h
  | .tup xs, _, h => by
    obtain ⟨a, vs, e, h1, h2⟩ := h
    exact ⟨a, vs, e, k.im a _ (Mu.not_tup h1) h1, RepFs.kept k xs h2⟩
  | .ktp xs, _, h => by
    obtain ⟨a, vs, e, h1, h2⟩ := h
    exact ⟨a, vs, e, SqT.kept k h1, RepFs.kept k xs h2⟩
  | .lst f xs, _, h => by
    obtain ⟨a, vs, e, h1, h2⟩ := h
    exact ⟨a, vs, e, h1.kept k, RepFs.kept k xs h2⟩
  | .dic f d kvs, _, h => by
    obtain ⟨a, vs, e, hs, h1, h2⟩ := h
    exact ⟨a, vs, e, k.sub a hs, h1.kept k hs, RepKs.kept k kvs h2⟩
theorem RepFs.kept (k : Kept H S H' S') : ∀ (p : List PV) {v : List V}, RepFs K H S p v → RepFs K H' S' p v
  | [], _, h => h
  | x :: xs, _, h => by
    obtain ⟨v, ws, e, h1, h2⟩ := h
    exact ⟨v, ws, e, RepF.kept k x h1, RepFs.kept k xs h2⟩
theorem RepP.kept (k : Kept H S H' S') : ∀ (p : List Key × PV) {v : List Key × V}, RepP K H S p v → RepP K H' S' p v
  | (_, p), _, h => ⟨h.1, RepF.kept k p h.2⟩
theorem RepKs.kept (k : Kept H S H' S') : ∀ (p : List (List Key × PV)) {v : List (List Key × V)}, RepKs K H S p v → RepKs K H' S' p v
  | [], _, h => h
  | x :: xs, _, h => by
    obtain ⟨v, ws, e, h1, h2⟩ := h
    exact ⟨v, ws, e, RepP.kept k x h1, RepKs.kept k xs h2⟩
end
end

section
variable {K : PySem.W.Frag} {H H' H2 : Hp} {S S' S2 F F' F2 G : AS}
theorem Sub.refl : Sub F F := fun _ h => h
theorem Sub.trans (h : Sub F G) (h2 : Sub G F2) : Sub F F2 := fun a x => h2 a (h a x)
theorem Dis.symm (h : Dis F G) : Dis G F := fun a x y => h a y x
theorem Dis.mono (h : Dis F G) (h1 : Sub F' F) (h2 : Sub F2 G) : Dis F' F2 := fun a x y => h a (h1 a x) (h2 a y)
abbrev Uni (F G : AS) : AS := fun a => F a ∨ G a
abbrev Emp : AS := fun _ => False
abbrev One (a : Addr) : AS := fun b => b = a
/-- the objects at G are as they were, too -/
structure KeptW (G : AS) (H : Hp) (S : AS) (H' : Hp) (S' : AS) : Prop where
  k : Kept H S H' S'
  w : ∀ a o, G a → H a = some o → H' a = some o
theorem KeptW.mono (k : KeptW G H S H' S') (h : Sub F G) : KeptW F H S H' S' := ⟨k.k, fun a o x e => k.w a o (h a x) e⟩
theorem Step.keptW (s : Step H S F H' S' F') (dj : Dis S F) (mu : ∀ a, F a → Mu H a) (g : Dis G F) : KeptW G H S H' S' := ⟨s.kept dj mu, fun a o x e => s.fr a o e fun hf => g a x hf⟩
theorem DOw.keptW {d : DK} {a : Addr} {ks} (k : KeptW G H S H' S') (hs : G a) (h : DOw H d a ks) : DOw H' d a ks := by
  cases d with
  | t => exact k.w a _ hs h
  | k => obtain ⟨kk, h1, h2⟩ := h; exact ⟨kk, k.w a _ hs h1, h2⟩
theorem Rep1.keptW {p : PV} {v : V} (k : KeptW G H S H' S') (h : Rep1 K H S p v G) : Rep1 K H' S' p v G := by
  unfold Rep1 at h ⊢
  split
  · obtain ⟨a, vs, e, h1, h2, h3⟩ := h
    exact ⟨a, vs, e, k.w a _ h2 h1, h2, RepFs.kept k.k _ h3⟩
  · rename_i hne
    split at h
    · rename_i xs
      exact absurd rfl (hne xs)
    · exact ⟨h.1, RepF.kept k.k _ h.2⟩
theorem Rep1s.keptW : ∀ {p : List PV} {v : List V} {G : AS}, KeptW G H S H' S' → Rep1s K H S p v G → Rep1s K H' S' p v G
  | [], _, _, _, h => h
  | x :: xs, _, G, k, h => by
    obtain ⟨v, ws, F1, F2, e, s1, s2, dj, h1, h2⟩ := h
    exact ⟨v, ws, F1, F2, e, s1, s2, dj, h1.keptW (k.mono s1), Rep1s.keptW (k.mono s2) h2⟩
theorem RepO.of_frz {p : PV} {v : V} (hp : isOwn p = false) (h : RepF K H S p v) : RepO K H S p v G := by
  unfold RepO
  split
  · cases hp
  · cases hp
  · cases hp
  · cases hp
  · exact h
theorem RepO.frz_of {p : PV} {v : V} (hp : isOwn p = false) (h : RepO K H S p v G) : RepF K H S p v := by
  unfold RepO at h
  split at h
  · cases hp
  · cases hp
  · cases hp
  · cases hp
  · exact h
theorem RepO.keptW {p : PV} {v : V} (k : KeptW G H S H' S') (h : RepO K H S p v G) : RepO K H' S' p v G := by
  match p, h with
  | .lst .own xs, h =>
    obtain ⟨a, vs, e, h1, h2, h3⟩ := h
    exact ⟨a, vs, e, k.w a _ h2 h1, h2, RepFs.kept k.k _ h3⟩
  | .lst .deep xs, h =>
    obtain ⟨a, vs, F1, e, h1, h2, s1, n1, h3⟩ := h
    exact ⟨a, vs, F1, e, k.w a _ h2 h1, h2, s1, n1, h3.keptW (k.mono s1)⟩
  | .dic .own d kvs, h =>
    obtain ⟨a, ks, e, h1, h2, h3⟩ := h
    exact ⟨a, ks, e, h1.keptW k h2, h2, RepKs.kept k.k _ h3⟩
  | .lst .frz xs, h => exact RepF.kept k.k _ h
  | .lst .ro xs, h => exact RepF.kept k.k _ h
  | .dic .frz _ xs, h => exact RepF.kept k.k _ h
  | .dic .ro _ xs, h => exact RepF.kept k.k _ h
  | .non, h => exact RepF.kept k.k _ h
  | .bl _, h => exact RepF.kept k.k _ h
  | .int _, h => exact RepF.kept k.k _ h
  | .str _, h => exact RepF.kept k.k _ h
  | .tup _, h => exact RepF.kept k.k _ h
  | .ktp _, h => exact RepF.kept k.k _ h
theorem Rep1.mono {p : PV} {v : V} (s : Sub F G) (h : Rep1 K H S p v F) : Rep1 K H S p v G := by
  unfold Rep1 at h ⊢
  split
  · obtain ⟨a, vs, e, h1, h2, h3⟩ := h
    exact ⟨a, vs, e, h1, s a h2, h3⟩
  · rename_i hne
    split at h
    · rename_i xs
      exact absurd rfl (hne xs)
    · exact h
theorem Rep1s.mono : ∀ {p : List PV} {v : List V}, Sub F G → Rep1s K H S p v F → Rep1s K H S p v G
  | [], _, _, h => h
  | x :: xs, _, s, h => by
    obtain ⟨v, ws, F1, F2, e, s1, s2, dj, h1, h2⟩ := h
    exact ⟨v, ws, F1, F2, e, s1.trans s, s2.trans s, dj, h1, h2⟩
theorem RepO.mono {p : PV} {v : V} (s : Sub F G) (h : RepO K H S p v F) : RepO K H S p v G := by
  match p, h with
  | .lst .own xs, h =>
    obtain ⟨a, vs, e, h1, h2, h3⟩ := h
    exact ⟨a, vs, e, h1, s a h2, h3⟩
  | .lst .deep xs, h =>
    obtain ⟨a, vs, F1, e, h1, h2, s1, n1, h3⟩ := h
    exact ⟨a, vs, F1, e, h1, s a h2, s1.trans s, n1, h3⟩
  | .dic .own d kvs, h =>
    obtain ⟨a, ks, e, h1, h2, h3⟩ := h
    exact ⟨a, ks, e, h1, s a h2, h3⟩
  | .lst .frz xs, h => exact h
  | .lst .ro xs, h => exact h
  | .dic .frz _ xs, h => exact h
  | .dic .ro _ xs, h => exact h
  | .non, h => exact h
  | .bl _, h => exact h
  | .int _, h => exact h
  | .str _, h => exact h
  | .tup _, h => exact h
  | .ktp _, h => exact h
theorem REnv.mono : ∀ {e : Env} {σ : St} {F G : AS}, Sub F G → REnv K H S e σ F → REnv K H S e σ G
  | [], _, _, _, _, h => h
  | none :: e, _, _, _, s, h => by
    obtain ⟨x, t, e1, h1⟩ := h
    exact ⟨x, t, e1, REnv.mono s h1⟩
  | some p :: e, _, _, _, s, h => by
    obtain ⟨v, t, F1, F2, e1, s1, s2, dj, h1, h2⟩ := h
    exact ⟨v, t, F1, F2, e1, s1.trans s, s2.trans s, dj, h1, h2⟩
theorem REnv.keptW : ∀ {e : Env} {σ : St} {G : AS}, KeptW G H S H' S' → REnv K H S e σ G → REnv K H' S' e σ G
  | [], _, _, _, h => h
  | none :: e, _, _, k, h => by
    obtain ⟨x, t, e1, h1⟩ := h
    exact ⟨x, t, e1, REnv.keptW k h1⟩
  | some p :: e, _, _, k, h => by
    obtain ⟨v, t, F1, F2, e1, s1, s2, dj, h1, h2⟩ := h
    exact ⟨v, t, F1, F2, e1, s1, s2, dj, h1.keptW (k.mono s1), REnv.keptW (k.mono s2) h2⟩
theorem REnv.len : ∀ {e : Env} {σ : St} {F : AS}, REnv K H S e σ F → e.length = σ.length
  | [], _, _, h => by cases h; rfl
  | none :: e, _, _, h => by
    obtain ⟨x, t, rfl, h1⟩ := h
    simp [REnv.len h1]
  | some p :: e, _, _, h => by
    obtain ⟨v, t, F1, F2, rfl, s1, s2, dj, h1, h2⟩ := h
    simp [REnv.len h2]
theorem slot_zero {x : Option PV} {e : Env} : slot (x :: e) 0 = x := by cases x <;> rfl
theorem slot_succ {x : Option PV} {e : Env} {i : Nat} : slot (x :: e) (i + 1) = slot e i := rfl
/-- one slot is taken out -/
theorem REnv.take : ∀ {e : Env} {σ : St} {F : AS} {i : Nat} {p : PV}, REnv K H S e σ F → slot e i = some p →
    ∃ v F1 F2, σ[i]? = some (some v) ∧ Sub F1 F ∧ Sub F2 F ∧ Dis F1 F2 ∧ RepO K H S p v F1 ∧ REnv K H S (e.set i none) σ F2
  | [], _, _, _, _, _, h => by cases h
  | none :: e, _, _, 0, _, _, h => by cases h
  | none :: e, _, F, i + 1, p, h, hs => by
    obtain ⟨x, t, rfl, h1⟩ := h
    obtain ⟨v, F1, F2, e1, s1, s2, dj, r, h2⟩ := REnv.take (i := i) h1 hs
    exact ⟨v, F1, F2, e1, s1, s2, dj, r, x, t, rfl, h2⟩
  | some q :: e, _, F, 0, p, h, hs => by
    rw [slot_zero] at hs
    cases hs
    obtain ⟨v, t, F1, F2, rfl, s1, s2, dj, h1, h2⟩ := h
    exact ⟨v, F1, F2, rfl, s1, s2, dj, h1, _, t, rfl, h2⟩
  | some q :: e, _, F, i + 1, p, h, hs => by
    obtain ⟨v, t, F1, F2, rfl, s1, s2, dj, h1, h2⟩ := h
    obtain ⟨v', G1, G2, e1, u1, u2, dj2, r, h3⟩ := REnv.take (i := i) h2 hs
    refine ⟨v', G1, Uni F1 G2, e1, u1.trans s2, fun a h => h.elim (s1 a) fun h => s2 a (u2 a h), fun a x y => y.elim (fun y => dj a y (u1 a x)) fun y => dj2 a x y, r, v, t, F1, G2, rfl, fun a h => .inl h, fun a h => .inr h, fun a x y => dj a x (u2 a y), h1, h3⟩
/-- and put in -/
theorem REnv.put : ∀ {e : Env} {σ : St} {F F1 : AS} {i : Nat} {p : PV} {v : V}, REnv K H S e σ F → i < e.length → slot e i = none → RepO K H S p v F1 → Dis F1 F →
    REnv K H S (e.set i (some p)) (σ.set i (some v)) (Uni F1 F)
  | [], _, _, _, _, _, _, _, h, _, _, _ => by simp at h
  | none :: e, _, F, F1, 0, p, v, h, _, _, r, dj => by
    obtain ⟨x, t, rfl, h1⟩ := h
    exact ⟨v, t, F1, F, rfl, fun a h => .inl h, fun a h => .inr h, dj, r, h1⟩
  | none :: e, _, F, F1, i + 1, p, v, h, hl, hs, r, dj => by
    obtain ⟨x, t, rfl, h1⟩ := h
    exact ⟨x, t.set i (some v), rfl, REnv.put (i := i) h1 (by simpa using hl) hs r dj⟩
  | some q :: e, _, F, F1, 0, p, v, h, _, hs, r, dj => by rw [slot_zero] at hs; cases hs
  | some q :: e, _, F, F1, i + 1, p, v, h, hl, hs, r, dj => by
    obtain ⟨w, t, G1, G2, rfl, s1, s2, dj2, h1, h2⟩ := h
    refine ⟨w, t.set i (some v), G1, Uni F1 G2, rfl, fun a h => .inr (s1 a h), fun a h => h.elim .inl fun h => .inr (s2 a h), fun a x y => y.elim (fun y => dj a y (s1 a x)) fun y => dj2 a x y, h1, ?_⟩
    exact REnv.put (i := i) h2 (by simpa using hl) hs r (fun a x y => dj a x (s2 a y))
theorem REnv.wip {e : Env} {σ : St} {F : AS} {i : Nat} (h : REnv K H S e σ F) : REnv K H S (e.set i none) σ F := by
  cases hs : slot e i with
  | none =>
    by_cases hl : i < e.length
    · have : e.set i none = e := by
        apply List.ext_getElem? 
        intro j
        by_cases hj : i = j
        · subst hj
          rw [List.getElem?_set_self hl]
          unfold slot at hs
          rw [List.getElem?_eq_getElem hl] at hs ⊢
          simpa using hs.symm
        · rw [List.getElem?_set_ne hj]
      rw [this]; exact h
    · rw [List.set_eq_of_length_le (by omega)]; exact h
  | some p =>
    obtain ⟨v, F1, F2, e1, s1, s2, dj, r, h2⟩ := h.take hs
    exact h2.mono s2
/-- what stands in a slot that is not looked at -/
theorem REnv.junk : ∀ {e : Env} {σ : St} {F : AS} {i : Nat} {x : Option V}, REnv K H S e σ F → slot e i = none → REnv K H S e (σ.set i x) F
  | [], _, _, _, _, h, _ => by cases h; rfl
  | none :: e, _, F, 0, x, h, _ => by
    obtain ⟨y, t, rfl, h1⟩ := h
    exact ⟨x, t, rfl, h1⟩
  | none :: e, _, F, i + 1, x, h, hs => by
    obtain ⟨y, t, rfl, h1⟩ := h
    exact ⟨y, t.set i x, rfl, REnv.junk (i := i) h1 hs⟩
  | some q :: e, _, F, 0, x, h, hs => by rw [slot_zero] at hs; cases hs
  | some q :: e, _, F, i + 1, x, h, hs => by
    obtain ⟨v, t, F1, F2, rfl, s1, s2, dj, h1, h2⟩ := h
    exact ⟨v, t.set i x, F1, F2, rfl, s1, s2, dj, h1, REnv.junk (i := i) h2 hs⟩
end
end EL

set_option maxRecDepth 100000
/-! EL3: freezing, moving, argument lists; what stands behind an expression -/
namespace EL
open PySem L2
section
variable {K : PySem.W.Frag} {H H' H2 : Hp} {S S' S2 F F' F2 f f' g G : AS} {env env' : Env} {σ : St} {p q : PV} {v w : V}
theorem Kept.sub_only (h : Sub S S') : Kept H S H S' := ⟨h, fun _ _ _ e => e, fun _ _ _ e => e⟩
theorem KeptW.sub_only (h : Sub S S') : KeptW G H S H S' := ⟨.sub_only h, fun _ _ _ e => e⟩
theorem Rep1.freeze (h : Rep1 K H S p v F) (s1 : Sub S S') (s2 : Sub F S') : RepF K H S' p v := by
  unfold Rep1 at h
  split at h
  · obtain ⟨a, vs, e, h1, h2, h3⟩ := h
    exact ⟨a, vs, e, by unfold LsF; rw [if_neg (by decide)]; exact ⟨h1, s2 a h2⟩, RepFs.kept (.sub_only s1) _ h3⟩
  · exact RepF.kept (.sub_only s1) _ h.2
theorem Rep1s.freeze : ∀ {ps : List PV} {vs : List V} {F : AS}, Rep1s K H S ps vs F → Sub S S' → Sub F S' → RepFs K H S' ps vs
  | [], _, _, h, _, _ => h
  | x :: xs, _, _, h, s1, s2 => by
    obtain ⟨v, ws, F1, F2, e, u1, u2, dj, h1, h2⟩ := h
    exact ⟨v, ws, e, h1.freeze s1 (u1.trans s2), Rep1s.freeze h2 s1 (u2.trans s2)⟩
theorem RepO.freeze (h : RepO K H S p v F) (s1 : Sub S S') (s2 : Sub F S') : RepF K H S' (frz p) v := by
  match p, h with
  | .lst .own xs, h =>
    obtain ⟨a, vs, e, h1, h2, h3⟩ := h
    exact ⟨a, vs, e, by unfold LsF; rw [if_neg (by decide)]; exact ⟨h1, s2 a h2⟩, RepFs.kept (.sub_only s1) _ h3⟩
  | .lst .deep xs, h =>
    obtain ⟨a, vs, F1, e, h1, h2, u1, n1, h3⟩ := h
    exact ⟨a, vs, e, by unfold LsF; rw [if_neg (by decide)]; exact ⟨h1, s2 a h2⟩, h3.freeze s1 (u1.trans s2)⟩
  | .dic .own d kvs, h =>
    obtain ⟨a, ks, e, h1, h2, h3⟩ := h
    exact ⟨a, ks, e, s2 a h2, h1.at, RepKs.kept (.sub_only s1) _ h3⟩
  | .lst .frz xs, h => exact RepF.kept (.sub_only s1) _ h
  | .lst .ro xs, h => exact RepF.kept (.sub_only s1) _ h
  | .dic .frz _ xs, h => exact RepF.kept (.sub_only s1) _ h
  | .dic .ro _ xs, h => exact RepF.kept (.sub_only s1) _ h
  | .non, h => exact RepF.kept (.sub_only s1) _ h
  | .bl _, h => exact RepF.kept (.sub_only s1) _ h
  | .int _, h => exact RepF.kept (.sub_only s1) _ h
  | .str _, h => exact RepF.kept (.sub_only s1) _ h
  | .tup _, h => exact RepF.kept (.sub_only s1) _ h
  | .ktp _, h => exact RepF.kept (.sub_only s1) _ h
/-- reading does not look at own's flags -/
theorem RepF.frz (h : RepF K H S p v) : RepF K H S (EL.frz p) v := by
  match p, h with
  | .lst .own xs, h => exact h
  | .lst .deep xs, h => exact h
  | .lst .frz xs, h => exact h
  | .lst .ro xs, h => exact h
  | .dic .own _ xs, h => exact h
  | .dic .deep _ xs, h => exact h
  | .dic .frz _ xs, h => exact h
  | .dic .ro _ xs, h => exact h
  | .non, h => exact h
  | .bl _, h => exact h
  | .int _, h => exact h
  | .str _, h => exact h
  | .tup _, h => exact h
  | .ktp _, h => exact h
theorem isOwn_frz : ∀ p : PV, isOwn (frz p) = false
  | .lst .own xs => rfl
  | .lst .deep xs => rfl
  | .lst .frz xs => rfl
  | .lst .ro xs => rfl
  | .dic .own _ xs => rfl
  | .dic .deep _ xs => rfl
  | .dic .frz _ xs => rfl
  | .dic .ro _ xs => rfl
  | .non => rfl
  | .bl _ => rfl
  | .int _ => rfl
  | .str _ => rfl
  | .tup _ => rfl
  | .ktp _ => rfl
theorem RepF.toO (h : RepF K H S (EL.frz p) v) : RepO K H S (EL.frz p) v G := RepO.of_frz (isOwn_frz p) h

/-! ### what stands behind an expression -/
structure Post (K : PySem.W.Frag) (H : Hp) (S F : AS) (env : Env) (σ : St) (H' : Hp) (S' F' : AS) (p : PV) (v : V) (f : AS) : Prop where
  m : M K env σ H' S' F'
  r : RepO K H' S' p v f
  fd : Dis f F'
  fs : Dis f S'
  fm : ∀ a, f a → Mu H' a
  st : Step H S F H' S' (Uni F' f)
theorem Step.weak (s : Step H S F H' S' F') (h : Sub F2 F') : Step H S F H' S' F2 := ⟨s.sub, fun a x => s.new a (x.imp id (h a)), s.fr⟩
theorem Dis.uni (h : Dis f F) (h2 : Dis f G) : Dis f (Uni F G) := fun a x y => y.elim (h a x) (h2 a x)
theorem Dis.uniL (h : Dis f F) (h2 : Dis g F) : Dis (Uni f g) F := fun a x y => x.elim (fun x => h a x y) (fun x => h2 a x y)
theorem emp_dis : Dis Emp F := fun _ h => h.elim
theorem uni_emp : Sub (Uni F Emp) F := fun _ h => h.elim id False.elim
theorem slot_len {i : Nat} (h : slot env i = some p) : i < env.length := by
  unfold slot at h
  by_cases hi : i < env.length
  · exact hi
  · rw [List.getElem?_eq_none (by omega)] at h; cases h
theorem slot_set_none {i : Nat} (hi : i < env.length) : slot (env.set i none) i = none := by
  unfold slot; rw [List.getElem?_set_self hi]; rfl
theorem set_val {i : Nat} (h : σ[i]? = some (some v)) : σ.set i (some v) = σ := by
  apply List.ext_getElem?
  intro j
  by_cases hj : i = j
  · subst hj
    have hl : i < σ.length := by
      by_cases hi : i < σ.length
      · exact hi
      · rw [List.getElem?_eq_none (by omega)] at h; cases h
    rw [List.getElem?_set_self hl, h]
  · rw [List.getElem?_set_ne hj]
/-- a frozen value is put into a slot whose value it is -/
theorem REnv.putV {i : Nat} (h : REnv K H S (env.set i none) σ F) (hi : i < env.length) (hv : σ[i]? = some (some v)) (r : RepO K H S p v f) (dj : Dis f F) :
    REnv K H S (env.set i (some p)) σ (Uni f F) := by
  have q := REnv.put (i := i) (p := p) (v := v) h (by simpa using hi) (slot_set_none hi) r dj
  rw [List.set_set, set_val hv] at q
  exact q
/-- a slot read as a value -/
theorem M.rd {i : Nat} (m : M K env σ H S F) (h : rdS env i = .ok (p, env')) :
    ∃ v S' F', σ[i]? = some (some v) ∧ Post K H S F env' σ H S' F' p v Emp := by
  unfold rdS at h
  cases hs : slot env i with
  | none => rw [hs] at h; cases h
  | some q =>
    rw [hs] at h
    obtain ⟨v, F1, F2, hv, s1, s2, dj, r, he⟩ := m.en.take hs
    by_cases ho : isOwn q = true
    · simp only [ho, if_true] at h
      injection h with h
      injection h with h1 h2
      subst h1; subst h2
      have rf : RepF K H (Uni S F1) (frz q) v := r.freeze (fun a h => .inl h) fun a h => .inr h
      have hk : KeptW F2 H S H (Uni S F1) := .sub_only fun a h => .inl h
      refine ⟨v, Uni S F1, F2, hv, ⟨?_, ?_, ?_, ?_⟩, rf.toO, emp_dis, emp_dis, fun a h => h.elim, ?_⟩
      · exact (REnv.putV (he.keptW hk) (slot_len hs) hv (rf.toO (G := Emp)) emp_dis).mono fun a h => h.elim False.elim id
      · exact fun a x y => x.elim (fun x => m.dj a x (s2 a y)) fun x => dj a x y
      · exact fun a x => m.mu a (s2 a x)
      · exact fun a x => x.elim (m.st a) fun x => by
          obtain ⟨o, e⟩ := (m.mu a (s1 a x)).ex
          rw [e]; simp
      · exact ⟨fun a h => .inl h, fun a h => h.elim (fun h => h.elim .inl fun h => .inr (.inl (s1 a h))) fun h => h.elim (fun h => .inr (.inl (s2 a h))) False.elim, fun b o e _ => e⟩
    · have ho : isOwn q = false := by simpa using ho
      simp only [ho] at h
      injection h with h
      injection h with h1 h2
      subst h1; subst h2
      exact ⟨v, S, F, hv, m, RepO.of_frz ho (r.frz_of ho), emp_dis, emp_dis, fun a h => h.elim, Step.refl.weak uni_emp⟩
theorem M.mv {i : Nat} (m : M K env σ H S F) (h : mvS env i = .ok (p, env')) :
    ∃ v F' f, σ[i]? = some (some v) ∧ Post K H S F env' σ H S F' p v f := by
  unfold mvS at h
  cases hs : slot env i with
  | none => rw [hs] at h; cases h
  | some q =>
    rw [hs] at h
    obtain ⟨v, F1, F2, hv, s1, s2, dj, r, he⟩ := m.en.take hs
    by_cases ho : isOwn q = true
    · simp only [ho, if_true] at h
      injection h with h
      injection h with h1 h2
      subst h1; subst h2
      exact ⟨v, F2, F1, hv, ⟨he, fun a x y => m.dj a x (s2 a y), fun a x => m.mu a (s2 a x), m.st⟩, r, dj, fun a x y => m.dj a y (s1 a x), fun a x => m.mu a (s1 a x),
        ⟨fun a h => h, fun a h => h.elim .inl fun h => .inr (.inl (h.elim (s2 a) (s1 a))), fun b o e _ => e⟩⟩
    · have ho : isOwn q = false := by simpa using ho
      simp only [ho] at h
      injection h with h
      injection h with h1 h2
      subst h1; subst h2
      exact ⟨v, F, Emp, hv, m, RepO.of_frz ho (r.frz_of ho), emp_dis, emp_dis, fun a h => h.elim, Step.refl.weak uni_emp⟩

/-! ### operands and argument lists -/
def RepA (K : PySem.W.Frag) (H : Hp) (S : AS) (σ : St) (a : Arg) (v : V) (f : AS) : Prop := match a with
  | .val p => RepO K H S p v f
  | .ref i => σ[i]? = some (some v)
def RepAs (K : PySem.W.Frag) (H : Hp) (S : AS) (σ : St) : List Arg → List V → AS → Prop
  | [], vs, _ => vs = []
  | a :: r, vs, F => ∃ v ws F1 F2, vs = v :: ws ∧ Sub F1 F ∧ Sub F2 F ∧ Dis F1 F2 ∧ RepA K H S σ a v F1 ∧ RepAs K H S σ r ws F2
theorem RepA.keptW {a : Arg} (k : KeptW G H S H' S') (h : RepA K H S σ a v G) : RepA K H' S' σ a v G := by
  cases a with
  | val p => exact RepO.keptW k h
  | ref i => exact h
theorem RepAs.keptW : ∀ {as : List Arg} {vs : List V} {G : AS}, KeptW G H S H' S' → RepAs K H S σ as vs G → RepAs K H' S' σ as vs G
  | [], _, _, _, h => h
  | x :: xs, _, G, k, h => by
    obtain ⟨v, ws, F1, F2, e, s1, s2, dj, h1, h2⟩ := h
    exact ⟨v, ws, F1, F2, e, s1, s2, dj, h1.keptW (k.mono s1), RepAs.keptW (k.mono s2) h2⟩
structure PostA (K : PySem.W.Frag) (H : Hp) (S F : AS) (env : Env) (σ : St) (H' : Hp) (S' F' : AS) (a : Arg) (v : V) (f : AS) : Prop where
  m : M K env σ H' S' F'
  r : RepA K H' S' σ a v f
  fd : Dis f F'
  fs : Dis f S'
  fm : ∀ a, f a → Mu H' a
  st : Step H S F H' S' (Uni F' f)
structure PostAs (K : PySem.W.Frag) (H : Hp) (S F : AS) (env : Env) (σ : St) (H' : Hp) (S' F' : AS) (as : List Arg) (vs : List V) (f : AS) : Prop where
  m : M K env σ H' S' F'
  r : RepAs K H' S' σ as vs f
  fd : Dis f F'
  fs : Dis f S'
  fm : ∀ a, f a → Mu H' a
  st : Step H S F H' S' (Uni F' f)
theorem Post.toA (h : Post K H S F env σ H' S' F' p v f) : PostA K H S F env σ H' S' F' (.val p) v f := ⟨h.m, h.r, h.fd, h.fs, h.fm, h.st⟩
theorem Mu.keptW (k : KeptW G H S H' S') {a : Addr} (h : G a) (m : Mu H a) : Mu H' a := by
  obtain ⟨o, e⟩ := m.ex
  have e' := k.w a o h e
  unfold Mu at m ⊢
  rw [e] at m; rw [e']; exact m
/-- what is held aside while something else runs: it stays apart -/
theorem Step.sep (t : Step H S F H' S' G) (m : ∀ a, f a → Mu H a) (fd : Dis f F) (fs : Dis f S) : Dis f G ∧ Dis f S' := by
  refine ⟨fun a x y => ?_, fun a x y => ?_⟩
  · rcases t.new a (.inr y) with h | h | h
    · exact fs a x h
    · exact fd a x h
    · obtain ⟨o, e⟩ := (m a x).ex; rw [h] at e; cases e
  · rcases t.new a (.inl y) with h | h | h
    · exact fs a x h
    · exact fd a x h
    · obtain ⟨o, e⟩ := (m a x).ex; rw [h] at e; cases e
theorem PostA.as_nil (m : M K env σ H S F) : PostAs K H S F env σ H S F [] [] Emp := ⟨m, rfl, emp_dis, emp_dis, fun a h => h.elim, Step.refl.weak uni_emp⟩
theorem M.keptW_of (m : M K env σ H S F) (t : Step H S F H' S' F') (fd : Dis f F) : KeptW f H S H' S' := t.keptW m.dj m.mu fd
/-- one operand more -/
theorem PostA.cons {a : Arg} {as : List Arg} {vs : List V} {H1 : Hp} {S1 F1 f1 : AS} {e1 e2 : Env} (h1 : PostA K H S F e1 σ H1 S1 F1 a v f1) (h2 : PostAs K H1 S1 F1 e2 σ H2 S2 F2 as vs f) :
    PostAs K H S F e2 σ H2 S2 F2 (a :: as) (v :: vs) (Uni f1 f) := by
  obtain ⟨d1, d2⟩ := h2.st.sep h1.fm h1.fd h1.fs
  have k := h1.m.keptW_of h2.st h1.fd
  refine ⟨h2.m, ⟨v, vs, f1, f, rfl, fun a h => .inl h, fun a h => .inr h, d1.mono Sub.refl (fun a h => .inr h), h1.r.keptW k, h2.r⟩, ?_, ?_, ?_, ?_⟩
  · exact Dis.uniL (d1.mono Sub.refl fun a h => .inl h) h2.fd
  · exact Dis.uniL d2 h2.fs
  · exact fun a x => x.elim (fun x => (h1.fm a x).keptW k x) (h2.fm a)
  · have t := (h1.st.weak (F2 := F1) fun a h => .inl h).trans h2.st h1.m.dj
    refine ⟨t.sub, fun a x => ?_, t.fr⟩
    rcases x with x | x | x | x
    · exact t.new a (.inl x)
    · exact t.new a (.inr (.inl x))
    · exact h1.st.new a (.inr (.inr x))
    · exact t.new a (.inr (.inr x))
theorem RepO.repA {a : Arg} (m : M K env σ H S F) (h : RepA K H S σ a v f) (e : getA env a = some p) : ∃ f', RepO K H S p v f' := by
  cases a with
  | val q => cases e; exact ⟨f, h⟩
  | ref i =>
    obtain ⟨w, F1, F2, hv, s1, s2, dj, r, he⟩ := m.en.take e
    have : w = v := by
      have h : σ[i]? = some (some v) := h
      rw [h] at hv; cases hv; rfl
    subst this
    exact ⟨F1, r⟩
inductive RepBs (K : PySem.W.Frag) (H : Hp) (S : AS) : List PV → List V → Prop
  | nil : RepBs K H S [] []
  | cons {p v f ps vs} : RepO K H S p v f → RepBs K H S ps vs → RepBs K H S (p :: ps) (v :: vs)
theorem RepAs.vals (m : M K env σ H S F) : ∀ {as : List Arg} {vs : List V} {f : AS} {ps : List PV}, RepAs K H S σ as vs f → getAs env as = some ps → RepBs K H S ps vs
  | [], _, _, _, h, e => by cases h; cases e; exact .nil
  | a :: as, _, _, _, h, e => by
    obtain ⟨v, ws, F1, F2, rfl, s1, s2, dj, h1, h2⟩ := h
    unfold getAs at e
    cases e1 : getA env a with
    | none => rw [e1] at e; cases e
    | some p =>
      cases e2 : getAs env as with
      | none => rw [e1, e2] at e; cases e
      | some ps =>
        rw [e1, e2] at e
        cases e
        obtain ⟨f', r⟩ := RepO.repA m h1 e1
        exact .cons r (RepAs.vals m h2 e2)

/-! ### new values -/
/-- r is a value of what was, or of new objects -/
structure New (K : PySem.W.Frag) (H : Hp) (S : AS) (p : PV) (v : V) (H' : Hp) (f : AS) : Prop where
  r : RepO K H' S p v f
  nw : ∀ a, f a → H a = none
  mu : ∀ a, f a → Mu H' a
  kp : ∀ b o, H b = some o → H' b = some o
theorem New.same (h : RepO K H S p v Emp) : New K H S p v H Emp := ⟨h, fun a x => x.elim, fun a x => x.elim, fun _ _ e => e⟩
theorem New.post (m : M K env σ H S F) (n : New K H S p v H' f) : Post K H S F env σ H' S F p v f := by
  have hk : KeptW F H S H' S := ⟨⟨fun _ h => h, fun a o _ e => n.kp a o e, fun a o _ e => n.kp a o e⟩, fun a o _ e => n.kp a o e⟩
  refine ⟨⟨m.en.keptW hk, m.dj, fun a x => (m.mu a x).keptW hk x, fun a x e => ?_⟩, n.r, fun a x y => ?_, fun a x y => ?_, n.mu, ⟨fun _ h => h, fun a x => ?_, fun b o e _ => n.kp b o e⟩⟩
  · cases q : H a with
    | none => exact m.st a x q
    | some o => rw [n.kp a o q] at e; cases e
  · obtain ⟨o, e⟩ := (m.mu a y).ex
    rw [n.nw a x] at e; cases e
  · exact m.st a y (n.nw a x)
  · exact x.elim .inl fun x => x.elim (fun x => .inr (.inl x)) fun x => .inr (.inr (n.nw a x))
/-- behind a step -/
theorem Post.after {H1 : Hp} {S1 F1 : AS} (t : Step H S F H1 S1 F1) (dj : Dis S1 F1) (h : Post K H1 S1 F1 env σ H2 S2 F2 p v f) : Post K H S F env σ H2 S2 F2 p v f :=
  ⟨h.m, h.r, h.fd, h.fs, h.fm, t.trans h.st dj⟩
theorem M.newL {a : Addr} {vs : List V} {xs : List PV} (hn : H a = none) (r : RepFs K H S xs vs) : New K H S (.lst .own xs) (.ref a) (upd H a (.lst vs)) (One a) := by
  have hk : Kept H S (upd H a (.lst vs)) S := Kept.new hn fun _ h => h
  exact ⟨⟨a, vs, rfl, upd_same, rfl, RepFs.kept hk _ r⟩, fun b e => by rw [e]; exact hn, fun b e => by rw [e]; exact Mu.lst upd_same, fun b o e => by rw [upd_ne (ne_of_none e hn)]; exact e⟩
theorem M.newT {a : Addr} {vs : List V} {xs : List PV} (hn : H a = none) (r : RepFs K H S xs vs) : New K H S (.tup xs) (.ref a) (upd H a (.tup vs)) Emp := by
  have hk : Kept H S (upd H a (.tup vs)) S := Kept.new hn fun _ h => h
  exact ⟨⟨a, vs, rfl, upd_same, RepFs.kept hk _ r⟩, fun b e => e.elim, fun b e => e.elim, fun b o e => by rw [upd_ne (ne_of_none e hn)]; exact e⟩
end
end EL

set_option maxRecDepth 100000
/-! EL4: operators by values -/
namespace EL
open PySem PySem.Spec PyProof.Rows L2
section
variable {K : PySem.W.Frag} {H H' : Hp} {S F f : AS}
/-! ### data -/
theorem map_some {α β : Type} {o : Option α} {g : α → β} {b : β} (h : o.map g = some b) : ∃ a, o = some a ∧ b = g a := by
  obtain ⟨a, h1, h2⟩ := Option.map_eq_some_iff.mp h
  exact ⟨a, h1, h2.symm⟩
mutual
theorem RepF.dp : ∀ (p : PV) {v : V} {d : PyData}, RepF K H S p v → toD p = some d → Dp K H v d
  | .non, _, _, h, e => by cases h; cases e; exact .non
  | .bl _, _, _, h, e => by cases h; cases e; exact .bl _
  | .int _, _, _, h, e => by cases h; cases e; exact .int _
  | .str _, _, _, h, e => by cases h; cases e; exact .str _
  | .tup xs, _, _, h, e => by
    obtain ⟨a, vs, rfl, h1, h2⟩ := h
    obtain ⟨ds, e1, rfl⟩ := map_some (o := toDs xs) e
    exact .tup (SqT.of h1) (RepFs.dp xs h2 e1)
  | .ktp xs, _, _, h, e => by
    obtain ⟨a, vs, rfl, h1, h2⟩ := h
    obtain ⟨ds, e1, rfl⟩ := map_some (o := toDs xs) e
    exact .tup h1 (RepFs.dp xs h2 e1)
  | .lst f xs, _, _, h, e => by
    obtain ⟨a, vs, rfl, h1, h2⟩ := h
    obtain ⟨ds, e1, rfl⟩ := map_some (o := toDs xs) e
    refine .lst ?_ (RepFs.dp xs h2 e1)
    unfold LsF at h1
    split at h1
    · rcases h1 with ⟨o, h1⟩ | h1
      · exact .inl (.inr ⟨o, h1⟩)
      · exact .inr h1
    · exact .inl (.inl h1.1)
  | .dic _ _ _, _, _, _, e => by cases e
theorem RepFs.dp : ∀ (p : List PV) {v : List V} {d : List PyData}, RepFs K H S p v → toDs p = some d → DpAll K H v d
  | [], _, _, h, e => by cases h; cases e; exact .nil
  | x :: xs, _, _, h, e => by
    obtain ⟨v, ws, rfl, h1, h2⟩ := h
    unfold toDs at e
    cases e1 : toD x with
    | none => rw [e1] at e; cases e
    | some d =>
      cases e2 : toDs xs with
      | none => rw [e1, e2] at e; cases e
      | some ds =>
        rw [e1, e2] at e
        cases e
        exact .cons (RepF.dp x h1 e1) (RepFs.dp xs h2 e2)
end
theorem Rep1.dp {p : PV} {v : V} {d : PyData} (h : Rep1 K H S p v f) (e : toD p = some d) : Dp K H v d := by
  unfold Rep1 at h
  split at h
  · rename_i xs
    obtain ⟨a, vs, rfl, h1, h2, h3⟩ := h
    obtain ⟨ds, e1, rfl⟩ := map_some (o := toDs xs) e
    exact .lst (.inl (.inl h1)) (RepFs.dp xs h3 e1)
  · exact RepF.dp _ h.2 e
theorem Rep1s.dp : ∀ {p : List PV} {v : List V} {d : List PyData} {f : AS}, Rep1s K H S p v f → toDs p = some d → DpAll K H v d
  | [], _, _, _, h, e => by cases h; cases e; exact .nil
  | x :: xs, _, _, _, h, e => by
    obtain ⟨v, ws, F1, F2, rfl, s1, s2, dj, h1, h2⟩ := h
    unfold toDs at e
    cases e1 : toD x with
    | none => rw [e1] at e; cases e
    | some d =>
      cases e2 : toDs xs with
      | none => rw [e1, e2] at e; cases e
      | some ds =>
        rw [e1, e2] at e
        cases e
        exact .cons (h1.dp e1) (Rep1s.dp h2 e2)
theorem RepO.dp {p : PV} {v : V} {d : PyData} (h : RepO K H S p v f) (e : toD p = some d) : Dp K H v d := by
  match p, h with
  | .lst .own xs, h =>
    obtain ⟨a, vs, rfl, h1, h2, h3⟩ := h
    obtain ⟨ds, e1, rfl⟩ := map_some (o := toDs xs) e
    exact .lst (.inl (.inl h1)) (RepFs.dp xs h3 e1)
  | .lst .deep xs, h =>
    obtain ⟨a, vs, F1, rfl, h1, h2, s1, n1, h3⟩ := h
    obtain ⟨ds, e1, rfl⟩ := map_some (o := toDs xs) e
    exact .lst (.inl (.inl h1)) (h3.dp e1)
  | .dic .own d kvs, h => cases e
  | .lst .frz xs, h => exact RepF.dp _ (show RepF K H S (.lst .frz xs) v from h) e
  | .lst .ro xs, h => exact RepF.dp _ (show RepF K H S (.lst .ro xs) v from h) e
  | .dic .frz _ xs, h => cases e
  | .dic .ro _ xs, h => cases e
  | .non, h => exact RepF.dp _ (show RepF K H S .non v from h) e
  | .bl _, h => exact RepF.dp _ (show RepF K H S (.bl _) v from h) e
  | .int _, h => exact RepF.dp _ (show RepF K H S (.int _) v from h) e
  | .str _, h => exact RepF.dp _ (show RepF K H S (.str _) v from h) e
  | .tup _, h => exact RepF.dp _ (show RepF K H S (.tup _) v from h) e
  | .ktp _, h => exact RepF.dp _ (show RepF K H S (.ktp _) v from h) e
mutual
theorem toD_plain : ∀ (p : PV) {d : PyData}, toD p = some d → d.plain = true
  | .non, _, e => by cases e; rfl
  | .bl _, _, e => by cases e; rfl
  | .int _, _, e => by cases e; rfl
  | .str _, _, e => by cases e; rfl
  | .tup xs, _, e => by
    obtain ⟨ds, e1, rfl⟩ := map_some (o := toDs xs) e
    exact toDs_plain xs e1
  | .ktp xs, _, e => by
    obtain ⟨ds, e1, rfl⟩ := map_some (o := toDs xs) e
    exact toDs_plain xs e1
  | .lst _ xs, _, e => by
    obtain ⟨ds, e1, rfl⟩ := map_some (o := toDs xs) e
    exact toDs_plain xs e1
  | .dic _ _ _, _, e => by cases e
theorem toDs_plain : ∀ (p : List PV) {d : List PyData}, toDs p = some d → PyData.plainAll d = true
  | [], _, e => by cases e; rfl
  | x :: xs, _, e => by
    unfold toDs at e
    cases e1 : toD x with
    | none => rw [e1] at e; cases e
    | some d =>
      cases e2 : toDs xs with
      | none => rw [e1, e2] at e; cases e
      | some ds =>
        rw [e1, e2] at e
        cases e
        show (d.plain && PyData.plainAll ds) = true
        rw [toD_plain x e1, toDs_plain xs e2]; rfl
end
end

/-! ### order -/
theorem beq_symm' {α : Type} [BEq α] [LawfulBEq α] (a b : α) : (a == b) = (b == a) := by
  by_cases h : a = b
  · subst h; rfl
  · have h2 : ¬ b = a := fun e => h e.symm
    rw [beq_eq_false_iff_ne.mpr h, beq_eq_false_iff_ne.mpr h2]
mutual
theorem eqv_symm : ∀ (x y : PyData), PyData.eqv x y = PyData.eqv y x
  | .none, y => by cases y <;> rfl
  | .bool a, y => by cases y <;> simp only [PyData.eqv] <;> exact beq_symm' _ _
  | .int a, y => by cases y <;> simp only [PyData.eqv] <;> exact beq_symm' _ _
  | .str a, y => by cases y <;> simp only [PyData.eqv] <;> exact beq_symm' _ _
  | .list xs, y => by
    cases y <;> simp only [PyData.eqv]
    exact eqvAll_symm xs _
  | .tuple xs, y => by
    cases y <;> simp only [PyData.eqv]
    exact eqvAll_symm xs _
  | .dict _, y => by cases y <;> simp [PyData.eqv]
theorem eqvAll_symm : ∀ (xs ys : List PyData), PyData.eqvAll xs ys = PyData.eqvAll ys xs
  | [], [] => rfl
  | [], _ :: _ => rfl
  | _ :: _, [] => rfl
  | x :: xs, y :: ys => by simp only [PyData.eqvAll]; rw [eqv_symm x y, eqvAll_symm xs ys]
end
/-- the order by places -/
theorem lexAt_ltDs (E : Nat → Bool) (r : Nat → Bool) (z : Bool) : ∀ (xs ys : List PyData) (i : Nat) (b : Bool), ltDs xs ys = some b →
    (∀ j (h1 : j < xs.length) (h2 : j < ys.length), E (i + j) = PyData.eqv xs[j] ys[j]) →
    (∀ j (h1 : j < xs.length) (h2 : j < ys.length), E (i + j) = false → ltD xs[j] ys[j] = some (r (i + j))) → z = decide (xs.length < ys.length) →
    Ob.lexAt E r z i (min xs.length ys.length) = b
  | [], [], i, b, h, _, _, hz => by
    cases h
    simp only [List.length_nil, Nat.min_self]
    rw [Ob.lexAt_zero, hz]; rfl
  | [], y :: ys, i, b, h, _, _, hz => by
    cases h
    simp only [List.length_nil, Nat.zero_min]
    rw [Ob.lexAt_zero, hz]; simp
  | x :: xs, [], i, b, h, _, _, hz => by
    cases h
    simp only [List.length_nil, Nat.min_zero]
    rw [Ob.lexAt_zero, hz]; simp
  | x :: xs, y :: ys, i, b, h, he, hr, hz => by
    have e0 : E i = PyData.eqv x y := he 0 (by simp) (by simp)
    have hm : min (x :: xs).length (y :: ys).length = min xs.length ys.length + 1 := by simp only [List.length_cons]; omega
    rw [hm, Ob.lexAt_succ]
    unfold ltDs at h
    by_cases hx : PyData.eqv x y = true
    · rw [hx] at e0
      rw [if_pos hx] at h
      rw [if_pos e0]
      refine lexAt_ltDs E r z xs ys (i + 1) b h (fun j h1 h2 => ?_) (fun j h1 h2 h3 => ?_) (by simpa using hz)
      · have := he (j + 1) (by simpa using h1) (by simpa using h2)
        simpa [Nat.add_assoc, Nat.add_comm 1 j] using this
      · have := hr (j + 1) (by simpa using h1) (by simpa using h2)
        simp only [List.getElem_cons_succ] at this
        rw [show i + 1 + j = i + (j + 1) by omega] at h3 ⊢
        exact this h3
    · rw [if_neg hx] at h
      have e1 : E i = false := by rw [e0]; simpa using hx
      rw [if_neg (by rw [e1]; simp)]
      have this : ltD x y = some (r i) := hr 0 (by simp) (by simp) e1
      rw [this] at h
      cases h2 : ltDs xs ys with
      | none => rw [h2] at h; cases h
      | some c => rw [h2] at h; exact Option.some.inj h
theorem ltDs_some : ∀ {xs ys : List PyData} {b : Bool} {j : Nat} (_ : ltDs xs ys = some b) (h1 : j < xs.length) (h2 : j < ys.length), PyData.eqv xs[j] ys[j] = false → ∃ c, ltD xs[j] ys[j] = some c
  | x :: xs, y :: ys, b, j, h, h1, h2, he => by
    unfold ltDs at h
    match j, h1, h2, he with
    | 0, _, _, he =>
      have he : PyData.eqv x y = false := he
      rw [if_neg (by rw [he]; simp)] at h
      cases h3 : ltD x y with
      | none => rw [h3] at h; cases h
      | some c => exact ⟨c, h3⟩
    | j + 1, h1, h2, he =>
      by_cases hx : PyData.eqv x y = true
      · rw [if_pos hx] at h
        exact ltDs_some (j := j) h (by simpa using h1) (by simpa using h2) he
      · rw [if_neg hx] at h
        cases h4 : ltDs xs ys with
        | none =>
          rw [h4] at h
          cases h3 : ltD x y with
          | none => rw [h3] at h; cases h
          | some c => rw [h3] at h; cases h
        | some c => exact ltDs_some (j := j) h4 (by simpa using h1) (by simpa using h2) he
open PySem.SeqAt in
theorem readsAll_len {h : Heap} : ∀ {us : List Value} {ds : List PyData} {as : List Addr} (_ : ReadsAll h us ds as), us.length = ds.length
  | _, _, _, .nil => rfl
  | _, _, _, .cons _ t => by rw [List.length_cons, List.length_cons, readsAll_len t]
open PySem.SeqAt in
theorem readsAll_get {h : Heap} : ∀ {us : List Value} {ds : List PyData} {as : List Addr} {j : Nat} (_ : ReadsAll h us ds as) (h1 : j < us.length), ∃ (h2 : j < ds.length) (bs : List Addr), Reads h us[j] ds[j] bs
  | _, _, _, _, .nil, h1 => by simp at h1
  | _, _, _, 0, .cons r _, _ => ⟨by simp, _, r⟩
  | _, _, _, j + 1, .cons _ t, h1 => by
    obtain ⟨h2, bs, q⟩ := readsAll_get (j := j) t (by simpa using h1)
    exact ⟨by simpa using h2, bs, q⟩

open PySem.SeqAt in
theorem isTup_of {h : Heap} {a : Addr} {o : Obj} {vs : Array Value} {n : Nat} (h1 : h.get? a = some o) (h2 : o.cls = .type "tuple") (h3 : o.data = .seq vs n) : h.IsTuple a vs := ⟨o, h1, h2, n, h3⟩
theorem depth_mem {x : PyData} : ∀ {xs : List PyData} {j : Nat} (h : j < xs.length), (xs[j]).depth ≤ PyData.depthAll xs
  | x :: xs, 0, _ => Nat.le_max_left _ _
  | x :: xs, j + 1, h => Nat.le_trans (depth_mem (x := x) (xs := xs) (j := j) (by simpa using h)) (Nat.le_max_right _ _)
theorem plain_mem : ∀ {xs : List PyData} {j : Nat} (h : j < xs.length), PyData.plainAll xs = true → (xs[j]).plain = true
  | x :: xs, 0, _, h => (Bool.and_eq_true_iff.mp h).1
  | x :: xs, j + 1, h, hp => plain_mem (xs := xs) (j := j) (by simpa using h) (Bool.and_eq_true_iff.mp hp).2
theorem size_of_le {x : PyData} : ∀ {xs : List PyData} {j : Nat} (h : j < xs.length), sizeOf xs[j] < sizeOf xs
  | x :: xs, 0, _ => by simp; omega
  | y :: xs, j + 1, h => by
    have := size_of_le (x := x) (xs := xs) (j := j) (by simpa using h)
    simp only [List.getElem_cons_succ, List.cons.sizeOf_spec]; omega
open PySem.SeqAt in
theorem rc_lt (da : PyData) : ∀ (db : PyData) (A : Around) (s : Shared) (a b : Value) (as bs : List Addr) (r : Bool), Reads s.heap a da as → Reads s.heap b db bs → da.plain = true → db.plain = true →
    A.units + da.depth < cLine → ltD da db = some r → Ob.RcOp .Lt A s a b r := by
  match da with
  | .none => intro db A s a b as bs r ra rb pa pb hu h; unfold ltD at h; cases h
  | .bool _ => intro db A s a b as bs r ra rb pa pb hu h; unfold ltD at h; cases h
  | .list _ => intro db A s a b as bs r ra rb pa pb hu h; unfold ltD at h; cases h
  | .dict _ => intro db A s a b as bs r ra rb pa pb hu h; unfold ltD at h; cases h
  | .int i =>
    intro db A s a b as bs r ra rb pa pb hu h
    cases db with
    | int j => cases ra; cases rb; unfold ltD at h; cases h; exact Ob.RcOp.lt_int _ _ _ _
    | _ => unfold ltD at h; cases h
  | .str x =>
    intro db A s a b as bs r ra rb pa pb hu h
    cases db with
    | str y => cases ra; cases rb; unfold ltD at h; cases h; exact fun _ _ _ _ q => lt_str q
    | _ => unfold ltD at h; cases h
  | .tuple xs =>
    intro db A s a b as bs r ra rb pa pb hu h
    cases db with
    | tuple ys =>
      unfold ltD at h
      cases ra with
      | tuple a1 a2 a3 a4 =>
        rename_i va oa vsa na
        cases rb with
        | tuple b1 b2 b3 b4 =>
          rename_i vb ob vsb nb
          have za : vsa.size = xs.length := by have := readsAll_len a4; simpa using this
          have zb : vsb.size = ys.length := by have := readsAll_len b4; simpa using this
          have pa' : PyData.plainAll xs = true := pa
          have pb' : PyData.plainAll ys = true := pb
          have hd : (PyData.tuple xs).depth = PyData.depthAll xs + 1 := rfl
          have hu1 : A.in1.units = A.units + 1 := Around.in1_units _
          have q := Ob.RcOp.tuples_lt (A := A) (s := s) (e := fun j => PyData.eqv (xs.getD j .none) (ys.getD j .none)) (r := fun j => (ltD (xs.getD j .none) (ys.getD j .none)).getD false) (isTup_of a1 a2 a3) (isTup_of b1 b2 b3) (by omega)
            (fun j h1 h2 => ?_) (fun j h1 h2 h3 => ?_)
          · have e : Ob.lexAt (fun j => PyData.eqv (xs.getD j .none) (ys.getD j .none)) (fun j => (ltD (xs.getD j .none) (ys.getD j .none)).getD false) (decide (vsa.size < vsb.size)) 0 (min vsa.size vsb.size) = r := by
              rw [za, zb]
              refine lexAt_ltDs _ _ _ xs ys 0 r h (fun j h1 h2 => ?_) (fun j h1 h2 h3 => ?_) rfl
              · simp only [Nat.zero_add]
                rw [List.getD_eq_getElem?_getD, List.getD_eq_getElem?_getD, List.getElem?_eq_getElem h1, List.getElem?_eq_getElem h2]; rfl
              · obtain ⟨c, hc⟩ := ltDs_some h h1 h2 (by simpa [List.getD_eq_getElem?_getD, List.getElem?_eq_getElem h1, List.getElem?_eq_getElem h2] using h3)
                simp only [Nat.zero_add, List.getD_eq_getElem?_getD, List.getElem?_eq_getElem h1, List.getElem?_eq_getElem h2, Option.getD_some, hc]
            rw [e] at q
            exact q
          · obtain ⟨k1, as', r1⟩ := readsAll_get a4 (j := j) (by simpa using h1)
            obtain ⟨k2, bs', r2⟩ := readsAll_get b4 (j := j) (by simpa using h2)
            have := eqAt_plain xs[j] ys[j] A.in1 s _ _ as' bs' r1 r2 (plain_mem k1 pa') (plain_mem k2 pb') (by have := depth_mem (x := .none) k1; omega)
            simpa [List.getD_eq_getElem?_getD, List.getElem?_eq_getElem k1, List.getElem?_eq_getElem k2] using this
          · obtain ⟨k1, as', r1⟩ := readsAll_get a4 (j := j) (by simpa using h1)
            obtain ⟨k2, bs', r2⟩ := readsAll_get b4 (j := j) (by simpa using h2)
            have hs := size_of_le (x := .none) k1
            obtain ⟨c, hc⟩ := ltDs_some h k1 k2 (by simpa [List.getD_eq_getElem?_getD, List.getElem?_eq_getElem k1, List.getElem?_eq_getElem k2] using h3)
            have := rc_lt xs[j] ys[j] A.in1 s _ _ as' bs' c r1 r2 (plain_mem k1 pa') (plain_mem k2 pb') (by have := depth_mem (x := .none) k1; omega) hc
            simpa [List.getD_eq_getElem?_getD, List.getElem?_eq_getElem k1, List.getElem?_eq_getElem k2, hc] using this
    | _ => unfold ltD at h; cases h
termination_by sizeOf da
decreasing_by
  simp only [PyData.tuple.sizeOf_spec]; omega
end EL

set_option maxRecDepth 100000
/-! EL5: rules of operators -/
namespace EL
open PySem PySem.Spec PyProof.Rows L2
open PySem.SeqAt in
theorem rc_gt (da : PyData) : ∀ (db : PyData) (A : Around) (s : Shared) (a b : Value) (as bs : List Addr) (r : Bool), Reads s.heap a da as → Reads s.heap b db bs → da.plain = true → db.plain = true →
    A.units + da.depth < cLine → ltD db da = some r → Ob.RcOp .Gt A s a b r := by
  match da with
  | .none => intro db A s a b as bs r ra rb pa pb hu h; cases db <;> (unfold ltD at h; cases h)
  | .bool _ => intro db A s a b as bs r ra rb pa pb hu h; cases db <;> (unfold ltD at h; cases h)
  | .list _ => intro db A s a b as bs r ra rb pa pb hu h; cases db <;> (unfold ltD at h; cases h)
  | .dict _ => intro db A s a b as bs r ra rb pa pb hu h; cases db <;> (unfold ltD at h; cases h)
  | .int i =>
    intro db A s a b as bs r ra rb pa pb hu h
    cases db with
    | int j => cases ra; cases rb; unfold ltD at h; cases h; exact Ob.RcOp.gt_int _ _ _ _
    | _ => unfold ltD at h; cases h
  | .str x =>
    intro db A s a b as bs r ra rb pa pb hu h
    cases db with
    | str y => cases ra; cases rb; unfold ltD at h; cases h; exact fun _ _ _ _ q => PySem.P.gt_str q
    | _ => unfold ltD at h; cases h
  | .tuple xs =>
    intro db A s a b as bs r ra rb pa pb hu h
    cases db with
    | tuple ys =>
      unfold ltD at h
      cases ra with
      | tuple a1 a2 a3 a4 =>
        rename_i va oa vsa na
        cases rb with
        | tuple b1 b2 b3 b4 =>
          rename_i vb ob vsb nb
          have za : vsa.size = xs.length := by have := readsAll_len a4; simpa using this
          have zb : vsb.size = ys.length := by have := readsAll_len b4; simpa using this
          have pa' : PyData.plainAll xs = true := pa
          have pb' : PyData.plainAll ys = true := pb
          have hd : (PyData.tuple xs).depth = PyData.depthAll xs + 1 := rfl
          have hu1 : A.in1.units = A.units + 1 := Around.in1_units _
          have q := Ob.RcOp.tuples_gt (A := A) (s := s) (e := fun j => PyData.eqv (xs.getD j .none) (ys.getD j .none)) (r := fun j => (ltD (ys.getD j .none) (xs.getD j .none)).getD false) (isTup_of a1 a2 a3) (isTup_of b1 b2 b3) (by omega)
            (fun j h1 h2 => ?_) (fun j h1 h2 h3 => ?_)
          · have e : Ob.lexAt (fun j => PyData.eqv (xs.getD j .none) (ys.getD j .none)) (fun j => (ltD (ys.getD j .none) (xs.getD j .none)).getD false) (decide (vsa.size > vsb.size)) 0 (min vsa.size vsb.size) = r := by
              rw [za, zb, Nat.min_comm]
              refine lexAt_ltDs _ _ _ ys xs 0 r h (fun j h1 h2 => ?_) (fun j h1 h2 h3 => ?_) rfl
              · simp only [Nat.zero_add]
                rw [List.getD_eq_getElem?_getD, List.getD_eq_getElem?_getD, List.getElem?_eq_getElem h1, List.getElem?_eq_getElem h2]; exact eqv_symm _ _
              · obtain ⟨c, hc⟩ := ltDs_some h h1 h2 (by rw [eqv_symm]; simpa [List.getD_eq_getElem?_getD, List.getElem?_eq_getElem h1, List.getElem?_eq_getElem h2] using h3)
                simp only [Nat.zero_add, List.getD_eq_getElem?_getD, List.getElem?_eq_getElem h1, List.getElem?_eq_getElem h2, Option.getD_some, hc]
            rw [e] at q
            exact q
          · obtain ⟨k1, as', r1⟩ := readsAll_get a4 (j := j) (by simpa using h1)
            obtain ⟨k2, bs', r2⟩ := readsAll_get b4 (j := j) (by simpa using h2)
            have := eqAt_plain xs[j] ys[j] A.in1 s _ _ as' bs' r1 r2 (plain_mem k1 pa') (plain_mem k2 pb') (by have := depth_mem (x := .none) k1; omega)
            simpa [List.getD_eq_getElem?_getD, List.getElem?_eq_getElem k1, List.getElem?_eq_getElem k2] using this
          · obtain ⟨k1, as', r1⟩ := readsAll_get a4 (j := j) (by simpa using h1)
            obtain ⟨k2, bs', r2⟩ := readsAll_get b4 (j := j) (by simpa using h2)
            have hs := size_of_le (x := .none) k1
            obtain ⟨c, hc⟩ := ltDs_some h k2 k1 (by rw [eqv_symm]; simpa [List.getD_eq_getElem?_getD, List.getElem?_eq_getElem k1, List.getElem?_eq_getElem k2] using h3)
            have := rc_gt xs[j] ys[j] A.in1 s _ _ as' bs' c r1 r2 (plain_mem k1 pa') (plain_mem k2 pb') (by have := depth_mem (x := .none) k1; omega) hc
            simpa [List.getD_eq_getElem?_getD, List.getElem?_eq_getElem k1, List.getElem?_eq_getElem k2, hc] using this
    | _ => unfold ltD at h; cases h
termination_by sizeOf da
decreasing_by
  simp only [PyData.tuple.sizeOf_spec]; omega

section
variable {X : Cx} {K : PySem.W.Frag} {H H' : Hp} {S F f g : AS}
/-- a two-place operation of values that stand for p and q -/
def rB (K : PySem.W.Frag) (op : PV → PV → Option PV) : R2 := fun x y H Q => ∃ (S : AS) (p q r : PV) (f g : AS), RepO K H S p x f ∧ RepO K H S q y g ∧ op p q = some r ∧ ∀ v H' f', New K H S r v H' f' → Q v H'
def rC (K : PySem.W.Frag) (op : PV → PV → Option Bool) : R2 := fun x y H Q => ∃ (S : AS) (p q : PV) (r : Bool) (f g : AS), RepO K H S p x f ∧ RepO K H S q y g ∧ op p q = some r ∧ Q (.bl r) H
theorem New.sc {p : PV} {v : V} (h : RepF K H S p v) (e : isOwn p = false) : New K H S p v H Emp := New.same (RepO.of_frz e h)
theorem New.int (i : Int) : New K H S (.int i) (.int i) H Emp := New.sc rfl rfl
theorem New.bl (i : Bool) : New K H S (.bl i) (.bl i) H Emp := New.sc rfl rfl
theorem New.str (i : Str) : New K H S (.str i) (.str i) H Emp := New.sc rfl rfl
/-- an own or frozen flat list -/
theorem RepO.flat {fl : Fl} {xs : List PV} {v : V} (h : RepO K H S (.lst fl xs) v f) (e : flat fl = true) : ∃ a vs, v = .ref a ∧ H a = some (.lst vs) ∧ RepFs K H S xs vs := by
  match fl, h with
  | .own, h => obtain ⟨a, vs, e, h1, h2, h3⟩ := h; exact ⟨a, vs, e, h1, h3⟩
  | .frz, h =>
    obtain ⟨a, vs, e, h1, h3⟩ := (show RepF K H S (.lst .frz xs) v from h)
    unfold LsF at h1
    rw [if_neg (by decide)] at h1
    exact ⟨a, vs, e, h1.1, h3⟩
  | .deep, _ => cases e
  | .ro, _ => cases e
theorem RepFs.length : ∀ {xs : List PV} {vs : List V}, RepFs K H S xs vs → xs.length = vs.length
  | [], _, h => by cases h; rfl
  | x :: xs, _, h => by
    obtain ⟨v, ws, rfl, h1, h2⟩ := h
    simp [RepFs.length h2]
theorem RepFs.append : ∀ {xs ys : List PV} {vs ws : List V}, RepFs K H S xs vs → RepFs K H S ys ws → RepFs K H S (xs ++ ys) (vs ++ ws)
  | [], _, _, _, h, h' => by cases h; exact h'
  | x :: xs, ys, _, _, h, h' => by
    obtain ⟨v, ws, rfl, h1, h2⟩ := h
    exact ⟨v, ws ++ _, rfl, h1, RepFs.append h2 h'⟩
theorem RepFs.get : ∀ {xs : List PV} {vs : List V} {i : Nat} {p : PV}, RepFs K H S xs vs → xs[i]? = some p → ∃ v, vs[i]? = some v ∧ RepF K H S p v
  | [], _, _, _, h, e => by simp at e
  | x :: xs, _, 0, p, h, e => by
    obtain ⟨v, ws, rfl, h1, h2⟩ := h
    simp at e
    subst e
    exact ⟨v, rfl, h1⟩
  | x :: xs, _, i + 1, p, h, e => by
    obtain ⟨v, ws, rfl, h1, h2⟩ := h
    exact RepFs.get (i := i) h2 (by simpa using e)
theorem RepFs.set : ∀ {xs : List PV} {vs : List V} {i : Nat} {p : PV} {v : V}, RepFs K H S xs vs → RepF K H S p v → RepFs K H S (xs.set i p) (vs.set i v)
  | [], _, _, _, _, h, _ => by cases h; exact rfl
  | x :: xs, _, 0, p, v, h, r => by
    obtain ⟨w, ws, rfl, h1, h2⟩ := h
    exact ⟨v, ws, rfl, r, h2⟩
  | x :: xs, _, i + 1, p, v, h, r => by
    obtain ⟨w, ws, rfl, h1, h2⟩ := h
    exact ⟨w, ws.set i v, rfl, h1, RepFs.set (i := i) h2 r⟩
theorem RepFs.take : ∀ {xs : List PV} {vs : List V} (n : Nat), RepFs K H S xs vs → RepFs K H S (xs.take n) (vs.take n)
  | xs, vs, 0, h => by simp only [List.take_zero]; exact rfl
  | [], _, n + 1, h => by cases h; exact rfl
  | x :: xs, _, n + 1, h => by
    obtain ⟨w, ws, rfl, h1, h2⟩ := h
    exact ⟨w, ws.take n, rfl, h1, RepFs.take n h2⟩
theorem RepFs.drop : ∀ {xs : List PV} {vs : List V} (n : Nat), RepFs K H S xs vs → RepFs K H S (xs.drop n) (vs.drop n)
  | xs, vs, 0, h => h
  | [], _, n + 1, h => by cases h; exact rfl
  | x :: xs, _, n + 1, h => by
    obtain ⟨w, ws, rfl, h1, h2⟩ := h
    exact RepFs.drop n h2
theorem RepFs.reverse : ∀ {xs : List PV} {vs : List V}, RepFs K H S xs vs → RepFs K H S xs.reverse vs.reverse
  | [], _, h => by cases h; exact rfl
  | x :: xs, _, h => by
    obtain ⟨w, ws, rfl, h1, h2⟩ := h
    rw [List.reverse_cons, List.reverse_cons]
    exact (RepFs.reverse h2).append ⟨w, [], rfl, h1, rfl⟩
theorem RepFs.rep {xs : List PV} {vs : List V} (h : RepFs K H S xs vs) : ∀ n : Nat, RepFs K H S (List.replicate n xs).flatten (List.replicate n vs).flatten
  | 0 => rfl
  | n + 1 => by
    rw [List.replicate_succ, List.replicate_succ, List.flatten_cons, List.flatten_cons]
    exact h.append (RepFs.rep h n)
theorem RepFs.nil_iff {xs : List PV} {vs : List V} (h : RepFs K H S xs vs) : xs = [] ↔ vs = [] := by
  have e := h.length
  constructor
  · intro z; subst z; exact List.length_eq_zero_iff.mp e.symm
  · intro z; subst z; exact List.length_eq_zero_iff.mp e
theorem RepO.tup {xs : List PV} {v : V} (h : RepO K H S (.tup xs) v f) : ∃ a vs, v = .ref a ∧ H a = some (.tup vs) ∧ RepFs K H S xs vs := h
theorem some_if {α : Type} {b : Bool} {x y : α} (h : (if b = true then some x else none) = some y) : b = true ∧ x = y := by
  cases b with
  | true => exact ⟨rfl, Option.some.inj h⟩
  | false => cases h
theorem mulOk_of {x : Str} {n : Int} (h1 : -(2 ^ 63) ≤ n) (h2 : n < 2 ^ 63) (h3 : x.length * n.toNat ≤ sizeLine) : MulOk x n := by
  refine ⟨?_, fun hn _ => ?_, fun hn _ => ?_⟩
  · rw [decide_eq_false (by omega), decide_eq_false (by omega)]; rfl
  · have e : ((n.toNat : Nat) : Int) = n := Int.toNat_of_nonneg (by omega)
    have h4 : (x.length : Int) * n ≤ sizeLine := by
      rw [← e]; exact_mod_cast h3
    have h5 := line63
    have h6 : (x.length : Int) ≤ (2 ^ 63 - 1) / n := by
      refine Int.le_ediv_of_mul_le (by omega) ?_
      have : ((sizeLine : Nat) : Int) < 2 ^ 63 := by exact_mod_cast h5
      omega
    omega
  · unfold Builtin.Str.tooLong
    exact decide_eq_false (by omega)
theorem op_bin {op : Bin} {o : Operator} (hop : o = match op with | .add => .Add | .sub => .Sub | .mul => .Mult | .mod => .Mod | .fdiv => .FloorDiv | .pow => .Pow) : OpR X (binaryOp o) (rB X.K (binP op)) := by
  subst hop
  intro pins s σ H x y v u Q I rx ry h
  obtain ⟨S, p, q, r, f, g, hp, hq, e, k⟩ := h
  unfold binP at e
  split at e
  · cases e; cases hp; cases hq
    exact op_add pins s σ H _ _ v u Q I rx ry ⟨_, _, rfl, rfl, k _ _ _ (New.int _)⟩
  · obtain ⟨e1, rfl⟩ := some_if e
    cases hp; cases hq
    exact op_add_str pins s σ H _ _ v u Q I rx ry ⟨_, _, rfl, rfl, of_decide_eq_true e1, k _ _ _ (New.str _)⟩
  · obtain ⟨e1, rfl⟩ := some_if e
    rw [Bool.and_eq_true, Bool.and_eq_true] at e1
    obtain ⟨⟨e1, e2⟩, e3⟩ := e1
    obtain ⟨a, vs, rfl, ha, ra⟩ := hp.flat e1
    obtain ⟨b, ws, rfl, hb, rb⟩ := hq.flat e2
    refine op_cat pins s σ H _ _ v u Q I rx ry ⟨a, b, vs, ws, rfl, rfl, ha, hb, ?_, fun l hl => k _ _ _ (M.newL hl (ra.append rb))⟩
    rw [← ra.length, ← rb.length]; exact of_decide_eq_true e3
  · obtain ⟨e1, rfl⟩ := some_if e
    obtain ⟨a, vs, rfl, ha, ra⟩ := hp.tup
    obtain ⟨b, ws, rfl, hb, rb⟩ := hq.tup
    rename_i xs ys
    refine op_catA pins s σ H _ _ v u Q I rx ry ⟨a, b, vs, ws, rfl, rfl, SqT.of ha, SqT.of hb, ?_, fun z => ?_, fun _ z => ?_, fun _ _ l hl => k _ _ _ (M.newT hl (ra.append rb))⟩
    · rw [← ra.length, ← rb.length]; exact of_decide_eq_true e1
    · have zx : xs = [] := ra.nil_iff.mpr z
      subst zx
      rw [List.nil_append] at k
      exact k _ _ _ (New.sc (p := .tup ys) ⟨b, ws, rfl, hb, rb⟩ rfl)
    · have zy : ys = [] := rb.nil_iff.mpr z
      subst zy
      rw [List.append_nil] at k
      exact k _ _ _ (New.sc (p := .tup xs) ⟨a, vs, rfl, ha, ra⟩ rfl)
  · obtain ⟨e1, rfl⟩ := some_if e
    rw [Bool.and_eq_true, Bool.and_eq_true, Bool.and_eq_true] at e1
    obtain ⟨⟨⟨e1, e2⟩, e3⟩, e4⟩ := e1
    cases hq
    obtain ⟨a, vs, rfl, ha, ra⟩ := hp.tup
    rename_i xs k'
    have hx : xs ≠ [] := by
      intro z; subst z; exact absurd e1 (by simp)
    refine op_repT pins s σ H _ _ v u Q I rx ry ⟨a, _, vs, rfl, rfl, SqT.of ha, fun z => hx (ra.nil_iff.mpr z), of_decide_eq_true e2, of_decide_eq_true e3, ?_, fun l hl => k _ _ _ (M.newT hl (ra.rep _))⟩
    rw [← ra.length]; exact of_decide_eq_true e4
  · cases e; cases hp; cases hq
    exact op_sub pins s σ H _ _ v u Q I rx ry ⟨_, _, rfl, rfl, k _ _ _ (New.int _)⟩
  · obtain ⟨e1, rfl⟩ := some_if e
    cases hp; cases hq
    unfold mulOk at e1
    rw [Bool.or_eq_true, Bool.or_eq_true] at e1
    have two : ∀ i : Int, small i = true → -(2 ^ 64) < i ∧ i < 2 ^ 64 := fun i h => small_of h
    rcases e1 with (e1 | e1) | e1
    · exact op_mul pins s σ H _ _ v u Q I rx ry ⟨_, _, rfl, rfl, .inl (two _ e1), k _ _ _ (New.int _)⟩
    · exact op_mul pins s σ H _ _ v u Q I rx ry ⟨_, _, rfl, rfl, .inr (two _ e1), k _ _ _ (New.int _)⟩
    · refine op_mulW pins s σ H _ _ v u Q I rx ry ⟨_, _, rfl, rfl, ?_, k _ _ _ (New.int _)⟩
      have := of_decide_eq_true e1
      unfold CMulW
      omega
  · obtain ⟨e1, rfl⟩ := some_if e
    rw [Bool.and_eq_true, Bool.and_eq_true, Bool.and_eq_true] at e1
    obtain ⟨⟨⟨e1, e2⟩, e3⟩, e4⟩ := e1
    cases hq
    obtain ⟨a, vs, rfl, ha, ra⟩ := hp.flat e1
    refine op_rep pins s σ H _ _ v u Q I rx ry ⟨a, _, vs, rfl, rfl, ha, of_decide_eq_true e2, of_decide_eq_true e3, ?_, fun l hl => k _ _ _ (M.newL hl (ra.rep _))⟩
    rw [← ra.length]; exact of_decide_eq_true e4
  · obtain ⟨e1, rfl⟩ := some_if e
    rw [Bool.and_eq_true, Bool.and_eq_true] at e1
    obtain ⟨⟨e2, e3⟩, e4⟩ := e1
    cases hp; cases hq
    obtain ⟨t, rfl⟩ := rx
    obtain ⟨t', rfl⟩ := ry
    refine SB.mul (mulOk_of (of_decide_eq_true e2) (of_decide_eq_true e3) (of_decide_eq_true e4)) fun t' kk => ⟨.str _, H, I.tok _, ⟨_, rfl⟩, k _ _ _ (New.str _)⟩
  · obtain ⟨e1, rfl⟩ := some_if e
    cases hp; cases hq
    exact op_modN pins s σ H _ _ v u Q I rx ry ⟨_, _, rfl, rfl, of_decide_eq_true e1, k _ _ _ (New.int _)⟩
  · obtain ⟨e1, rfl⟩ := some_if e
    cases hp; cases hq
    unfold divOk at e1
    rw [Bool.and_eq_true] at e1
    obtain ⟨t, rfl⟩ := rx
    obtain ⟨t', rfl⟩ := ry
    exact floordiv_int (of_decide_eq_true e1.1) ⟨.int _, H, I.tok _, ⟨_, rfl⟩, k _ _ _ (New.int _)⟩ (.inl (PyProof.noPylong_of_log2 (of_decide_eq_true e1.2)))
  · obtain ⟨e1, rfl⟩ := some_if e
    cases hp; cases hq
    unfold powOk at e1
    rw [Bool.and_eq_true, Bool.and_eq_true] at e1
    exact op_pow pins s σ H _ _ v u Q I rx ry ⟨_, _, rfl, rfl, ⟨of_decide_eq_true e1.1.1, of_decide_eq_true e1.1.2, of_decide_eq_true e1.2⟩, k _ _ _ (New.int _)⟩
  · cases e

theorem op_cmp {op : Cmp} {o : CmpOp} (hu : X.A.units + 66 < cLine)
    (hop : o = match op with | .eq => .Eq | .ne => .NotEq | .lt => .Lt | .le => .LtE | .gt => .Gt | .ge => .GtE | .is => .Is | .isNot => .IsNot | .in_ => .In | .notIn => .NotIn)
    (hn : op ≠ .in_) (hn2 : op ≠ .notIn) : OpR X (compareOp o) (rC X.K (cmpP op)) := by
  subst hop
  intro pins s σ H x y v u Q I rx ry h
  obtain ⟨S, p, q, r, f, g, hp, hq, e, k⟩ := h
  have dat : ∀ {b : Bool}, eqP p q = some b → ∃ dp dq as bs, Reads s.heap v dp as ∧ Reads s.heap u dq bs ∧ dp.plain = true ∧ dq.plain = true ∧ X.A.units + min dp.depth dq.depth < cLine ∧ b = PyData.eqv dp dq := fun {b} e => by
    unfold eqP at e
    cases e1 : toD p with
    | none => rw [e1] at e; cases e
    | some dp =>
      cases e2 : toD q with
      | none => rw [e1, e2] at e; cases e
      | some dq =>
        rw [e1, e2] at e
        obtain ⟨e3, rfl⟩ := some_if e
        obtain ⟨as, r1⟩ := Dp.reads I dp x v (hp.dp e1) rx
        obtain ⟨bs, r2⟩ := Dp.reads I dq y u (hq.dp e2) ry
        have := of_decide_eq_true e3
        exact ⟨dp, dq, as, bs, r1, r2, toD_plain _ e1, toD_plain _ e2, by omega, rfl⟩
  have ord : ∀ {b : Bool}, ltI p q = some b → ∃ dp dq as bs, Reads s.heap v dp as ∧ Reads s.heap u dq bs ∧ dp.plain = true ∧ dq.plain = true ∧ X.A.units + dp.depth < cLine ∧ X.A.units + dq.depth < cLine ∧ ltD dp dq = some b := fun {b} e => by
    unfold ltI at e
    cases e1 : toD p with
    | none => rw [e1] at e; cases e
    | some dp =>
      cases e2 : toD q with
      | none => rw [e1, e2] at e; cases e
      | some dq =>
        rw [e1, e2] at e
        simp only at e
        split at e
        · rename_i e3
          rw [Bool.and_eq_true] at e3
          obtain ⟨as, r1⟩ := Dp.reads I dp x v (hp.dp e1) rx
          obtain ⟨bs, r2⟩ := Dp.reads I dq y u (hq.dp e2) ry
          have h3 := of_decide_eq_true e3.1
          have h4 := of_decide_eq_true e3.2
          exact ⟨dp, dq, as, bs, r1, r2, toD_plain _ e1, toD_plain _ e2, by omega, by omega, e⟩
        · cases e
  have ordr : ∀ {b : Bool}, ltI q p = some b → ∃ dp dq as bs, Reads s.heap v dp as ∧ Reads s.heap u dq bs ∧ dp.plain = true ∧ dq.plain = true ∧ X.A.units + dp.depth < cLine ∧ X.A.units + dq.depth < cLine ∧ ltD dq dp = some b := fun {b} e => by
    unfold ltI at e
    cases e1 : toD q with
    | none => rw [e1] at e; cases e
    | some dq =>
      cases e2 : toD p with
      | none => rw [e1, e2] at e; cases e
      | some dp =>
        rw [e1, e2] at e
        simp only at e
        split at e
        · rename_i e3
          rw [Bool.and_eq_true] at e3
          obtain ⟨as, r1⟩ := Dp.reads I dp x v (hp.dp e2) rx
          obtain ⟨bs, r2⟩ := Dp.reads I dq y u (hq.dp e1) ry
          have h3 := of_decide_eq_true e3.1
          have h4 := of_decide_eq_true e3.2
          exact ⟨dp, dq, as, bs, r1, r2, toD_plain _ e2, toD_plain _ e1, by omega, by omega, e⟩
        · cases e
  have isr : ∀ {b : Bool}, isP p q = some b → (y = .non ∧ b = decide (x = .non)) ∨ ∃ a c, x = .bl a ∧ y = .bl c ∧ b = decide (a = c) := fun {b} e => by
    unfold isP at e
    split at e
    · have hq : y = .non := hq
      refine .inl ⟨hq, ?_⟩
      have e := Option.some.inj e
      subst e
      have notn : ∀ {a : Addr}, decide ((V.ref a) = .non) = false := fun {a} => by simp
      match p, hp with
      | .non, hp => cases (show x = .non from hp); rfl
      | .bl _, hp => cases (show x = .bl _ from hp); rfl
      | .int _, hp => cases (show x = .int _ from hp); rfl
      | .str _, hp => cases (show x = .str _ from hp); rfl
      | .tup _, hp => obtain ⟨a, vs, rfl, _⟩ := hp; exact notn.symm
      | .ktp _, hp => obtain ⟨a, vs, rfl, _⟩ := hp; exact notn.symm
      | .lst .own _, hp => obtain ⟨a, vs, rfl, _⟩ := hp; exact notn.symm
      | .lst .deep _, hp => obtain ⟨a, vs, _, rfl, _⟩ := hp; exact notn.symm
      | .lst .frz _, hp => obtain ⟨a, vs, rfl, _⟩ := hp; exact notn.symm
      | .lst .ro _, hp => obtain ⟨a, vs, rfl, _⟩ := hp; exact notn.symm
      | .dic .own _ _, hp => obtain ⟨a, vs, rfl, _⟩ := hp; exact notn.symm
      | .dic .frz _ _, hp => obtain ⟨a, vs, rfl, _⟩ := hp; exact notn.symm
      | .dic .ro _ _, hp => obtain ⟨a, vs, rfl, _⟩ := hp; exact notn.symm
      | .dic .deep _ _, hp => exact hp.elim
    · exact .inr ⟨_, _, hp, hq, (Option.some.inj e).symm⟩
    · cases e
  unfold cmpP at e
  split at e
  · obtain ⟨dp, dq, as, bs, r1, r2, p1, p2, hu', rfl⟩ := dat e
    exact SeqAt.eq_plain r1 r2 p1 p2 hu' ⟨.bl _, H, I, rfl, k⟩
  · obtain ⟨b, e', rfl⟩ := map_some e
    obtain ⟨dp, dq, as, bs, r1, r2, p1, p2, hu', rfl⟩ := dat e'
    exact SeqAt.ne_plain r1 r2 p1 p2 hu' ⟨.bl _, H, I, rfl, k⟩
  · obtain ⟨dp, dq, as, bs, r1, r2, p1, p2, hu', _, hl⟩ := ord e
    exact rc_lt dp dq X.A s v u as bs r r1 r2 p1 p2 hu' hl _ _ _ _ ⟨.bl _, H, I, rfl, k⟩
  · obtain ⟨dp, dq, as, bs, r1, r2, p1, p2, hu', _, hl⟩ := ordr e
    exact rc_gt dp dq X.A s v u as bs r r1 r2 p1 p2 hu' hl _ _ _ _ ⟨.bl _, H, I, rfl, k⟩
  · cases hp; cases hq; cases e
    exact op_le pins s σ H _ _ v u Q I rx ry ⟨_, _, rfl, rfl, k⟩
  · cases hp; cases hq; cases e
    exact op_ge pins s σ H _ _ v u Q I rx ry ⟨_, _, rfl, rfl, k⟩
  · cases e
  · cases e
  · rcases isr e with ⟨rfl, rfl⟩ | ⟨a, c, rfl, rfl, rfl⟩
    · exact op_isN pins s σ H _ _ v u Q I rx ry ⟨rfl, k⟩
    · exact op_is_bl pins s σ H _ _ v u Q I rx ry ⟨_, _, rfl, rfl, k⟩
  · obtain ⟨b, e', rfl⟩ := map_some e
    rcases isr e' with ⟨rfl, rfl⟩ | ⟨a, c, rfl, rfl, rfl⟩
    · exact op_notN pins s σ H _ _ v u Q I rx ry ⟨rfl, k⟩
    · exact op_isnot_bl pins s σ H _ _ v u Q I rx ry ⟨_, _, rfl, rfl, k⟩
  · exact absurd rfl hn
  · exact absurd rfl hn2
end
end EL

set_option maxRecDepth 100000
/-! EL6: subscripts, membership, slices -/
namespace EL
open PySem PySem.Spec PyProof.Rows L2
section
variable {X : Cx} {K : PySem.W.Frag} {H H' : Hp} {S F f g : AS}
/-! ### dicts -/
theorem RepKs.get : ∀ {kvs : List (List Key × PV)} {ks : List (List Key × V)} (k : List Key), RepKs K H S kvs ks →
    (∀ p, getP kvs k = some p → ∃ v, valV ks k = some v ∧ RepF K H S p v) ∧ (getP kvs k = none → valV ks k = none)
  | [], _, k, h => by
    cases h
    exact ⟨fun p e => by simp [getP] at e, fun _ => rfl⟩
  | (k0, p0) :: r, _, k, h => by
    obtain ⟨⟨k1, v1⟩, ws, rfl, ⟨e1, h1⟩, h2⟩ := h
    have e1 : k1 = k0 := e1
    subst e1
    obtain ⟨i1, i2⟩ := RepKs.get k h2
    by_cases hk : k1 = k
    · subst hk
      refine ⟨fun p e => ?_, fun e => ?_⟩
      · have : p0 = p := by simpa [getP] using e
        subst this
        exact ⟨v1, by rw [valV_pos rfl], h1⟩
      · simp [getP] at e
    · have e2 : getP ((k1, p0) :: r) k = getP r k := by simp [getP, hk]
      rw [e2, valV_neg (show ¬ (k1, v1).1 = k from hk)]
      exact ⟨i1, i2⟩
theorem RepKs.any : ∀ {kvs : List (List Key × PV)} {ks : List (List Key × V)} (k : List Key), RepKs K H S kvs ks → (kvs.any fun p => decide (p.1 = k)) = ks.any fun p => decide (p.1 = k)
  | [], _, k, h => by cases h; rfl
  | (k0, p0) :: r, _, k, h => by
    obtain ⟨⟨k1, v1⟩, ws, rfl, ⟨e1, h1⟩, h2⟩ := h
    have e1 : k1 = k0 := e1
    subst e1
    simp only [List.any_cons, RepKs.any k h2]
theorem RepKs.length : ∀ {kvs : List (List Key × PV)} {ks : List (List Key × V)}, RepKs K H S kvs ks → kvs.length = ks.length
  | [], _, h => by cases h; rfl
  | x :: r, _, h => by
    obtain ⟨v, ws, rfl, h1, h2⟩ := h
    simp [RepKs.length h2]
theorem RepKs.append : ∀ {xs ys : List (List Key × PV)} {vs ws : List (List Key × V)}, RepKs K H S xs vs → RepKs K H S ys ws → RepKs K H S (xs ++ ys) (vs ++ ws)
  | [], _, _, _, h, h' => by cases h; exact h'
  | x :: xs, ys, _, _, h, h' => by
    obtain ⟨v, ws, rfl, h1, h2⟩ := h
    exact ⟨v, ws ++ _, rfl, h1, RepKs.append h2 h'⟩
theorem RepKs.repl {p : PV} {v : V} (r : RepF K H S p v) (k : List Key) : ∀ {kvs : List (List Key × PV)} {ks : List (List Key × V)}, RepKs K H S kvs ks →
    RepKs K H S (kvs.map fun q => if q.1 = k then (q.1, p) else q) (ks.map fun q => if q.1 = k then (q.1, v) else q)
  | [], _, h => by cases h; exact rfl
  | (k0, p0) :: l, _, h => by
    obtain ⟨⟨k1, v1⟩, ws, rfl, ⟨e1, h1⟩, h2⟩ := h
    have e1 : k1 = k0 := e1
    subst e1
    refine ⟨_, _, rfl, ?_, RepKs.repl r k h2⟩
    by_cases hk : k1 = k
    · simp only [hk, if_true]; exact ⟨rfl, r⟩
    · simp only [hk, if_false]; exact ⟨rfl, h1⟩
theorem RepKs.put {p : PV} {v : V} (r : RepF K H S p v) (k : List Key) {kvs : List (List Key × PV)} {ks : List (List Key × V)} (h : RepKs K H S kvs ks) : RepKs K H S (putP kvs k p) (putK ks k v) := by
  unfold putP putK
  rw [RepKs.any k h]
  split
  · exact h.repl r k
  · exact h.append ⟨(k, v), [], rfl, ⟨rfl, r⟩, rfl⟩
theorem RepKs.drop (k : List Key) : ∀ {kvs : List (List Key × PV)} {ks : List (List Key × V)}, RepKs K H S kvs ks → RepKs K H S (dropP kvs k) (dropK ks k)
  | [], _, h => by cases h; exact rfl
  | (k0, p0) :: l, _, h => by
    obtain ⟨⟨k1, v1⟩, ws, rfl, ⟨e1, h1⟩, h2⟩ := h
    have e1 : k1 = k0 := e1
    subst e1
    unfold dropP dropK
    by_cases hk : k1 = k
    · have q := RepKs.drop k h2
      unfold dropP dropK at q
      simp only [hk, List.filter_cons]
      simpa using q
    · simp only [List.filter_cons, ne_eq, hk, not_false_eq_true, decide_true, if_true]
      exact ⟨_, _, rfl, ⟨rfl, h1⟩, RepKs.drop k h2⟩
theorem toK_kV {p : PV} {v : V} {k : Key} (e : toK p = some k) (h : RepO K H S p v f) : v = kV k := by
  match p, e, h with
  | .int i, e, h => cases e; exact h
  | .str i, e, h => cases e; exact h
theorem toKs_kV : ∀ {ps : List PV} {vs : List V} {ks : List Key}, toKs ps = some ks → RepFs K H S ps vs → vs = ks.map kV
  | [], _, _, e, h => by cases e; cases h; rfl
  | p :: ps, _, _, e, h => by
    obtain ⟨v, ws, rfl, h1, h2⟩ := h
    unfold toKs at e
    cases e1 : toK p with
    | none => rw [e1] at e; cases e
    | some k =>
      cases e2 : toKs ps with
      | none => rw [e1, e2] at e; cases e
      | some ks =>
        rw [e1, e2] at e
        cases e
        rw [toKs_kV e2 h2]
        have : v = kV k := by
          match p, e1, h1 with
          | .int i, e, h => cases e; exact h
          | .str i, e, h => cases e; exact h
        rw [this]; rfl
theorem valV_k (kk : List (Key × V)) (k : Key) : valV (kk.map fun p => ([p.1], p.2)) [k] = valV kk k := by
  induction kk with
  | nil => rfl
  | cons p r ih =>
    rw [List.map_cons]
    by_cases h : p.1 = k
    · rw [valV_pos (show ([p.1], p.2).1 = [k] by rw [h]), valV_pos h]
    · rw [valV_neg (show ¬ ([p.1], p.2).1 = [k] by simpa using h), valV_neg h, ih]
theorem putK_k (kk : List (Key × V)) (k : Key) (v : V) : putK (kk.map fun p => ([p.1], p.2)) [k] v = (putK kk k v).map fun p => ([p.1], p.2) := by
  have ha : ((kk.map fun p => ([p.1], p.2)).any fun q : List Key × V => decide (q.1 = [k])) = kk.any fun q => decide (q.1 = k) := by
    rw [List.any_map]; congr 1; funext p; simp
  unfold putK
  rw [ha]
  split
  · rw [List.map_map, List.map_map]
    apply List.map_congr_left
    intro p _
    by_cases h : p.1 = k
    · simp [h]
    · simp [h]
  · rw [List.map_append]; rfl
theorem dropK_k (kk : List (Key × V)) (k : Key) : dropK (kk.map fun p => ([p.1], p.2)) [k] = (dropK kk k).map fun p => ([p.1], p.2) := by
  unfold dropK
  rw [List.filter_map]
  congr 1
  apply List.filter_congr
  intro p _
  simp
/-- a key, looked up -/
theorem DAt.get {d : DK} {a : Addr} {ks : List (List Key × V)} {q : PV} {y : V} {k : List Key} (h : DAt H d a ks) (e : keyP d q = some k) (r : RepO K H S q y f) : DGet H a y (valV ks k) := by
  cases d with
  | k =>
    obtain ⟨kk, h1, rfl⟩ := h
    obtain ⟨k1, e1, rfl⟩ := map_some (o := toK q) e
    rw [valV_k]
    exact .inl ⟨kk, k1, h1, toK_kV e1 r, rfl⟩
  | t =>
    match q, e, r with
    | .tup xs, e, r =>
      obtain ⟨b, vs, rfl, hb, rs⟩ := r.tup
      rw [toKs_kV e rs] at hb
      exact .inr ⟨ks, k, b, h, rfl, hb, rfl⟩
theorem DOw.put {d : DK} {a : Addr} {ks : List (List Key × V)} {q : PV} {y v : V} {k : List Key} (h : DOw H d a ks) (e : keyP d q = some k) (r : RepO K H S q y f) (hl : ks.length < sizeLine) :
    ∃ o, DPut H a y v (upd H a o) ∧ DOw (upd H a o) d a (putK ks k v) := by
  cases d with
  | k =>
    obtain ⟨kk, h1, rfl⟩ := h
    obtain ⟨k1, e1, rfl⟩ := map_some (o := toK q) e
    exact ⟨.dK (putK kk k1 v), .inl ⟨kk, k1, h1, toK_kV e1 r, by simpa using hl, rfl⟩, putK kk k1 v, upd_same, putK_k kk k1 v⟩
  | t =>
    match q, e, r with
    | .tup xs, e, r =>
      obtain ⟨b, vs, rfl, hb, rs⟩ := r.tup
      rw [toKs_kV e rs] at hb
      exact ⟨.dT (putK ks k v), .inr ⟨ks, k, b, h, rfl, hb, hl, rfl⟩, upd_same⟩
/-- a dict that is read -/
theorem RepO.dic {fl : Fl} {d : DK} {kvs} {v : V} (h : RepO K H S (.dic fl d kvs) v f) : ∃ a ks, v = .ref a ∧ DAt H d a ks ∧ RepKs K H S kvs ks := by
  match fl, h with
  | .own, h => obtain ⟨a, ks, e, h1, h2, h3⟩ := h; exact ⟨a, ks, e, h1.at, h3⟩
  | .frz, h => obtain ⟨a, ks, e, hs, h1, h3⟩ := (show RepF K H S (.dic .frz d kvs) v from h); exact ⟨a, ks, e, h1, h3⟩
  | .ro, h => obtain ⟨a, ks, e, hs, h1, h3⟩ := (show RepF K H S (.dic .ro d kvs) v from h); exact ⟨a, ks, e, h1, h3⟩
  | .deep, h => exact h.elim
theorem Rep1s.get : ∀ {xs : List PV} {vs : List V} {F : AS}, Rep1s K H S xs vs F → vs.length = xs.length ∧ ∀ (i : Nat) (p : PV), xs[i]? = some p → isOwn p = false → ∃ w : V, vs[i]? = some w ∧ RepF K H S p w
  | [], _, _, h => by cases h; exact ⟨rfl, fun i p e _ => by simp at e⟩
  | x :: xs, _, _, h => by
    obtain ⟨w, ws, G1, G2, rfl, u1, u2, dj, r1, r2⟩ := h
    obtain ⟨i1, i2⟩ := Rep1s.get r2
    refine ⟨by simp [i1], fun i p e ho => ?_⟩
    match i, e with
    | 0, e =>
      simp at e
      subst e
      refine ⟨w, rfl, ?_⟩
      unfold Rep1 at r1
      split at r1
      · cases ho
      · exact r1.2
    | i + 1, e => exact i2 i p (by simpa using e) ho
/-- a list that is read, of any kind: its items' values -/
theorem RepO.lsq {fl : Fl} {xs : List PV} {v : V} (h : RepO K H S (.lst fl xs) v f) : ∃ a vs, v = .ref a ∧ SqL K H a vs ∧ vs.length = xs.length ∧
    ∀ (i : Nat) (p : PV), xs[i]? = some p → (fl = .deep → isOwn p = false) → ∃ w : V, vs[i]? = some w ∧ RepF K H S p w := by
  have get : ∀ (vs : List V), RepFs K H S xs vs → vs.length = xs.length ∧ ∀ (i : Nat) (p : PV), xs[i]? = some p → (fl = .deep → isOwn p = false) → ∃ w : V, vs[i]? = some w ∧ RepF K H S p w :=
    fun vs h => ⟨h.length.symm, fun i p e _ => h.get e⟩
  match fl, h, get with
  | .own, h, get => obtain ⟨a, vs, e, h1, h2, h3⟩ := h; exact ⟨a, vs, e, .inl (.inl h1), get vs h3⟩
  | .frz, h, get =>
    obtain ⟨a, vs, e, h1, h3⟩ := (show RepF K H S (.lst .frz xs) v from h)
    unfold LsF at h1
    rw [if_neg (by decide)] at h1
    exact ⟨a, vs, e, .inl (.inl h1.1), get vs h3⟩
  | .ro, h, get =>
    obtain ⟨a, vs, e, h1, h3⟩ := (show RepF K H S (.lst .ro xs) v from h)
    unfold LsF at h1
    rw [if_pos rfl] at h1
    refine ⟨a, vs, e, ?_, get vs h3⟩
    rcases h1 with ⟨o, h1⟩ | h1
    · exact .inl (.inr ⟨o, h1⟩)
    · exact .inr h1
  | .deep, h, _ =>
    obtain ⟨a, vs, F1, e, h1, h2, s1, n1, h3⟩ := h
    obtain ⟨q1, q2⟩ := h3.get
    exact ⟨a, vs, e, .inl (.inl h1), q1, fun i p e ho => q2 i p e (ho rfl)⟩
theorem atI_map {α β : Type} {xs : List α} {ys : List β} {i : Int} {x : α} (hl : ys.length = xs.length) (e : atI xs i = some x) : ∃ j : Nat, xs[j]? = some x ∧ ∀ y : β, ys[j]? = some y → atI ys i = some y := by
  unfold atI at e ⊢
  cases h : ixN xs.length i with
  | none => rw [h] at e; cases e
  | some j =>
    rw [h] at e
    exact ⟨j, e, fun y hy => by rw [hl, h]; exact hy⟩
/-! ### a[i] -/
def rX (K : PySem.W.Frag) (op : PV → PV → Option PV) : R2 := rB K op
theorem ix_any (hu : X.A.units + 66 < cLine) : IxR X (rB X.K idxP) := by
  intro value slice pins s σ H x y v u Q I rx ry h hs
  obtain ⟨S, p, q, r, f, g, hp, hq, e, k⟩ := h
  unfold idxP at e
  split at e
  · rename_i fl xs i
    cases hq
    cases hw : atI xs i with
    | none => rw [hw] at e; cases e
    | some w =>
      rw [hw] at e
      simp only at e
      obtain ⟨a, vs, rfl, hL, hlen, hget⟩ := hp.lsq
      obtain ⟨j, hj, hat⟩ := atI_map hlen hw
      by_cases hd : fl = .deep
      · rw [if_pos hd] at e
        by_cases ho : isOwn w = true
        · rw [if_pos ho] at e; cases e
        · rw [if_neg ho] at e
          obtain rfl := Option.some.inj e
          obtain ⟨z, hz, rz⟩ := hget j w hj fun _ => by simpa using ho
          exact ix_list value slice pins s σ H _ _ v u Q I rx ry ⟨a, vs, i, z, rfl, rfl, hL, hat z hz, k _ _ _ (New.sc rz (by simpa using ho))⟩ hs
      · rw [if_neg hd] at e
        cases e
        obtain ⟨z, hz, rz⟩ := hget j w hj fun h => absurd h hd
        exact ix_list value slice pins s σ H _ _ v u Q I rx ry ⟨a, vs, i, z, rfl, rfl, hL, hat z hz, k _ _ _ (New.sc rz.frz (isOwn_frz _))⟩ hs
  · rename_i xs i
    cases hq
    obtain ⟨w, hw, rfl⟩ := map_some e
    obtain ⟨a, vs, rfl, ha, rs⟩ := hp.tup
    obtain ⟨j, hj, hat⟩ := atI_map rs.length.symm hw
    obtain ⟨z, hz, rz⟩ := rs.get hj
    exact ix_tup value slice pins s σ H _ _ v u Q I rx ry ⟨a, vs, i, z, rfl, rfl, SqT.of ha, hat z hz, k _ _ _ (New.sc rz.frz (isOwn_frz _))⟩ hs
  · rename_i xs i
    cases hq
    obtain ⟨w, hw, rfl⟩ := map_some e
    obtain ⟨a, vs, rfl, ha, rs⟩ := (show RepF X.K H S (.ktp xs) x from hp)
    obtain ⟨j, hj, hat⟩ := atI_map rs.length.symm hw
    obtain ⟨z, hz, rz⟩ := rs.get hj
    exact ix_tup value slice pins s σ H _ _ v u Q I rx ry ⟨a, vs, i, z, rfl, rfl, ha, hat z hz, k _ _ _ (New.sc rz.frz (isOwn_frz _))⟩ hs
  · rename_i z i
    cases hp; cases hq
    split at e
    · rename_i hz
      obtain ⟨c, hc, rfl⟩ := map_some e
      exact ix_str value slice pins s σ H _ _ v u Q I rx ry ⟨z, i, c, rfl, rfl, of_decide_eq_true hz, hc, k _ _ _ (New.str _)⟩ hs
    · cases e
  · rename_i fl d kvs k0
    split at e
    · rename_i k1 hk
      obtain ⟨w, hw, rfl⟩ := map_some e
      obtain ⟨a, ks, rfl, hd, rk⟩ := hp.dic
      have gt := hd.get hk hq
      obtain ⟨z, hz, rz⟩ := (rk.get k1).1 w hw
      rw [hz] at gt
      cases rx
      exact tail_any (dict_typeIs I gt) PySem.F.slot_dict_getitem.lookup (d_getItem (by omega) I gt ry fun w' s' I' rw' => ⟨z, H, I', rw', k _ _ _ (New.sc rz.frz (isOwn_frz _))⟩) hs
    · cases e
  · cases e
/-! ### x in c -/
theorem op_in {neg : Bool} {o : CmpOp} (hu : X.A.units + 66 < cLine) (hop : o = if neg then .NotIn else .In) : OpR X (compareOp o) (rC X.K fun p q => (inP p q).map fun b => if neg then !b else b) := by
  subst hop
  intro pins s σ H x y v u Q I rx ry h
  obtain ⟨S, p, q, r, f, g, hp, hq, e0, k⟩ := h
  obtain ⟨b, e, e9⟩ := map_some e0
  clear e0
  subst e9
  have seq : ∀ {ys : List PV} (isL : Bool), anyEq p ys = some b → (∀ ds, toDs ys = some ds → toD q = some (if isL then PyData.list ds else PyData.tuple ds)) →
      wpAny (model X.prog X.w) X.A (compareOp (if neg then .NotIn else .In) v u) (EP X pins σ Q) X.xe s := fun {ys} isL e hds => by
    unfold anyEq at e
    cases e1 : toDs ys with
    | none => rw [e1] at e; cases e
    | some ds =>
      cases e2 : toD p with
      | none => rw [e1, e2] at e; cases e
      | some d =>
        rw [e1, e2] at e
        obtain ⟨e3, rfl⟩ := some_if e
        have e4 := of_decide_eq_true e3
        obtain ⟨as, r1⟩ := Dp.reads I d x v (hp.dp e2) rx
        have p1 := toDs_plain _ e1
        have p2 := toD_plain _ e2
        have q1 := hds ds e1
        cases isL with
        | true =>
          obtain ⟨bs, r2⟩ := Dp.reads I _ y u (hq.dp q1) ry
          cases neg with
          | true => exact SeqAt.notIn_list_data r2 r1 p1 p2 (by omega) ⟨.bl _, H, I, rfl, k⟩
          | false => exact SeqAt.in_list_data r2 r1 p1 p2 (by omega) ⟨.bl _, H, I, rfl, k⟩
        | false =>
          obtain ⟨bs, r2⟩ := Dp.reads I _ y u (hq.dp q1) ry
          cases neg with
          | true => exact SeqAt.notIn_tuple_data r2 r1 p1 p2 (by omega) ⟨.bl _, H, I, rfl, k⟩
          | false => exact SeqAt.in_tuple_data r2 r1 p1 p2 (by omega) ⟨.bl _, H, I, rfl, k⟩
  unfold inP at e
  split at e
  · rename_i fl ys
    exact seq true e fun ds h => by unfold toD; rw [h]; rfl
  · exact seq false e fun ds h => by unfold toD; rw [h]; rfl
  · exact seq false e fun ds h => by unfold toD; rw [h]; rfl
  · rename_i z
    split at e
    · rename_i y'
      split at e
      · rename_i c hc
        cases e
        cases hp; cases hq
        have ey : y' = ⟨#[c]⟩ := by
          cases y' with
          | mk cps => congr 1; apply Array.toList_inj.mp; simpa using hc
        subst ey
        cases neg with
        | true => exact op_notIn_sign pins s σ H _ _ v u Q I rx ry ⟨c, z, rfl, rfl, k⟩
        | false => exact op_in_sign pins s σ H _ _ v u Q I rx ry ⟨c, z, rfl, rfl, k⟩
      · cases e
    · cases e
  · rename_i fl d kvs
    obtain ⟨k1, hk, rfl⟩ := map_some e
    obtain ⟨a, ks, rfl, hd, rk⟩ := hq.dic
    have gt := hd.get hk hp
    cases ry
    have es : (valV ks k1).isSome = (getP kvs k1).isSome := by
      cases h : getP kvs k1 with
      | none => rw [(rk.get k1).2 h]; rfl
      | some p => obtain ⟨z, hz, _⟩ := (rk.get k1).1 p h; rw [hz]; rfl
    cases neg with
    | true => exact d_notIn (by omega) I gt rx fun s' I' => ⟨.bl _, H, I', rfl, by rw [es]; exact k⟩
    | false => exact d_in (by omega) I gt rx fun s' I' => ⟨.bl _, H, I', rfl, by rw [es]; exact k⟩
  · cases e
/-! ### a[lo:hi] -/
theorem RepFs.cut {xs : List PV} {vs : List V} (h : RepFs K H S xs vs) (lo hi : Option Int) : RepFs K H S (cut xs lo hi) (cutV vs lo hi) := by
  unfold EL.cut cutV
  rw [h.length]
  exact (h.drop _).take _
theorem cut_whole {α : Type} (xs : List α) (lo hi : Option Int) (h : HT.sIx xs.length 0 lo = 0 ∧ HT.sIx xs.length xs.length hi = xs.length) : cut xs lo hi = xs := by
  unfold cut
  rw [h.1, h.2, List.drop_zero, Nat.sub_zero, List.take_length]
theorem sl_any : SlR X (fun x lo hi H Q => ∃ (S : AS) (p r : PV) (f : AS), RepO X.K H S p x f ∧ slcP p lo hi = some r ∧ ∀ v H' f', New X.K H S r v H' f' → Q v H') := by
  intro pins s σ H x v vl vu lo hi sl Q I rx hs pl pu h
  obtain ⟨S, p, r, f, hp, e, k⟩ := h
  unfold slcP at e
  split at e
  · obtain ⟨e1, rfl⟩ := some_if e
    obtain ⟨a, vs, rfl, ha, rs⟩ := hp.flat e1
    exact sl_list pins s σ H _ v vl vu lo hi sl Q I rx hs pl pu ⟨a, vs, rfl, .inl (.inl ha), fun l hl => k _ _ _ (M.newL hl (rs.cut lo hi))⟩
  · cases e
    obtain ⟨a, vs, rfl, ha, rs⟩ := hp.tup
    refine sl_tupA pins s σ H _ v vl vu lo hi sl Q I rx hs pl pu ⟨a, vs, rfl, SqT.of ha, fun hw => ?_, fun _ l hl => k _ _ _ (M.newT hl (rs.cut lo hi))⟩
    rw [cut_whole _ _ _ (by rw [rs.length]; exact hw)] at k
    rename_i xs
    exact k _ _ _ (New.sc (p := .tup xs) ⟨a, vs, rfl, ha, rs⟩ rfl)
  · obtain ⟨e1, rfl⟩ := some_if e
    cases hp
    exact sl_str pins s σ H _ v vl vu lo hi sl Q I rx hs pl pu ⟨_, rfl, of_decide_eq_true e1, by
      have := k _ _ _ (New.str (K := X.K) (H := H) (S := S) _)
      unfold cut at this
      unfold cutS
      simpa [Str.length] using this⟩
  · cases e
end
end EL

set_option maxRecDepth 100000
/-! EL7: built-in functions -/
namespace EL
open PySem PySem.Spec PyProof.Rows L2
section
variable {X : Cx} {K : PySem.W.Frag} {H H' : Hp} {S F f g : AS}
def rBl (K : PySem.W.Frag) (op : List PV → Option PV) : List V → Hp → VK → Prop := fun xs H Q => ∃ (S : AS) (ps : List PV) (r : PV), RepBs K H S ps xs ∧ op ps = some r ∧ ∀ v H' f', New K H S r v H' f' → Q v H'
theorem RepBs.one {p : PV} {xs : List V} (h : RepBs K H S [p] xs) : ∃ v f, xs = [v] ∧ RepO K H S p v f := by
  cases h with
  | cons h1 h2 => cases h2; exact ⟨_, _, rfl, h1⟩
theorem RepBs.two {p q : PV} {xs : List V} (h : RepBs K H S [p, q] xs) : ∃ v w f g, xs = [v, w] ∧ RepO K H S p v f ∧ RepO K H S q w g := by
  cases h with
  | cons h1 h2 =>
    obtain ⟨w, g, rfl, h3⟩ := h2.one
    exact ⟨_, w, _, g, rfl, h1, h3⟩
theorem intsP_map : ∀ {ps : List PV} {vs : List V} {ns : List Int}, intsP ps = some ns → RepFs K H S ps vs → vs = ns.map V.int
  | [], _, _, e, h => by cases e; cases h; rfl
  | p :: ps, _, _, e, h => by
    obtain ⟨v, ws, rfl, h1, h2⟩ := h
    match p, e, h1 with
    | .int i, e, h1 =>
      obtain ⟨ms, e1, rfl⟩ := map_some (o := intsP ps) e
      rw [intsP_map e1 h2]
      cases (show v = .int i from h1)
      rfl
theorem blsP_map : ∀ {ps : List PV} {vs : List V} {ns : List Bool}, blsP ps = some ns → RepFs K H S ps vs → vs = ns.map V.bl
  | [], _, _, e, h => by cases e; cases h; rfl
  | p :: ps, _, _, e, h => by
    obtain ⟨v, ws, rfl, h1, h2⟩ := h
    match p, e, h1 with
    | .bl i, e, h1 =>
      obtain ⟨ms, e1, rfl⟩ := map_some (o := blsP ps) e
      rw [blsP_map e1 h2]
      cases (show v = .bl i from h1)
      rfl
theorem strsP_map : ∀ {ps : List PV} {vs : List V} {ns : List Str}, strsP ps = some ns → RepFs K H S ps vs → vs = ns.map V.str
  | [], _, _, e, h => by cases e; cases h; rfl
  | p :: ps, _, _, e, h => by
    obtain ⟨v, ws, rfl, h1, h2⟩ := h
    match p, e, h1 with
    | .str i, e, h1 =>
      obtain ⟨ms, e1, rfl⟩ := map_some (o := strsP ps) e
      rw [strsP_map e1 h2]
      cases (show v = .str i from h1)
      rfl
theorem call_lenE : CallR X (.builtin "len") (rBl X.K (bltP .len)) := by
  intro pins s σ H xs us Q I r h
  obtain ⟨S, ps, p, hr, e, k⟩ := h
  match ps, e, hr with
  | [.lst fl xs], e, hr =>
    obtain ⟨v, f, rfl, hp⟩ := hr.one
    cases e
    obtain ⟨a, vs, rfl, hL, hlen, _⟩ := hp.lsq
    exact call_len_seq pins s σ H _ us Q I r ⟨a, vs, rfl, .inl hL, by rw [hlen]; exact k _ _ _ (New.int _)⟩
  | [.tup xs], e, hr =>
    obtain ⟨v, f, rfl, hp⟩ := hr.one
    cases e
    obtain ⟨a, vs, rfl, ha, rs⟩ := hp.tup
    exact call_len_seq pins s σ H _ us Q I r ⟨a, vs, rfl, .inr (SqT.of ha), by rw [← rs.length]; exact k _ _ _ (New.int _)⟩
  | [.ktp xs], e, hr =>
    obtain ⟨v, f, rfl, hp⟩ := hr.one
    cases e
    obtain ⟨a, vs, rfl, ha, rs⟩ := (show RepF X.K H S (.ktp xs) v from hp)
    exact call_len_seq pins s σ H _ us Q I r ⟨a, vs, rfl, .inr ha, by rw [← rs.length]; exact k _ _ _ (New.int _)⟩
  | [.str z], e, hr =>
    obtain ⟨v, f, rfl, hp⟩ := hr.one
    obtain ⟨e1, rfl⟩ := some_if e
    cases hp
    exact call_len_str pins s σ H _ us Q I r ⟨z, rfl, of_decide_eq_true e1, k _ _ _ (New.int _)⟩
  | [.dic fl d kvs], e, hr =>
    obtain ⟨v, f, rfl, hp⟩ := hr.one
    cases e
    obtain ⟨a, ks, rfl, hd, rk⟩ := hp.dic
    rw [rk.length] at k
    cases r with
    | cons r1 r2 =>
      cases r2
      cases r1
      cases d with
      | k =>
        obtain ⟨kk, h1, rfl⟩ := hd
        refine d_len I h1 fun t s' I' => ⟨.int _, H, I', ⟨_, rfl⟩, ?_⟩
        have q := k _ _ _ (New.int _)
        rw [List.length_map] at q
        exact q
      | t =>
        obtain ⟨z, hy, ys, rel, dd⟩ := dt_rd I.hok hd
        have hl : ks.length = ys.length := Paired.length rel
        have h63 := line63
        refine call_len_dictH hy dd (by omega) ⟨.int _, H, I.tok _, ⟨_, rfl⟩, ?_⟩
        have q := k _ _ _ (New.int _)
        rw [hl] at q
        exact q
theorem call_absE : CallR X (.builtin "abs") (rBl X.K (bltP .abs)) := by
  intro pins s σ H xs us Q I r h
  obtain ⟨S, ps, p, hr, e, k⟩ := h
  match ps, e, hr with
  | [.int i], e, hr =>
    obtain ⟨v, f, rfl, hp⟩ := hr.one
    cases e; cases hp
    exact call_abs pins s σ H _ us Q I r ⟨i, rfl, k _ _ _ (New.int _)⟩
theorem call_min2E (hc : X.calm = true) : CallR X (.builtin "min") (rBl X.K (bltP .min2)) := by
  intro pins s σ H xs us Q I r h
  obtain ⟨S, ps, p, hr, e, k⟩ := h
  match ps, e, hr with
  | [.int i, .int j], e, hr =>
    obtain ⟨v, w, f, g, rfl, hp, hq⟩ := hr.two
    cases e; cases hp; cases hq
    exact call_min2 hc pins s σ H _ us Q I r ⟨i, j, rfl, k _ _ _ (New.int _)⟩
theorem call_max2E (hc : X.calm = true) : CallR X (.builtin "max") (rBl X.K (bltP .max2)) := by
  intro pins s σ H xs us Q I r h
  obtain ⟨S, ps, p, hr, e, k⟩ := h
  match ps, e, hr with
  | [.int i, .int j], e, hr =>
    obtain ⟨v, w, f, g, rfl, hp, hq⟩ := hr.two
    cases e; cases hp; cases hq
    exact call_max2 hc pins s σ H _ us Q I r ⟨i, j, rfl, k _ _ _ (New.int _)⟩
/-- a list whose items are all read -/
theorem RepO.lsF {fl : Fl} {xs : List PV} {v : V} (hf : fl ≠ .deep) (h : RepO K H S (.lst fl xs) v f) : ∃ a vs, v = .ref a ∧ SqL K H a vs ∧ RepFs K H S xs vs := by
  match fl, h, hf with
  | .own, h, _ => obtain ⟨a, vs, e, h1, h2, h3⟩ := h; exact ⟨a, vs, e, .inl (.inl h1), h3⟩
  | .frz, h, _ =>
    obtain ⟨a, vs, e, h1, h3⟩ := (show RepF K H S (.lst .frz xs) v from h)
    unfold LsF at h1
    rw [if_neg (by decide)] at h1
    exact ⟨a, vs, e, .inl (.inl h1.1), h3⟩
  | .ro, h, _ =>
    obtain ⟨a, vs, e, h1, h3⟩ := (show RepF K H S (.lst .ro xs) v from h)
    unfold LsF at h1
    rw [if_pos rfl] at h1
    refine ⟨a, vs, e, ?_, h3⟩
    rcases h1 with ⟨o, h1⟩ | h1
    · exact .inl (.inr ⟨o, h1⟩)
    · exact .inr h1
  | .deep, _, hf => exact absurd rfl hf
theorem call_sumE (hc : X.calm = true) : CallR X (.builtin "sum") (rBl X.K (bltP .sum)) := by
  intro pins s σ H xs us Q I r h
  obtain ⟨S, ps, p, hr, e, k⟩ := h
  match ps, e, hr with
  | [.lst fl xs], e, hr =>
    obtain ⟨v, f, rfl, hp⟩ := hr.one
    obtain ⟨hf, e⟩ : fl ≠ .deep ∧ (intsP xs).map (fun ns => PV.int ns.sum) = some p := by
      match fl, e with
      | .own, e => exact ⟨by decide, e⟩
      | .frz, e => exact ⟨by decide, e⟩
      | .ro, e => exact ⟨by decide, e⟩
    obtain ⟨ns, e1, rfl⟩ := map_some e
    obtain ⟨a, vs, rfl, ha, rs⟩ := hp.lsF hf
    rw [intsP_map e1 rs] at ha
    exact cr_sum hc pins s σ H _ us Q I r ⟨a, ns, rfl, ha, k _ _ _ (New.int _)⟩
  | .lst fl xs :: y :: r, e, hr => cases fl <;> cases e
theorem call_allE (hc : X.calm = true) : CallR X (.builtin "all") (rBl X.K (bltP .all)) := by
  intro pins s σ H xs us Q I r h
  obtain ⟨S, ps, p, hr, e, k⟩ := h
  match ps, e, hr with
  | [.lst fl xs], e, hr =>
    obtain ⟨v, f, rfl, hp⟩ := hr.one
    obtain ⟨hf, e⟩ : fl ≠ .deep ∧ (blsP xs).map (fun ns => PV.bl (ns.all id)) = some p := by
      match fl, e with
      | .own, e => exact ⟨by decide, e⟩
      | .frz, e => exact ⟨by decide, e⟩
      | .ro, e => exact ⟨by decide, e⟩
    obtain ⟨ns, e1, rfl⟩ := map_some e
    obtain ⟨a, vs, rfl, ha, rs⟩ := hp.lsF hf
    rw [blsP_map e1 rs] at ha
    exact cr_all hc pins s σ H _ us Q I r ⟨a, ns, rfl, ha, k _ _ _ (New.bl _)⟩
  | .lst fl xs :: y :: r, e, hr => cases fl <;> cases e
theorem call_tupleE : CallR X (.type "tuple") (rBl X.K (bltP .tuple)) := by
  intro pins s σ H xs us Q I r h
  obtain ⟨S, ps, p, hr, e, k⟩ := h
  match ps, e, hr with
  | [.lst fl xs], e, hr =>
    obtain ⟨v, f, rfl, hp⟩ := hr.one
    obtain ⟨e1, rfl⟩ := some_if e
    obtain ⟨a, vs, rfl, ha, rs⟩ := hp.flat e1
    exact call_tuple_of pins s σ H _ us Q I r ⟨a, vs, rfl, .inl ⟨.inl (.inl ha), fun l hl => k _ _ _ (M.newT hl rs)⟩⟩
  | [.tup xs], e, hr =>
    obtain ⟨v, f, rfl, hp⟩ := hr.one
    cases e
    obtain ⟨a, vs, rfl, ha, rs⟩ := hp.tup
    exact call_tuple_of pins s σ H _ us Q I r ⟨a, vs, rfl, .inr ⟨SqT.of ha, k _ _ _ (New.sc (p := .tup xs) ⟨a, vs, rfl, ha, rs⟩ rfl)⟩⟩
theorem vals_by_place : ∀ (xs : List V) (us : List Value), us.length = xs.length → (∀ (j : Nat) (u : Value), us[j]? = some u → ∃ x, xs[j]? = some x ∧ RelV x u) → Vals xs us := fun xs => by
  induction xs with
  | nil =>
    intro us h _
    rw [List.length_eq_zero_iff.mp h]
    exact .nil
  | cons x xs ih =>
    intro us h hj
    cases us with
    | nil => cases h
    | cons u us =>
      refine .cons ?_ (ih us (Nat.succ.inj h) fun j w hw => hj (j + 1) w hw)
      obtain ⟨y, e, r⟩ := hj 0 u rfl
      cases e
      exact r
theorem call_listS (hc : X.calm = true) : CallR X (.type "list") (fun xs H Q => ∃ z : Str, xs = [.str z] ∧ z.length ≤ sizeLine ∧ ∀ q, H q = none → Q (.ref q) (upd H q (.lst (z.cps.toList.map fun c => V.str ⟨#[c]⟩)))) := by
  intro pins s σ H xs us Q I r h
  obtain ⟨z, rfl, hz, q⟩ := h
  obtain ⟨u, rfl, t, rfl⟩ := vals1 r
  refine PySem.call_list_str (I.ok.hd hc) z t (fun h' tk acc c' hk e hi => ?_) hz
  refine ⟨.ref s.heap.objs.size, upd H s.heap.objs.size (.lst (z.cps.toList.map fun c => V.str ⟨#[c]⟩)), I.laid hk (Nat.le_refl _) ⟨by rw [List.length_map, Array.length_toList]; exact hz, acc.toList, c', ?_, by rw [Array.toArray_toList]; exact e⟩, rfl, q _ (I.hok.fresh (Nat.le_refl _))⟩
  refine vals_by_place _ _ (by rw [List.length_map, Array.length_toList, Array.length_toList]; exact hi.1) fun j u hj => ?_
  obtain ⟨c, t', hc, rfl⟩ := hi.2 j u (by rw [← Array.getElem?_toList]; exact hj)
  exact ⟨.str ⟨#[c]⟩, by simp [hc], ⟨_, rfl⟩⟩
theorem ofKs : ∀ ks : List Key, RepFs K H S (ks.map ofK) (ks.map kV)
  | [] => rfl
  | k :: ks => ⟨kV k, ks.map kV, rfl, by cases k <;> rfl, ofKs ks⟩
theorem keysF : ∀ {kvs : List (List Key × PV)} {ks : List (List Key × V)} {bs : List Addr}, RepKs K H S kvs ks → IsKeys H ks bs → RepFs K H S (kvs.map fun q => .tup (q.1.map ofK)) (bs.map V.ref)
  | [], _, _, h, hk => by cases h; cases hk; rfl
  | (k, p) :: kvs, _, _, h, hk => by
    obtain ⟨v, ws, rfl, h1, h2⟩ := h
    cases hk with
    | cons q t =>
      rename_i b bs
      refine ⟨.ref b, bs.map V.ref, rfl, ⟨b, _, rfl, q, ?_⟩, keysF h2 t⟩
      rw [h1.1]
      exact ofKs k
theorem call_listE (hc : X.calm = true) : CallR X (.type "list") (rBl X.K (bltP .list)) := by
  intro pins s σ H xs us Q I r h
  obtain ⟨S, ps, p, hr, e, k⟩ := h
  match ps, e, hr with
  | [.lst fl xs], e, hr =>
    obtain ⟨v, f, rfl, hp⟩ := hr.one
    obtain ⟨e1, rfl⟩ := some_if e
    obtain ⟨a, vs, rfl, ha, rs⟩ := hp.flat e1
    exact call_list_of pins s σ H _ us Q I r ⟨a, vs, rfl, .inl (.inl (.inl ha)), fun l hl => k _ _ _ (M.newL hl rs)⟩
  | [.tup xs], e, hr =>
    obtain ⟨v, f, rfl, hp⟩ := hr.one
    cases e
    obtain ⟨a, vs, rfl, ha, rs⟩ := hp.tup
    exact call_list_of pins s σ H _ us Q I r ⟨a, vs, rfl, .inr (SqT.of ha), fun l hl => k _ _ _ (M.newL hl rs)⟩
  | [.dic fl .t kvs], e, hr =>
    obtain ⟨v, f, rfl, hp⟩ := hr.one
    cases e
    obtain ⟨a, ks, rfl, ha, rs⟩ := hp.dic
    refine call_list_dT hc pins s σ H _ us Q I r ⟨a, ks, rfl, ha, fun p bs hp hk => k _ _ _ (M.newL hp (keysF rs hk))⟩
  | [.str z], e, hr =>
    obtain ⟨v, f, rfl, hp⟩ := hr.one
    obtain ⟨e1, rfl⟩ := some_if e
    cases hp
    have rs : ∀ l : List Nat, RepFs X.K H S (l.map fun c => .str ⟨#[c]⟩) (l.map fun c => V.str ⟨#[c]⟩) := fun l => by
      induction l with
      | nil => exact rfl
      | cons c l ih => exact ⟨_, _, rfl, rfl, ih⟩
    exact call_listS hc pins s σ H _ us Q I r ⟨z, rfl, of_decide_eq_true e1, fun l hl => k _ _ _ (M.newL hl (rs _))⟩
theorem call_intE : CallR X (.type "int") (rBl X.K (bltP .int)) := by
  intro pins s σ H xs us Q I r h
  obtain ⟨S, ps, p, hr, e, k⟩ := h
  match ps, e, hr with
  | [.int i], e, hr =>
    obtain ⟨v, f, rfl, hp⟩ := hr.one
    cases e; cases hp
    exact call_int1 pins s σ H _ us Q I r (.inl ⟨i, rfl, k _ _ _ (New.int _)⟩)
  | [.bl b], e, hr =>
    obtain ⟨v, f, rfl, hp⟩ := hr.one
    cases e; cases hp
    exact call_int1 pins s σ H _ us Q I r (.inr ⟨b, rfl, k _ _ _ (New.int _)⟩)
end
end EL

set_option maxRecDepth 100000
/-! EL8: readings made of the evaluator; calls -/
namespace EL
open PySem PySem.Spec L2
section
variable {K : PySem.W.Frag} {H H' H1 H2 : Hp} {S S' S1 S2 F F' F1 F2 f f' g G : AS} {env env' e1 e2 : Env} {σ : St} {p q : PV} {v w : V}
/-! ### readings -/
def rdE (K : PySem.W.Frag) (c : CE) : TE := fun σ H Q => ∃ env S F p env', M K env σ H S F ∧ ev c env = .ok (p, env') ∧ ∀ v H' S' F' f, Post K H S F env' σ H' S' F' p v f → Q v H'
def rdA (K : PySem.W.Frag) (c : CE) : TE := fun σ H Q => ∃ env S F a env', M K env σ H S F ∧ asA c (ev c env) env = .ok (a, env') ∧ ∀ v H' S' F' f, PostA K H S F env' σ H' S' F' a v f → Q v H'
def rdAs (K : PySem.W.Frag) (c : CEs) : TA := fun σ H Q => ∃ env S F as env', M K env σ H S F ∧ evAs c env = .ok (as, env') ∧ ∀ vs H' S' F' f, PostAs K H S F env' σ H' S' F' as vs f → Q vs H'
def rdEs (K : PySem.W.Frag) (c : CEs) : TA := fun σ H Q => ∃ env S F ps env', M K env σ H S F ∧ evs c env = .ok (ps, env') ∧ ∀ vs H' S' F' f, PostAs K H S F env' σ H' S' F' (ps.map .val) vs f → Q vs H'
def rdT (K : PySem.W.Frag) (c : CE) : TT := fun σ H Q => ∃ env S F b env', M K env σ H S F ∧ ev c env = .ok (.bl b, env') ∧ ∀ H' S' F', M K env' σ H' S' F' → Step H S F H' S' F' → Q b H'
theorem _root_.L2.PE.imp {X : Cx} {e : Expr} {t t' : TE} (h : PE X e t) (k : ∀ σ H Q, t' σ H Q → t σ H Q) : PE X e t' := ⟨fun pins s σ H Q I q => h.run pins s σ H Q I (k σ H Q q)⟩
theorem _root_.L2.PT.imp {X : Cx} {e : Expr} {t t' : TT} (h : PT X e t) (k : ∀ σ H Q, t' σ H Q → t σ H Q) : PT X e t' := ⟨fun pins s σ H Q I q => h.run pins s σ H Q I (k σ H Q q)⟩
theorem _root_.L2.PW.imp {X : Cx} {e : Expr} {t t' : TT} (h : PW X e t) (k : ∀ σ H Q, t' σ H Q → t σ H Q) : PW X e t' := ⟨fun w pins s σ H Q I q => h.run w pins s σ H Q I (k σ H Q q)⟩
theorem _root_.L2.PA.imp {X : Cx} {e : List Expr} {t t' : TA} (h : PA X e t) (k : ∀ σ H Q, t' σ H Q → t σ H Q) : PA X e t' := ⟨fun pos pins s σ H Q I q => h.run pos pins s σ H Q I (k σ H Q q)⟩
theorem _root_.L2.PS.imp {X : Cx} {e : Stmt} {t t' : TS} (h : PS X e t) (k : ∀ D σ H, t' D σ H → t D σ H) : PS X e t' := ⟨fun pins s σ H Q I q => h.run pins s σ H Q I (k Q σ H q)⟩
theorem _root_.L2.PSs.imp {X : Cx} {e : List Stmt} {t t' : TS} (h : PSs X e t) (k : ∀ D σ H, t' D σ H → t D σ H) : PSs X e t' := ⟨fun pins s σ H Q I q => h.run pins s σ H Q I (k Q σ H q)⟩
/-- an operand that is no plain name -/
theorem rdA_of {c : CE} (hc : ∀ i, c ≠ .var i) {X : Cx} {e : Expr} (h : PE X e (rdE K c)) : PE X e (rdA K c) := h.imp fun σ H Q ⟨env, S, F, a, env', m, he, k⟩ => by
  have he : (ev c env).bind (fun p => .ok (.val p.1, p.2)) = .ok (a, env') := by
    unfold asA at he
    split at he
    · exact absurd rfl (hc _)
    · exact he
  obtain ⟨p, hp, e⟩ := R.bind_eq_ok he
  injection e with e
  injection e with e1 e2
  subst e1; subst e2
  exact ⟨env, S, F, p.1, p.2, m, hp, fun v H' S' F' f h => k v H' S' F' f h.toA⟩
theorem rdA_var {i : Nat} {X : Cx} {e : Expr} (h : PE X e (tVar i)) : PE X e (rdA K (.var i)) := h.imp fun σ H Q ⟨env, S, F, a, env', m, he, k⟩ => by
  unfold asA at he
  simp only at he
  cases hs : slot env i with
  | none => rw [hs] at he; cases he
  | some q =>
    rw [hs] at he
    injection he with he
    injection he with e1 e2
    subst e1; subst e2
    obtain ⟨v, F1, F2, hv, _⟩ := m.en.take hs
    exact ⟨v, hv, k v H S F Emp ⟨m, hv, emp_dis, emp_dis, fun a h => h.elim, Step.refl.weak uni_emp⟩⟩
theorem rdE_var {i : Nat} {X : Cx} {e : Expr} (h : PE X e (tVar i)) : PE X e (rdE K (.var i)) := h.imp fun σ H Q ⟨env, S, F, p, env', m, he, k⟩ => by
  obtain ⟨v, S', F', hv, po⟩ := m.rd he
  exact ⟨v, hv, k v H S' F' Emp po⟩
theorem rdE_mv {i : Nat} {X : Cx} {e : Expr} (h : PE X e (tVar i)) : PE X e (rdE K (.mv i)) := h.imp fun σ H Q ⟨env, S, F, p, env', m, he, k⟩ => by
  obtain ⟨v, F', f, hv, po⟩ := m.mv he
  exact ⟨v, hv, k v H S F' f po⟩
theorem rdE_const {c : CE} {v : V} (hc : ∀ env, ev c env = .ok (p, env)) (hr : ∀ H S, RepF K H S p v) (ho : isOwn p = false) {X : Cx} {e : Expr} (h : PE X e (tC v)) : PE X e (rdE K c) := h.imp fun σ H Q ⟨env, S, F, q, env', m, he, k⟩ => by
  rw [hc] at he
  injection he with he
  injection he with e1 e2
  subst e1; subst e2
  exact k v H S F Emp ((New.sc (hr H S) ho).post m)
/-- a value that must be a bool -/
theorem RepO.bl {b : Bool} (h : RepO K H S (.bl b) v f) : v = .bl b := h
theorem RepO.int {b : Int} (h : RepO K H S (.int b) v f) : v = .int b := h
theorem Post.weak (h : Post K H S F env σ H' S' F' p v f) : Step H S F H' S' F' := h.st.weak fun a x => .inl x
theorem rdT_val {c : CE} {X : Cx} {e : Expr} (h : PT X e (tB (rdE K c))) : PT X e (rdT K c) := h.imp fun σ H Q ⟨env, S, F, b, env', m, he, k⟩ =>
  ⟨env, S, F, .bl b, env', m, he, fun v H' S' F' f h => ⟨b, h.r.bl, k H' S' F' h.m h.weak⟩⟩
theorem rdT_test {c : CE} {X : Cx} {e : Expr} (h : PT X e (tTest (rdE K c))) : PT X e (rdT K c) := rdT_val h

/-! ### two operands -/
theorem PostA.two {a b : Arg} (h1 : PostA K H S F e1 σ H1 S1 F1 a v f) (h2 : PostA K H1 S1 F1 e2 σ H2 S2 F2 b w g) :
    M K e2 σ H2 S2 F2 ∧ RepA K H2 S2 σ a v f ∧ RepA K H2 S2 σ b w g ∧ Step H S F H2 S2 F2 := by
  have k := h1.m.keptW_of h2.st h1.fd
  exact ⟨h2.m, h1.r.keptW k, h2.r, ((h1.st.weak fun a x => .inl x).trans h2.st h1.m.dj).weak fun a x => .inl x⟩
theorem two_ok {α : Type} {ra : R (Arg × Env)} {fb : Env → R (Arg × Env)} {op : PV → PV → Option α} {gg : α → Env → R (PV × Env)} {r : PV × Env}
    (h : (ra.bind fun p => (fb p.2).bind fun q => match getA q.2 p.1, getA q.2 q.1 with
      | some x, some y => (R.of (op x y)).bind fun z => gg z q.2
      | _, _ => .stuck) = .ok r) : ∃ a e1 b e2 x y z, ra = .ok (a, e1) ∧ fb e1 = .ok (b, e2) ∧ getA e2 a = some x ∧ getA e2 b = some y ∧ op x y = some z ∧ gg z e2 = .ok r := by
  obtain ⟨⟨a, e1⟩, h1, h⟩ := R.bind_eq_ok h
  obtain ⟨⟨b, e2⟩, h2, h⟩ := R.bind_eq_ok h
  simp only at h h2
  cases hx : getA e2 a with
  | none => rw [hx] at h; cases h
  | some x =>
    cases hy : getA e2 b with
    | none => rw [hx, hy] at h; cases h
    | some y =>
      rw [hx, hy] at h
      obtain ⟨z, h3, h⟩ := R.bind_eq_ok h
      exact ⟨a, e1, b, e2, x, y, z, h1, h2, hx, hy, R.of_eq_ok h3, h⟩
theorem rd_bin {op : Bin} {a b : CE} {σ : St} {H : Hp} {Q : VK} (h : rdE K (.bin op a b) σ H Q) : tOp (rB K (binP op)) (rdA K a) (rdA K b) σ H Q := by
  obtain ⟨env, S, F, p, env', m, he, k⟩ := h
  unfold ev at he
  obtain ⟨a1, e1, a2, e2, x, y, z, h1, h2, hx, hy, hz, hr⟩ := two_ok (fb := fun e => asA b (ev b e) e) (op := binP op) (gg := fun z e => R.ok (z, e)) he
  injection hr with hr
  injection hr with q1 q2
  subst q1; subst q2
  refine ⟨env, S, F, a1, e1, m, h1, fun v1 H1 S1 F1 f1 p1 => ⟨e1, S1, F1, a2, e2, p1.m, h2, fun v2 H2 S2 F2 f2 p2 => ?_⟩⟩
  obtain ⟨m2, r1, r2, st⟩ := p1.two p2
  obtain ⟨f1', r1'⟩ := RepO.repA m2 r1 hx
  obtain ⟨f2', r2'⟩ := RepO.repA m2 r2 hy
  exact ⟨S2, x, y, z, f1', f2', r1', r2', hz, fun v H' f' n => k v H' S2 F2 f' ((n.post m2).after st m2.dj)⟩
theorem rd_cmp {op : Cmp} {a b : CE} {σ : St} {H : Hp} {Q : VK} (h : rdE K (.cmp op a b) σ H Q) : tOp (rC K (cmpP op)) (rdA K a) (rdA K b) σ H Q := by
  obtain ⟨env, S, F, p, env', m, he, k⟩ := h
  unfold ev at he
  obtain ⟨a1, e1, a2, e2, x, y, z, h1, h2, hx, hy, hz, hr⟩ := two_ok (fb := fun e => asA b (ev b e) e) (op := cmpP op) (gg := fun z e => R.ok (.bl z, e)) he
  injection hr with hr
  injection hr with q1 q2
  subst q1; subst q2
  refine ⟨env, S, F, a1, e1, m, h1, fun v1 H1 S1 F1 f1 p1 => ⟨e1, S1, F1, a2, e2, p1.m, h2, fun v2 H2 S2 F2 f2 p2 => ?_⟩⟩
  obtain ⟨m2, r1, r2, st⟩ := p1.two p2
  obtain ⟨f1', r1'⟩ := RepO.repA m2 r1 hx
  obtain ⟨f2', r2'⟩ := RepO.repA m2 r2 hy
  exact ⟨S2, x, y, z, f1', f2', r1', r2', hz, k _ H2 S2 F2 Emp (((New.bl z).post m2).after st m2.dj)⟩
/-- the same, as a test -/
theorem rdT_cmp {op : Cmp} {a b : CE} {σ : St} {H : Hp} {Q : Bool → Hp → Prop} (h : rdT K (.cmp op a b) σ H Q) : tTest (tOp (rC K (cmpP op)) (rdA K a) (rdA K b)) σ H Q := by
  obtain ⟨env, S, F, b, env', m, he, k⟩ := h
  exact rd_cmp ⟨env, S, F, .bl b, env', m, he, fun v H' S' F' f h => ⟨b, h.r.bl, k H' S' F' h.m h.weak⟩⟩
theorem rC_in {op : Cmp} {neg : Bool} (hop : op = if neg then .notIn else .in_) : cmpP op = fun p q => (inP p q).map fun b => if neg then !b else b := by
  subst hop
  funext p q
  cases neg with
  | true => rfl
  | false =>
    show inP p q = (inP p q).map fun b => b
    cases inP p q <;> rfl

/-! ### one operand -/
theorem one_ok {α : Type} {ra : R (PV × Env)} {gg : PV → Env → R α} {r : α} (h : (ra.bind fun p => gg p.1 p.2) = .ok r) : ∃ x e1, ra = .ok (x, e1) ∧ gg x e1 = .ok r := by
  obtain ⟨⟨x, e1⟩, h1, h⟩ := R.bind_eq_ok h
  exact ⟨x, e1, h1, h⟩
theorem rd_neg {a : CE} {σ : St} {H : Hp} {Q : VK} (h : rdE K (.neg a) σ H Q) : tUn (rU fun i => .int (-i)) (rdE K a) σ H Q := by
  obtain ⟨env, S, F, p, env', m, he, k⟩ := h
  unfold ev at he
  obtain ⟨⟨x, e1⟩, h1, hr⟩ := R.bind_eq_ok he
  refine ⟨env, S, F, x, e1, m, h1, fun v1 H1 S1 F1 f1 p1 => ?_⟩
  match x, hr, p1 with
  | .int i, hr, p1 =>
    injection hr with hr
    injection hr with q1 q2
    subst q1; subst q2
    exact ⟨i, p1.r.int, k _ H1 S1 F1 Emp (((New.int _).post p1.m).after p1.weak p1.m.dj)⟩
/-! ### and, or, not, if -/
theorem bl_ok {ra : R (PV × Env)} {α : Type} {t e : Env → R α} {r : α} (h : (ra.bind fun p => match p.1 with
      | .bl true => t p.2
      | .bl false => e p.2
      | _ => .stuck) = .ok r) : ∃ b e1, ra = .ok (.bl b, e1) ∧ (if b = true then t e1 else e e1) = .ok r := by
  obtain ⟨⟨x, e1⟩, h1, h⟩ := R.bind_eq_ok h
  match x, h1, h with
  | .bl true, h1, h => exact ⟨true, e1, h1, h⟩
  | .bl false, h1, h => exact ⟨false, e1, h1, h⟩
theorem rd_and {a b : CE} {σ : St} {H : Hp} {Q : VK} (h : rdE K (.and a b) σ H Q) : tAndV (rdE K a) (rdE K b) σ H Q := by
  obtain ⟨env, S, F, p, env', m, he, k⟩ := h
  unfold ev at he
  obtain ⟨c, e1, h1, hr⟩ := bl_ok (t := fun e => ev b e) (e := fun e => R.ok (.bl false, e)) he
  refine ⟨env, S, F, _, e1, m, h1, fun v1 H1 S1 F1 f1 p1 => ⟨c, p1.r.bl, ?_⟩⟩
  cases c with
  | true =>
    rw [if_pos rfl] at hr ⊢
    exact ⟨e1, S1, F1, p, env', p1.m, hr, fun v2 H2 S2 F2 f2 p2 => k v2 H2 S2 F2 f2 (p2.after p1.weak p1.m.dj)⟩
  | false =>
    rw [if_neg (by simp)] at hr ⊢
    injection hr with hr
    injection hr with q1 q2
    subst q1; subst q2
    exact k _ H1 S1 F1 Emp (((New.bl _).post p1.m).after p1.weak p1.m.dj)
theorem rd_or {a b : CE} {σ : St} {H : Hp} {Q : VK} (h : rdE K (.or a b) σ H Q) : tOrV (rdE K a) (rdE K b) σ H Q := by
  obtain ⟨env, S, F, p, env', m, he, k⟩ := h
  unfold ev at he
  obtain ⟨c, e1, h1, hr⟩ := bl_ok (t := fun e => R.ok (.bl true, e)) (e := fun e => ev b e) he
  refine ⟨env, S, F, _, e1, m, h1, fun v1 H1 S1 F1 f1 p1 => ⟨c, p1.r.bl, ?_⟩⟩
  cases c with
  | false =>
    rw [if_neg (by simp)] at hr ⊢
    exact ⟨e1, S1, F1, p, env', p1.m, hr, fun v2 H2 S2 F2 f2 p2 => k v2 H2 S2 F2 f2 (p2.after p1.weak p1.m.dj)⟩
  | true =>
    rw [if_pos rfl] at hr ⊢
    injection hr with hr
    injection hr with q1 q2
    subst q1; subst q2
    exact k _ H1 S1 F1 Emp (((New.bl _).post p1.m).after p1.weak p1.m.dj)
theorem rd_not {a : CE} {σ : St} {H : Hp} {Q : VK} (h : rdE K (.not a) σ H Q) : tNotV (rdE K a) σ H Q := by
  obtain ⟨env, S, F, p, env', m, he, k⟩ := h
  unfold ev at he
  obtain ⟨⟨x, e1⟩, h1, hr⟩ := R.bind_eq_ok he
  refine ⟨env, S, F, x, e1, m, h1, fun v1 H1 S1 F1 f1 p1 => ?_⟩
  match x, hr, p1 with
  | .bl i, hr, p1 =>
    injection hr with hr
    injection hr with q1 q2
    subst q1; subst q2
    exact ⟨i, p1.r.bl, k _ H1 S1 F1 Emp (((New.bl _).post p1.m).after p1.weak p1.m.dj)⟩
theorem rdT_and {a b : CE} {σ : St} {H : Hp} {Q : Bool → Hp → Prop} (h : rdT K (.and a b) σ H Q) : tAnd (rdT K a) (rdT K b) σ H Q := by
  obtain ⟨env, S, F, p, env', m, he, k⟩ := h
  unfold ev at he
  obtain ⟨c, e1, h1, hr⟩ := bl_ok (t := fun e => ev b e) (e := fun e => R.ok (.bl false, e)) he
  refine ⟨env, S, F, _, e1, m, h1, fun H1 S1 F1 m1 s1 => ?_⟩
  cases c with
  | true =>
    rw [if_pos rfl] at hr ⊢
    exact ⟨e1, S1, F1, p, env', m1, hr, fun H2 S2 F2 m2 s2 => k H2 S2 F2 m2 (s1.trans s2 m1.dj)⟩
  | false =>
    rw [if_neg (by simp)] at hr ⊢
    injection hr with hr
    injection hr with q1 q2
    injection q1 with q1
    subst q1; subst q2
    exact k H1 S1 F1 m1 s1
theorem rdT_or {a b : CE} {σ : St} {H : Hp} {Q : Bool → Hp → Prop} (h : rdT K (.or a b) σ H Q) : tOr (rdT K a) (rdT K b) σ H Q := by
  obtain ⟨env, S, F, p, env', m, he, k⟩ := h
  unfold ev at he
  obtain ⟨c, e1, h1, hr⟩ := bl_ok (t := fun e => R.ok (.bl true, e)) (e := fun e => ev b e) he
  refine ⟨env, S, F, _, e1, m, h1, fun H1 S1 F1 m1 s1 => ?_⟩
  cases c with
  | false =>
    rw [if_neg (by simp)] at hr ⊢
    exact ⟨e1, S1, F1, p, env', m1, hr, fun H2 S2 F2 m2 s2 => k H2 S2 F2 m2 (s1.trans s2 m1.dj)⟩
  | true =>
    rw [if_pos rfl] at hr ⊢
    injection hr with hr
    injection hr with q1 q2
    injection q1 with q1
    subst q1; subst q2
    exact k H1 S1 F1 m1 s1
theorem rdT_not {a : CE} {σ : St} {H : Hp} {Q : Bool → Hp → Prop} (h : rdT K (.not a) σ H Q) : tNot (rdT K a) σ H Q := by
  obtain ⟨env, S, F, p, env', m, he, k⟩ := h
  unfold ev at he
  obtain ⟨⟨x, e1⟩, h1, hr⟩ := R.bind_eq_ok he
  match x, hr, h1 with
  | .bl i, hr, h1 =>
    injection hr with hr
    injection hr with q1 q2
    injection q1 with q1
    subst q1; subst q2
    exact ⟨env, S, F, i, _, m, h1, fun H1 S1 F1 m1 s1 => k H1 S1 F1 m1 s1⟩
theorem rd_ite {c a b : CE} {σ : St} {H : Hp} {Q : VK} (h : rdE K (.ite c a b) σ H Q) : tIf (rdT K c) (rdE K a) (rdE K b) σ H Q := by
  obtain ⟨env, S, F, p, env', m, he, k⟩ := h
  unfold ev at he
  obtain ⟨c, e1, h1, hr⟩ := bl_ok (t := fun e => ev a e) (e := fun e => ev b e) he
  refine ⟨env, S, F, _, e1, m, h1, fun H1 S1 F1 m1 s1 => ?_⟩
  cases c with
  | false =>
    rw [if_neg (by simp)] at hr ⊢
    exact ⟨e1, S1, F1, p, env', m1, hr, fun v2 H2 S2 F2 f2 p2 => k v2 H2 S2 F2 f2 (p2.after s1 m1.dj)⟩
  | true =>
    rw [if_pos rfl] at hr ⊢
    exact ⟨e1, S1, F1, p, env', m1, hr, fun v2 H2 S2 F2 f2 p2 => k v2 H2 S2 F2 f2 (p2.after s1 m1.dj)⟩
/-! ### argument lists -/
theorem rd_as_nil {σ : St} {H : Hp} {Q : List V → Hp → Prop} (h : rdAs K .nil σ H Q) : tNil σ H Q := by
  obtain ⟨env, S, F, as, env', m, he, k⟩ := h
  unfold evAs at he
  injection he with he
  injection he with q1 q2
  subst q1; subst q2
  exact k [] H S F Emp (PostA.as_nil m)
theorem rd_as_cons {c : CE} {r : CEs} {σ : St} {H : Hp} {Q : List V → Hp → Prop} (h : rdAs K (.cons c r) σ H Q) : tCons (rdA K c) (rdAs K r) σ H Q := by
  obtain ⟨env, S, F, as, env', m, he, k⟩ := h
  unfold evAs at he
  obtain ⟨⟨a, e1⟩, h1, he⟩ := R.bind_eq_ok he
  obtain ⟨⟨as', e2⟩, h2, he⟩ := R.bind_eq_ok he
  injection he with he
  injection he with q1 q2
  subst q1; subst q2
  exact ⟨env, S, F, a, e1, m, h1, fun v1 H1 S1 F1 f1 p1 => ⟨e1, S1, F1, as', e2, p1.m, h2, fun vs H2 S2 F2 f2 p2 => k _ H2 S2 F2 _ (p1.cons p2)⟩⟩
theorem rd_es_nil {σ : St} {H : Hp} {Q : List V → Hp → Prop} (h : rdEs K .nil σ H Q) : tNil σ H Q := by
  obtain ⟨env, S, F, as, env', m, he, k⟩ := h
  unfold evs at he
  injection he with he
  injection he with q1 q2
  subst q1; subst q2
  exact k [] H S F Emp (PostA.as_nil m)
theorem rd_es_cons {c : CE} {r : CEs} {σ : St} {H : Hp} {Q : List V → Hp → Prop} (h : rdEs K (.cons c r) σ H Q) : tCons (rdE K c) (rdEs K r) σ H Q := by
  obtain ⟨env, S, F, as, env', m, he, k⟩ := h
  unfold evs at he
  obtain ⟨⟨a, e1⟩, h1, he⟩ := R.bind_eq_ok he
  obtain ⟨⟨as', e2⟩, h2, he⟩ := R.bind_eq_ok he
  injection he with he
  injection he with q1 q2
  subst q1; subst q2
  exact ⟨env, S, F, a, e1, m, h1, fun v1 H1 S1 F1 f1 p1 => ⟨e1, S1, F1, as', e2, p1.m, h2, fun vs H2 S2 F2 f2 p2 => k _ H2 S2 F2 _ (p1.toA.cons p2)⟩⟩
end
end EL

set_option maxRecDepth 100000
/-! EL9: displays, subscripts, slices, built-in functions, calls -/
namespace EL
open PySem PySem.Spec L2
section
variable {K : PySem.W.Frag} {H H' H1 H2 : Hp} {S S' S1 S2 F F' F1 F2 f f' g G : AS} {env env' e1 e2 : Env} {σ : St} {p q : PV} {v w : V}
/-! ### what is handed over is frozen -/
theorem RepAs.frzs : ∀ {ps : List PV} {vs : List V} {f : AS}, RepAs K H S σ (ps.map .val) vs f → Sub S S' → Sub f S' → RepFs K H S' (ps.map frz) vs
  | [], _, _, h, _, _ => h
  | p :: ps, _, _, h, s1, s2 => by
    obtain ⟨v, ws, F1, F2, e, u1, u2, dj, r, h2⟩ := h
    exact ⟨v, ws, e, RepO.freeze r s1 (u1.trans s2), RepAs.frzs h2 s1 (u2.trans s2)⟩
theorem RepAs.len : ∀ {as : List Arg} {vs : List V} {f : AS}, RepAs K H S σ as vs f → as.length = vs.length
  | [], _, _, h => by cases h; rfl
  | p :: ps, _, _, h => by
    obtain ⟨v, ws, F1, F2, rfl, u1, u2, dj, r, h2⟩ := h
    simp [RepAs.len h2]
theorem Mu.ne {a : Addr} (h : Mu H a) : H a ≠ none := by
  obtain ⟨o, e⟩ := h.ex
  rw [e]; simp
/-- f is made stable -/
theorem M.absorb (m : M K env σ H S F) (d : Dis f F) (mu : ∀ a, f a → Mu H a) : M K env σ H (Uni S f) F :=
  ⟨m.en.keptW (.sub_only fun a h => .inl h), Dis.uniL m.dj d, m.mu, fun a x => x.elim (m.st a) fun x => (mu a x).ne⟩
theorem Step.absorb (s : Step H S F H' S' (Uni F' f)) : Step H S F H' (Uni S' f) F' :=
  ⟨fun a h => .inl (s.sub a h), fun a h => s.new a (h.elim (fun h => h.elim .inl fun h => .inr (.inr h)) fun h => .inr (.inl h)), s.fr⟩
theorem PostAs.frozen {ps : List PV} {vs : List V} (h : PostAs K H S F env σ H1 S1 F1 (ps.map .val) vs f) :
    M K env σ H1 (Uni S1 f) F1 ∧ RepFs K H1 (Uni S1 f) (ps.map frz) vs ∧ Step H S F H1 (Uni S1 f) F1 ∧ ps.length = vs.length :=
  ⟨h.m.absorb h.fd h.fm, h.r.frzs (fun a x => .inl x) (fun a x => .inr x), h.st.absorb, by have := h.r.len; simpa using this⟩
theorem if_ok {α : Type} {b : Bool} {x : R α} {y : α} (h : (if b = true then x else .stuck) = .ok y) : b = true ∧ x = .ok y := by
  cases b with
  | true => exact ⟨rfl, h⟩
  | false => cases h
theorem rd_tup {es : CEs} {σ : St} {H : Hp} {Q : VK} (h : rdE K (.tup es) σ H Q) : tTup (rdEs K es) σ H Q := by
  obtain ⟨env, S, F, p, env', m, he, k⟩ := h
  unfold ev at he
  obtain ⟨⟨ps, e1⟩, h1, hr⟩ := R.bind_eq_ok he
  obtain ⟨hl, hr⟩ := if_ok hr
  injection hr with hr
  injection hr with q1 q2
  subst q1; subst q2
  refine ⟨env, S, F, ps, e1, m, h1, fun vs H1 S1 F1 f1 p1 => ?_⟩
  obtain ⟨m1, r1, st, hlen⟩ := p1.frozen
  exact ⟨by rw [← hlen]; exact of_decide_eq_true hl, fun a ha => k _ _ _ _ _ (((M.newT ha r1).post m1).after st m1.dj)⟩
/-- what a deep list takes -/
theorem RepAs.deep (hn : RepAs K H S σ (List.map Arg.val ps) vs f) : True := trivial
theorem isOwn_frz1 {p : PV} (h : ∀ xs, p ≠ .lst .own xs) : isOwn (frz1 p) = false := by
  unfold frz1
  split
  · rename_i xs; exact absurd rfl (h xs)
  · exact isOwn_frz _
theorem Rep1.of (h : RepO K H S p v f) : ∃ f', Sub f' f ∧ Rep1 K H (fun a => S a ∨ (f a ∧ ¬ f' a)) (frz1 p) v f' := by
  by_cases hp : ∃ xs, p = .lst .own xs
  · obtain ⟨xs, rfl⟩ := hp
    obtain ⟨a, vs, e, h1, h2, h3⟩ := h
    exact ⟨f, Sub.refl, a, vs, e, h1, h2, RepFs.kept (.sub_only fun a x => .inl x) _ h3⟩
  · have hp : ∀ xs, p ≠ .lst .own xs := fun xs e => hp ⟨xs, e⟩
    have r := RepO.freeze (S' := fun a => S a ∨ (f a ∧ ¬ Emp a)) h (fun a x => .inl x) (fun a x => .inr ⟨x, id⟩)
    refine ⟨Emp, fun a x => x.elim, ?_⟩
    have e : frz1 p = frz p := by
      unfold frz1
      split
      · exact absurd rfl (hp _)
      · rfl
    rw [e]
    unfold Rep1
    split
    · rename_i xs hx
      have := isOwn_frz p
      rw [hx] at this
      cases this
    · exact ⟨isOwn_frz p, r⟩
theorem Rep1.keptS {S' : AS} (h : Rep1 K H S p v f) (s : Sub S S') : Rep1 K H S' p v f := h.keptW (.sub_only s)
theorem Rep1s.of : ∀ {ps : List PV} {vs : List V} {f : AS}, RepAs K H S σ (ps.map .val) vs f → ∃ f', Sub f' f ∧ Rep1s K H (fun a => S a ∨ (f a ∧ ¬ f' a)) (ps.map frz1) vs f'
  | [], _, f, h => ⟨Emp, fun a x => x.elim, h⟩
  | p :: ps, _, f, h => by
    obtain ⟨v, ws, F1, F2, e, u1, u2, dj, r, h2⟩ := h
    obtain ⟨f1, a1, r1⟩ := Rep1.of r
    obtain ⟨f2, a2, r2⟩ := Rep1s.of h2
    refine ⟨Uni f1 f2, fun a x => x.elim (fun x => u1 a (a1 a x)) (fun x => u2 a (a2 a x)), v, ws, f1, f2, e, fun a x => .inl x, fun a x => .inr x, dj.mono a1 a2, ?_, ?_⟩
    · refine r1.keptS fun a x => x.elim .inl fun x => .inr ⟨u1 a x.1, fun y => y.elim x.2 fun y => dj a x.1 (a2 a y)⟩
    · exact r2.keptW (.sub_only fun a x => x.elim .inl fun x => .inr ⟨u2 a x.1, fun y => y.elim (fun y => dj a (a1 a y) x.1) x.2⟩)
theorem newD {a : Addr} {vs : List V} {xs : List PV} (hn : H a = none) (r : Rep1s K H S xs vs f) (m : ∀ a, f a → Mu H a) : RepO K (upd H a (.lst vs)) S (.lst .deep xs) (.ref a) (Uni (One a) f) := by
  have hk : KeptW f H S (upd H a (.lst vs)) S := ⟨Kept.new hn fun _ h => h, fun b o _ e => by rw [upd_ne (ne_of_none e hn)]; exact e⟩
  refine ⟨a, vs, f, rfl, upd_same, .inl rfl, fun a x => .inr x, fun x => ?_, r.keptW hk⟩
  exact (m a x).ne hn
theorem rd_lst {dp : Bool} {es : CEs} {σ : St} {H : Hp} {Q : VK} (h : rdE K (.lst dp es) σ H Q) : tLst (rdEs K es) σ H Q := by
  obtain ⟨env, S, F, p, env', m, he, k⟩ := h
  unfold ev at he
  obtain ⟨⟨ps, e1⟩, h1, hr⟩ := R.bind_eq_ok he
  obtain ⟨hl, hr⟩ := if_ok hr
  injection hr with hr
  injection hr with q1 q2
  subst q1; subst q2
  refine ⟨env, S, F, ps, e1, m, h1, fun vs H1 S1 F1 f1 p1 => ?_⟩
  have hlen : ps.length = vs.length := by have := p1.r.len; simpa using this
  refine ⟨by rw [← hlen]; exact of_decide_eq_true hl, fun a ha => ?_⟩
  cases dp with
  | false =>
    obtain ⟨m1, r1, st, _⟩ := p1.frozen
    exact k _ _ _ _ _ (((M.newL ha r1).post m1).after st m1.dj)
  | true =>
    obtain ⟨f2, a2, r2⟩ := Rep1s.of p1.r
    -- the part of f1 that is frozen
    have m1 : M K e1 σ H1 (fun a => S1 a ∨ (f1 a ∧ ¬ f2 a)) F1 := by
      have := p1.m.absorb (f := fun a => f1 a ∧ ¬ f2 a) (p1.fd.mono (fun a x => x.1) Sub.refl) (fun a x => p1.fm a x.1)
      exact this
    have st1 : Step H S F H1 (fun a => S1 a ∨ (f1 a ∧ ¬ f2 a)) (Uni F1 f2) := ⟨fun a x => .inl (p1.st.sub a x), fun a x => p1.st.new a (by
      rcases x with (x | x) | x | x
      · exact .inl x
      · exact .inr (.inr x.1)
      · exact .inr (.inl x)
      · exact .inr (.inr (a2 a x))), p1.st.fr⟩
    have nd := newD ha r2 (fun a x => p1.fm a (a2 a x))
    have hk : ∀ b o, H1 b = some o → upd H1 a (.lst vs) b = some o := fun b o e => by rw [upd_ne (ne_of_none e ha)]; exact e
    have kw : KeptW F1 H1 (fun a => S1 a ∨ (f1 a ∧ ¬ f2 a)) (upd H1 a (.lst vs)) (fun a => S1 a ∨ (f1 a ∧ ¬ f2 a)) := ⟨⟨Sub.refl, fun b o _ e => hk b o e, fun b o _ e => hk b o e⟩, fun b o _ e => hk b o e⟩
    refine k _ (upd H1 a (.lst vs)) (fun a => S1 a ∨ (f1 a ∧ ¬ f2 a)) F1 (Uni (One a) f2) ⟨⟨m1.en.keptW kw, m1.dj, fun b x => (m1.mu b x).keptW kw x, fun b x e => ?_⟩, nd, ?_, ?_, ?_, ?_⟩
    · cases q : H1 b with
      | none => exact m1.st b x q
      | some o => rw [hk b o q] at e; cases e
    · exact Dis.uniL (fun b x y => by subst x; exact (p1.m.mu _ y).ne ha) (p1.fd.mono a2 Sub.refl)
    · refine Dis.uniL (fun b x y => ?_) (fun b x y => y.elim (fun y => p1.fs b (a2 b x) y) fun y => y.2 x)
      subst x
      exact y.elim (fun y => p1.m.st _ y ha) fun y => (p1.fm _ y.1).ne ha
    · intro b x
      rcases x with x | x
      · rw [x]; exact Mu.lst upd_same
      · obtain ⟨o, e⟩ := (p1.fm b (a2 b x)).ex
        have m0 := p1.fm b (a2 b x)
        unfold Mu at m0 ⊢
        rw [hk b o e]; rw [e] at m0; exact m0
    · refine ⟨st1.sub, fun b x => ?_, fun b o e hb => hk b o (st1.fr b o e hb)⟩
      rcases x with x | x | x | x
      · exact st1.new b (.inl x)
      · exact st1.new b (.inr (.inl x))
      · rw [x]
        rcases st1.none_of ha with q | q
        · exact .inr (.inr q)
        · exact .inr (.inl q)
      · exact st1.new b (.inr (.inr x))

/-! ### subscripts and slices -/
theorem PostA.oneE {a : Arg} (h1 : PostA K H S F e1 σ H1 S1 F1 a v f) (h2 : Post K H1 S1 F1 e2 σ H2 S2 F2 q w g) :
    M K e2 σ H2 S2 F2 ∧ RepA K H2 S2 σ a v f ∧ RepO K H2 S2 q w g ∧ Step H S F H2 S2 F2 := by
  have k := h1.m.keptW_of h2.st h1.fd
  exact ⟨h2.m, h1.r.keptW k, h2.r, ((h1.st.weak fun a x => .inl x).trans h2.st h1.m.dj).weak fun a x => .inl x⟩
theorem rd_idx {a i : CE} {σ : St} {H : Hp} {Q : VK} (h : rdE K (.idx a i) σ H Q) : tOp (rB K idxP) (rdA K a) (rdE K i) σ H Q := by
  obtain ⟨env, S, F, p, env', m, he, k⟩ := h
  unfold ev at he
  obtain ⟨⟨a1, e1⟩, h1, he⟩ := R.bind_eq_ok he
  obtain ⟨⟨q, e2⟩, h2, he⟩ := R.bind_eq_ok he
  simp only at he h2
  cases hx : getA e2 a1 with
  | none => rw [hx] at he; cases he
  | some x =>
    rw [hx] at he
    obtain ⟨z, hz, hr⟩ := R.bind_eq_ok he
    have hz := R.of_eq_ok hz
    injection hr with hr
    injection hr with q1 q2
    subst q1; subst q2
    refine ⟨env, S, F, a1, e1, m, h1, fun v1 H1 S1 F1 f1 p1 => ⟨e1, S1, F1, q, e2, p1.m, h2, fun v2 H2 S2 F2 f2 p2 => ?_⟩⟩
    obtain ⟨m2, r1, r2, st⟩ := p1.oneE p2
    obtain ⟨f1', r1'⟩ := RepO.repA m2 r1 hx
    exact ⟨S2, x, q, z, f1', f2, r1', r2, hz, fun v H' f' n => k v H' S2 F2 f' ((n.post m2).after st m2.dj)⟩
def rdO (K : PySem.W.Frag) (c : CO) : TO := fun σ H Q => ∃ env S F o env', M K env σ H S F ∧ evO c env = .ok (o, env') ∧ ∀ H' S' F', M K env' σ H' S' F' → Step H S F H' S' F' → Q o H'
theorem rd_no {σ : St} {H : Hp} {Q : Option Int → Hp → Prop} (h : rdO K .no σ H Q) : tNoPart σ H Q := by
  obtain ⟨env, S, F, o, env', m, he, k⟩ := h
  unfold evO at he
  injection he with he
  injection he with q1 q2
  subst q1; subst q2
  exact k H S F m Step.refl
theorem rd_yes {c : CE} {σ : St} {H : Hp} {Q : Option Int → Hp → Prop} (h : rdO K (.yes c) σ H Q) : tPart (rdE K c) σ H Q := by
  obtain ⟨env, S, F, o, env', m, he, k⟩ := h
  unfold evO at he
  obtain ⟨⟨x, e1⟩, h1, he⟩ := R.bind_eq_ok he
  obtain ⟨i, h2, he⟩ := R.bind_eq_ok he
  have h2 := R.of_eq_ok h2
  injection he with he
  injection he with q1 q2
  subst q1; subst q2
  refine ⟨env, S, F, x, e1, m, h1, fun v H' S' F' f p1 => ?_⟩
  match x, h2, p1 with
  | .int j, h2, p1 =>
    cases h2
    exact ⟨i, p1.r.int, k H' S' F' p1.m p1.weak⟩
theorem rd_slc {a : CE} {lo hi : CO} {σ : St} {H : Hp} {Q : VK} (h : rdE K (.slc a lo hi) σ H Q) :
    tSl (fun x lo hi H Q => ∃ (S : AS) (p r : PV) (f : AS), RepO K H S p x f ∧ slcP p lo hi = some r ∧ ∀ v H' f', New K H S r v H' f' → Q v H') (rdA K a) (rdO K lo) (rdO K hi) σ H Q := by
  obtain ⟨env, S, F, p, env', m, he, k⟩ := h
  unfold ev at he
  obtain ⟨⟨a1, e1⟩, h1, he⟩ := R.bind_eq_ok he
  obtain ⟨⟨l, e2⟩, h2, he⟩ := R.bind_eq_ok he
  obtain ⟨⟨u, e3⟩, h3, he⟩ := R.bind_eq_ok he
  simp only at he h2 h3
  cases hx : getA e3 a1 with
  | none => rw [hx] at he; cases he
  | some x =>
    rw [hx] at he
    obtain ⟨z, hz, hr⟩ := R.bind_eq_ok he
    have hz := R.of_eq_ok hz
    injection hr with hr
    injection hr with q1 q2
    subst q1; subst q2
    refine ⟨env, S, F, a1, e1, m, h1, fun v1 H1 S1 F1 f1 p1 => ⟨e1, S1, F1, l, e2, p1.m, h2, fun H2 S2 F2 m2 s2 => ⟨e2, S2, F2, u, e3, m2, h3, fun H3 S3 F3 m3 s3 => ?_⟩⟩⟩
    have k1 := p1.m.keptW_of s2 p1.fd
    obtain ⟨d1, d2⟩ := s2.sep p1.fm p1.fd p1.fs
    have k2 := m2.keptW_of s3 d1
    have r1 : RepA K H3 S3 σ a1 v1 f1 := (p1.r.keptW k1).keptW k2
    obtain ⟨f1', r1'⟩ := RepO.repA m3 r1 hx
    have st : Step H S F H3 S3 F3 := (((p1.st.weak fun a x => .inl x).trans s2 p1.m.dj).trans s3 m2.dj)
    exact ⟨S3, x, z, f1', r1', hz, fun v H' f' n => k v H' S3 F3 f' ((n.post m3).after st m3.dj)⟩
theorem rd_rev {a : CE} {σ : St} {H : Hp} {Q : VK} (h : rdE K (.rev a) σ H Q) : tRevL K (rdA K a) σ H Q := by
  obtain ⟨env, S, F, p, env', m, he, k⟩ := h
  unfold ev at he
  obtain ⟨⟨a1, e1⟩, h1, he⟩ := R.bind_eq_ok he
  simp only at he
  cases hx : getA e1 a1 with
  | none => rw [hx] at he; cases he
  | some x =>
    rw [hx] at he
    obtain ⟨z, hz, hr⟩ := R.bind_eq_ok he
    have hz := R.of_eq_ok hz
    injection hr with hr
    injection hr with q1 q2
    subst q1; subst q2
    refine ⟨env, S, F, a1, e1, m, h1, fun v1 H1 S1 F1 f1 p1 => ?_⟩
    obtain ⟨f1', r1'⟩ := RepO.repA p1.m p1.r hx
    match x, hz, r1' with
    | .lst fl xs, hz, r1' =>
      obtain ⟨hf, rfl⟩ := some_if hz
      obtain ⟨b, vs, rfl, hb, rs⟩ := r1'.flat hf
      exact ⟨b, vs, rfl, .inl (.inl hb), fun l hl => k _ _ _ _ _ (((M.newL hl rs.reverse).post p1.m).after (p1.st.weak fun a x => .inl x) p1.m.dj)⟩
/-! ### built-in functions -/
theorem rd_blt {b : Blt} {es : CEs} {σ : St} {H : Hp} {Q : VK} (h : rdE K (.blt b es) σ H Q) : tCB (rBl K (bltP b)) (rdAs K es) σ H Q := by
  obtain ⟨env, S, F, p, env', m, he, k⟩ := h
  unfold ev at he
  obtain ⟨⟨as, e1⟩, h1, he⟩ := R.bind_eq_ok he
  simp only at he
  cases hx : getAs e1 as with
  | none => rw [hx] at he; cases he
  | some vs =>
    rw [hx] at he
    obtain ⟨z, hz, hr⟩ := R.bind_eq_ok he
    have hz := R.of_eq_ok hz
    injection hr with hr
    injection hr with q1 q2
    subst q1; subst q2
    refine ⟨env, S, F, as, e1, m, h1, fun ws H1 S1 F1 f1 p1 => ?_⟩
    exact ⟨S1, vs, z, RepAs.vals p1.m p1.r hx, hz, fun v H' f' n => k v H' S1 F1 f' ((n.post p1.m).after (p1.st.weak fun a x => .inl x) p1.m.dj)⟩

/-! ### calls -/
/-- what a def of the text promises -/
def spOf (K : PySem.W.Frag) (cf : CF) : Sp := fun vs H Q _ => ∃ (ps : List PV) (S F : AS) (r : PV) (os : List PV), M K (ps.map some) (vs.map some) H S F ∧ run cf ps = .ok (r, os) ∧
  ∀ v H' S' F' f, Post K H S F (os.map some) (vs.map some) H' S' F' r v f → Q v H'
/-- a def by a Lean function of values -/
def spPr (K : PySem.W.Frag) (fn : List PV → Option PV) : Sp := fun vs H Q _ => ∃ (S : AS) (ps : List PV) (r : PV), RepBs K H S ps vs ∧ fn ps = some r ∧ ∀ v H' f, New K H S r v H' f → Q v H'
theorem rd_prm {x : String} {fn : List PV → Option PV} {es : CEs} {E : XK} {σ : St} {H : Hp} {Q : VK} (h : rdE K (.prm x fn es) σ H Q) : tCall (spPr K fn) [] E (rdAs K es) σ H Q := by
  obtain ⟨env, S, F, p, env', m, he, k⟩ := h
  unfold ev at he
  obtain ⟨⟨as, e1⟩, h1, he⟩ := R.bind_eq_ok he
  simp only at he
  cases hx : getAs e1 as with
  | none => rw [hx] at he; cases he
  | some vs =>
    rw [hx] at he
    obtain ⟨z, hz, hr⟩ := R.bind_eq_ok he
    have hz := R.of_eq_ok hz
    injection hr with hr
    injection hr with q1 q2
    subst q1; subst q2
    refine ⟨env, S, F, as, e1, m, h1, fun ws H1 S1 F1 f1 p1 => ?_⟩
    show spPr K fn (ws ++ []) H1 Q E
    rw [List.append_nil]
    exact ⟨S1, vs, z, RepAs.vals p1.m p1.r hx, hz, fun v H' f' n => k v H' S1 F1 f' ((n.post p1.m).after (p1.st.weak fun a x => .inl x) p1.m.dj)⟩
def ownIx : List Arg → List PV → List Nat
  | .ref i :: r, v :: vs => if isOwn v then i :: ownIx r vs else ownIx r vs
  | .val _ :: r, _ :: vs => ownIx r vs
  | _, _ => []
theorem REnv.cons {v : V} {ps : List PV} {vs : List V} (r : RepO K H S p v F1) (h : REnv K H S (ps.map some) (vs.map some) F2) (dj : Dis F1 F2) :
    REnv K H S ((p :: ps).map some) ((v :: vs).map some) (Uni F1 F2) := ⟨v, vs.map some, F1, F2, rfl, fun a x => .inl x, fun a x => .inr x, dj, r, h⟩
theorem lend_ok : ∀ {as : List Arg} {env e : Env} {vs : List V} {f F1 : AS} {ps : List PV}, REnv K H S env σ F1 → RepAs K H S σ as vs f → Dis f F1 → lend env as = some (ps, e) →
    ∃ Fc Fr, REnv K H S (ps.map some) (vs.map some) Fc ∧ REnv K H S e σ Fr ∧ Dis Fc Fr ∧ Sub Fc (Uni f F1) ∧ Sub Fr F1 ∧
      (∀ i, slot env i = none → slot e i = none) ∧ e.length = env.length ∧ (ownIx as ps).Nodup ∧ ∀ i ∈ ownIx as ps, slot env i ≠ none ∧ slot e i = none ∧ i < env.length
  | [], env, e, vs, f, F1, ps, h, r, dj, hl => by
    cases hl; cases r
    exact ⟨Emp, F1, rfl, h, emp_dis, fun a x => x.elim, Sub.refl, fun _ h => h, rfl, List.nodup_nil, fun i hi => absurd hi (by simp [ownIx])⟩
  | .val p :: as, env, e, _, f, F1, _, h, r, dj, hl => by
    obtain ⟨v, ws, G1, G2, rfl, u1, u2, dj2, r1, r2⟩ := r
    unfold lend at hl
    cases hl2 : lend env as with
    | none => rw [hl2] at hl; cases hl
    | some q =>
      obtain ⟨ps, e'⟩ := q
      rw [hl2] at hl
      cases hl
      obtain ⟨Fc, Fr, a1, a2, a3, a4, a5, a6, a7, a8, a9⟩ := lend_ok h r2 (dj.mono u2 Sub.refl) hl2
      have d1 : Dis G1 Fc := fun a x y => (a4 a y).elim (dj2 a x) (dj a (u1 a x))
      exact ⟨Uni G1 Fc, Fr, REnv.cons r1 a1 d1, a2, Dis.uniL (fun a x y => dj a (u1 a x) (a5 a y)) a3, fun a x => x.elim (fun x => .inl (u1 a x)) fun x => (a4 a x).elim (fun x => .inl (u2 a x)) .inr, a5, a6, a7, a8, a9⟩
  | .ref i :: as, env, e, _, f, F1, _, h, r, dj, hl => by
    obtain ⟨v, ws, G1, G2, rfl, u1, u2, dj2, r1, r2⟩ := r
    unfold lend at hl
    cases hs : slot env i with
    | none => rw [hs] at hl; cases hl
    | some p =>
      rw [hs] at hl
      simp only at hl
      obtain ⟨v', T1, T2, hv, t1, t2, djt, rt, ht⟩ := h.take hs
      have ev : v' = v := by
        have r1 : σ[i]? = some (some v) := r1
        rw [r1] at hv; cases hv; rfl
      subst ev
      by_cases ho : isOwn p = true
      · rw [if_pos ho] at hl
        cases hl2 : lend (env.set i none) as with
        | none => rw [hl2] at hl; cases hl
        | some q =>
          obtain ⟨ps, e'⟩ := q
          rw [hl2] at hl
          cases hl
          obtain ⟨Fc, Fr, a1, a2, a3, a4, a5, a6, a7, a8, a9⟩ := lend_ok ht r2 (dj.mono u2 t2) hl2
          have d1 : Dis T1 Fc := fun a x y => (a4 a y).elim (fun y => dj a (u2 a y) (t1 a x)) (djt a x)
          have hli := slot_len hs
          have hsn : ∀ j, slot env j = none → slot (env.set i none) j = none := fun j hj => by
            by_cases e : i = j
            · subst e; exact slot_set_none hli
            · unfold slot at hj ⊢; rw [List.getElem?_set_ne e]; exact hj
          refine ⟨Uni T1 Fc, Fr, REnv.cons rt a1 d1, a2, Dis.uniL (fun a x y => djt a x (a5 a y)) a3, fun a x => x.elim (fun x => .inr (t1 a x)) fun x => (a4 a x).elim (fun x => .inl (u2 a x)) (fun x => .inr (t2 a x)), a5.trans t2,
            fun j hj => a6 j (hsn j hj), by rw [a7]; simp, ?_, ?_⟩
          · unfold ownIx
            rw [if_pos ho]
            exact List.nodup_cons.mpr ⟨fun hm => (a9 i hm).1 (slot_set_none hli), a8⟩
          · intro j hj
            unfold ownIx at hj
            rw [if_pos ho] at hj
            rcases List.mem_cons.mp hj with e | hj
            · subst e
              exact ⟨by rw [hs]; simp, a6 _ (slot_set_none hli), hli⟩
            · obtain ⟨b1, b2, b3⟩ := a9 j hj
              exact ⟨fun z => b1 (hsn j z), b2, by simpa using b3⟩
      · rw [if_neg ho] at hl
        cases hl2 : lend env as with
        | none => rw [hl2] at hl; cases hl
        | some q =>
          obtain ⟨ps, e'⟩ := q
          rw [hl2] at hl
          cases hl
          obtain ⟨Fc, Fr, a1, a2, a3, a4, a5, a6, a7, a8, a9⟩ := lend_ok h r2 (dj.mono u2 Sub.refl) hl2
          have ho : isOwn p = false := by simpa using ho
          have rz : RepO K H S p v' Emp := RepO.of_frz ho (rt.frz_of ho)
          refine ⟨Uni Emp Fc, Fr, REnv.cons rz a1 emp_dis, a2, Dis.uniL emp_dis a3, fun a x => x.elim False.elim fun x => (a4 a x).elim (fun x => .inl (u2 a x)) .inr, a5, a6, a7, ?_, ?_⟩
          · unfold ownIx; rw [ho]; exact a8
          · unfold ownIx; rw [ho]; exact a9
theorem back_ok : ∀ {as : List Arg} {e : Env} {vs : List V} {Fr Fc : AS} {ps os : List PV}, REnv K H S e σ Fr → REnv K H S (os.map some) (vs.map some) Fc → Dis Fc Fr → ps.length = vs.length →
    (∀ (k i : Nat) (v : V), as[k]? = some (.ref i) → vs[k]? = some v → σ[i]? = some (some v)) → (ownIx as ps).Nodup → (∀ i ∈ ownIx as ps, slot e i = none ∧ i < e.length) → REnv K H S (back e as ps os) σ (Uni Fc Fr)
  | [], e, vs, Fr, Fc, ps, os, h, _, _, _, _, _, _ => by
    unfold back
    exact h.mono fun a x => .inr x
  | .val q :: as, e, vs, Fr, Fc, [], os, h, _, _, _, _, _, _ => by
    unfold back
    exact h.mono fun a x => .inr x
  | .val q :: as, e, vs, Fr, Fc, p :: ps, [], h, _, _, _, _, _, _ => by
    unfold back
    exact h.mono fun a x => .inr x
  | .val q :: as, e, vs, Fr, Fc, p :: ps, o :: os, h, ho, dj, hl, hv, nd, hn => by
    obtain ⟨v, t, G1, G2, hvs, u1, u2, dj2, r, h2⟩ := ho
    cases vs with
    | nil => cases hvs
    | cons v0 vs =>
      cases hvs
      unfold back
      exact (back_ok (as := as) (ps := ps) h h2 (dj.mono u2 Sub.refl) (by simpa using hl) (fun k i v h1 h2 => hv (k + 1) i v (by simpa using h1) (by simpa using h2)) nd hn).mono fun a x => x.imp (u2 a) id
  | .ref i :: as, e, vs, Fr, Fc, [], os, h, _, _, _, _, _, _ => by
    unfold back
    exact h.mono fun a x => .inr x
  | .ref i :: as, e, vs, Fr, Fc, p :: ps, [], h, _, _, _, _, _, _ => by
    unfold back
    exact h.mono fun a x => .inr x
  | .ref i :: as, e, vs, Fr, Fc, p :: ps, o :: os, h, ho, dj, hl, hv, nd, hn => by
    obtain ⟨v, t, G1, G2, hvs, u1, u2, dj2, r, h2⟩ := ho
    cases vs with
    | nil => cases hvs
    | cons v0 vs =>
      cases hvs
      unfold back
      by_cases hp : isOwn p = true
      · rw [if_pos hp]
        unfold ownIx at nd hn
        rw [if_pos hp] at nd hn
        obtain ⟨n1, n2⟩ := List.nodup_cons.mp nd
        obtain ⟨s1, s2⟩ := hn i (by simp)
        have hvi : σ[i]? = some (some v) := hv 0 i v rfl rfl
        have hput := REnv.put (i := i) (p := o) h s2 s1 r (dj.mono u1 Sub.refl)
        rw [set_val hvi] at hput
        refine (back_ok (as := as) (ps := ps) hput h2 (Dis.uni dj2.symm (dj.mono u2 Sub.refl)) (by simpa using hl) (fun k i v h1 h2 => hv (k + 1) i v (by simpa using h1) (by simpa using h2)) n2 fun j hj => ?_).mono fun a x => ?_
        · obtain ⟨b1, b2⟩ := hn j (by simp [hj])
          have hij : i ≠ j := fun z => n1 (z ▸ hj)
          refine ⟨?_, by simpa using b2⟩
          unfold slot at b1 ⊢
          rw [List.getElem?_set_ne hij]; exact b1
        · exact x.elim (fun x => .inl (u2 a x)) fun x => x.elim (fun x => .inl (u1 a x)) .inr
      · rw [if_neg hp]
        have hp : isOwn p = false := by simpa using hp
        unfold ownIx at nd hn
        rw [hp] at nd hn
        exact (back_ok (as := as) (ps := ps) h h2 (dj.mono u2 Sub.refl) (by simpa using hl) (fun k i v h1 h2 => hv (k + 1) i v (by simpa using h1) (by simpa using h2)) nd hn).mono fun a x => x.imp (u2 a) id
theorem RepAs.refs : ∀ {as : List Arg} {vs : List V} {f : AS}, RepAs K H S σ as vs f → ∀ (k i : Nat) (v : V), as[k]? = some (.ref i) → vs[k]? = some v → σ[i]? = some (some v)
  | [], _, _, h, k, i, v, h1, _ => by simp at h1
  | a :: as, _, _, h, 0, i, v, h1, h2 => by
    obtain ⟨w, ws, G1, G2, rfl, u1, u2, dj2, r, h3⟩ := h
    simp at h1 h2
    subst h1; subst h2
    exact r
  | a :: as, _, _, h, k + 1, i, v, h1, h2 => by
    obtain ⟨w, ws, G1, G2, rfl, u1, u2, dj2, r, h3⟩ := h
    exact RepAs.refs h3 k i v (by simpa using h1) (by simpa using h2)
theorem Step.more (s : Step H S F H' S' F') (h : Sub F F2) : Step H S F2 H' S' F' := ⟨s.sub, fun a x => (s.new a x).imp id fun x => x.imp (h a) id, fun b o e hb => s.fr b o e fun x => hb (h b x)⟩
theorem Step.frame (s : Step H S F H' S' F') : Step H S (Uni F G) H' S' (Uni F' G) := ⟨s.sub, fun a x => by
    rcases x with x | x | x
    · exact (s.new a (.inl x)).imp id fun x => x.imp .inl id
    · exact (s.new a (.inr x)).imp id fun x => x.imp .inl id
    · exact .inr (.inl (.inr x)), fun b o e hb => s.fr b o e fun x => hb (.inl x)⟩
theorem rd_call {x : String} {cf : CF} {es : CEs} {E : XK} {σ : St} {H : Hp} {Q : VK} (h : rdE K (.call x cf es) σ H Q) : tCall (spOf K cf) [] E (rdAs K es) σ H Q := by
  obtain ⟨env, S, F, p, env', m, he, k⟩ := h
  unfold ev at he
  obtain ⟨⟨as, e1⟩, h1, he⟩ := R.bind_eq_ok he
  simp only at he
  cases hx : lend e1 as with
  | none => rw [hx] at he; cases he
  | some q =>
    obtain ⟨ps, e⟩ := q
    rw [hx] at he
    obtain ⟨⟨r, os⟩, h2, hr⟩ := R.bind_eq_ok he
    injection hr with hr
    injection hr with q1 q2
    subst q1; subst q2
    refine ⟨env, S, F, as, e1, m, h1, fun ws H1 S1 F1 f1 p1 => ?_⟩
    show spOf K cf (ws ++ []) H1 Q E
    rw [List.append_nil]
    obtain ⟨Fc, Fr, a1, a2, a3, a4, a5, a6, a7, a8, a9⟩ := lend_ok p1.m.en p1.r p1.fd hx
    have dS : Dis S1 (Uni f1 F1) := Dis.uni p1.fs.symm p1.m.dj
    have muA : ∀ a, Uni f1 F1 a → Mu H1 a := fun a x => x.elim (p1.fm a) (p1.m.mu a)
    refine ⟨ps, S1, Fc, r, os, ⟨a1, dS.mono Sub.refl a4, fun a x => muA a (a4 a x), p1.m.st⟩, h2, fun v H2 S2 F2 f2 po => k v H2 S2 (Uni F2 Fr) f2 ?_⟩
    have dr : Dis S1 Fr := fun a x y => p1.m.dj a x (a5 a y)
    have mr : ∀ a, Fr a → Mu H1 a := fun a x => p1.m.mu a (a5 a x)
    have kw : KeptW Fr H1 S1 H2 S2 := ⟨po.st.kept (dS.mono Sub.refl a4) fun a x => muA a (a4 a x), fun a o x e => po.st.fr a o e fun y => a3 a y x⟩
    obtain ⟨g1, g2⟩ := po.st.sep mr a3.symm dr.symm
    have hlen : ps.length = ws.length := by
      have := a1.len; simpa using this
    have envB := back_ok (as := as) (ps := ps) (a2.keptW kw) po.m.en (fun a x y => g1 a y (.inl x)) hlen p1.r.refs a8 (fun i hi => ⟨(a9 i hi).2.1, by rw [a7]; exact (a9 i hi).2.2⟩)
    refine ⟨⟨envB, ?_, ?_, po.m.st⟩, po.r, ?_, po.fs, po.fm, ?_⟩
    · exact Dis.uni po.m.dj g2.symm
    · exact fun a x => x.elim (po.m.mu a) fun x => (mr a x).keptW kw x
    · exact Dis.uni po.fd fun a x y => g1 a y (.inr x)
    · have t1 : Step H1 S1 (Uni F1 f1) H2 S2 (Uni (Uni F2 f2) Fr) := (po.st.frame (G := Fr)).more fun a x => x.elim (fun x => (a4 a x).elim .inr .inl) fun x => .inl (a5 a x)
      have t2 := p1.st.trans t1 (Dis.uni p1.m.dj p1.fs.symm)
      exact t2.weak fun a x => by
        rcases x with (x | x) | x
        · exact .inl (.inl x)
        · exact .inr x
        · exact .inl (.inr x)
end
end EL

set_option maxRecDepth 100000
/-! EL10: what is walked; targets; comprehensions -/
namespace EL
open PySem PySem.Spec L2
section
variable {K : PySem.W.Frag} {H H' H1 H2 : Hp} {S S' S1 S2 F F' F1 F2 f f' g G : AS} {env env' e1 e2 : Env} {σ σ' : St} {p q : PV} {v w : V}
structure Walks (K : PySem.W.Frag) (J : It) (xs : List PV) (H0 : Hp) (S0 : AS) : Prop where
  stop : ∀ H S, Kept H0 S0 H S → J.stop xs.length H
  go : ∀ H S, Kept H0 S0 H S → ∀ (i : Nat) (p : PV), xs[i]? = some p → J.go i H ∧ ∀ v H', J.yld i H v H' → (∀ b o, H b = some o → H' b = some o) ∧ RepF K H' S p v ∧ isOwn p = false
/-- what the iterated value gives -/
def rdI (K : PySem.W.Frag) (it : CI) : TI := fun σ H R => ∃ env S F xs env', M K env σ H S F ∧ evI it env = .ok (xs, env') ∧
  ∀ J H' S' F', M K env' σ H' S' F' → Step H S F H' S' F' → Walks K J xs H' S' → R J H'
theorem _root_.L2.PI.imp {X : Cx} {tg e : Expr} {t t' : TI} (h : PI X tg e t) (k : ∀ σ H Q, t' σ H Q → t σ H Q) : PI X tg e t' := ⟨fun pins s σ H Q I q => h.run pins s σ H Q I (k σ H Q q)⟩
theorem Inv.list_same {X : Cx} {a : Addr} {xs ys : List V} (h : SqL K H a xs) : SqL K H a xs := h
theorem SqL.kept {a : Addr} {vs : List V} {fl : Fl} (k : Kept H S H' S') (h : LsF K H S fl a vs) : SqL K H' a vs := by
  have h := h.kept k
  unfold LsF at h
  split at h
  · rcases h with ⟨o, h⟩ | h
    · exact .inl (.inr ⟨o, h⟩)
    · exact .inr h
  · exact .inl (.inl h.1)
theorem RepFs.frzAll : ∀ {xs : List PV} {vs : List V}, RepFs K H S xs vs → RepFs K H S (xs.map frz) vs
  | [], _, h => h
  | x :: xs, _, h => by
    obtain ⟨v, ws, e, h1, h2⟩ := h
    exact ⟨v, ws, e, h1.frz, RepFs.frzAll h2⟩
theorem Kept.ext (hk : ∀ b o, H b = some o → H' b = some o) : Kept H S H' S := ⟨fun _ h => h, fun a o _ e => hk a o e, fun a o _ e => hk a o e⟩
theorem own_at {xs : List PV} {i : Nat} {p : PV} (h : (xs.map frz)[i]? = some p) : isOwn p = false := by
  rw [List.getElem?_map] at h
  obtain ⟨q, _, rfl⟩ := Option.map_eq_some_iff.mp h
  exact isOwn_frz q
/-- a list, a tuple, a text -/
def iAny (K : PySem.W.Frag) (tl : TE) : TI := fun σ H R => tl σ H fun x H1 => ∃ S q xs, RepF K H1 S q x ∧ itemsP q = some xs ∧ ∀ J, Walks K J xs H1 S → R J H1
theorem pi_step {X : Cx} {tg : Expr} {pins : List (Addr × Obj)} {σ : St} {R : It → Hp → Prop} {v : Value} {s1 : Shared}
    (h : EP X pins σ (fun x H1 => ∃ S q xs, RepF X.K H1 S q x ∧ itemsP q = some xs ∧ ∀ J, Walks X.K J xs H1 S → R J H1) v s1) : wpAny (model X.prog X.w) X.A (pyIter v) (PIE X pins σ tg R) X.xe s1 := by
  obtain ⟨x, H1, I1, r1, S, q, xs, rf, hx, k⟩ := h
  unfold itemsP at hx
  split at hx
  · rename_i fl ys
    cases hx
    obtain ⟨a, vs, rfl, hL, rs⟩ := rf
    have rs' := rs.frzAll
    cases r1
    obtain ⟨its, rv, p, hz⟩ := I1.list (hL.kept Kept.refl |> SqL.kept Kept.refl)
    refine PySem.wpAny_pyIter_list p.isList ?_
    refine ⟨s1.heap.objs.size, [s1.heap.objs.size], _, _, H1, rfl, I1.kept (t' := s1.toks) fun b o e => Heap.get?_push_of_some _ e, turn_list a _, ⟨_, Heap.get?_push_size _ rfl, rfl, rfl⟩, fun b hb => ?_, k _ ⟨fun H2 S2 kp => ?_, fun H2 S2 kp i p hp => ?_⟩⟩
    · have e : b = s1.heap.objs.size := by simpa using hb
      subst e
      exact I1.fpOk (Nat.le_refl _) (I1.hok.fresh (Nat.le_refl _))
    · exact ⟨vs, SqL.kept kp hL, by rw [rs'.length]; exact Nat.le_refl _⟩
    · obtain ⟨w, hw, rw'⟩ := rs'.get hp
      refine ⟨⟨vs, w, SqL.kept kp hL, hw⟩, fun v H' y => ?_⟩
      obtain ⟨rfl, y⟩ := y
      have := y vs (SqL.kept kp hL)
      rw [hw] at this
      cases this
      exact ⟨fun _ _ e => e, RepF.kept kp _ rw', own_at hp⟩
  · rename_i ys
    cases hx
    obtain ⟨a, vs, rfl, hL, rs⟩ := rf
    have rs' := rs.frzAll
    cases r1
    have st : ∀ {H2 S2}, Kept H1 S H2 S2 → SqT X.K H2 a vs := fun kp => SqT.of (kp.im a _ (Mu.not_tup hL) hL)
    obtain ⟨its, rv, p, hz⟩ := I1.tuple (SqT.of hL)
    refine PySem.wpAny_pyIter_tuple (show s1.heap.IsTuple a its.toArray from p) ?_
    refine ⟨s1.heap.objs.size, [s1.heap.objs.size], _, _, H1, rfl, I1.kept (t' := s1.toks) fun b o e => Heap.get?_push_of_some _ e, turn_tuple a _, ⟨_, Heap.get?_push_size _ rfl, rfl, rfl⟩, fun b hb => ?_, k _ ⟨fun H2 S2 kp => ?_, fun H2 S2 kp i p hp => ?_⟩⟩
    · have e : b = s1.heap.objs.size := by simpa using hb
      subst e
      exact I1.fpOk (Nat.le_refl _) (I1.hok.fresh (Nat.le_refl _))
    · exact ⟨vs, st kp, by rw [rs'.length]; exact Nat.le_refl _⟩
    · obtain ⟨w, hw, rw'⟩ := rs'.get hp
      refine ⟨⟨vs, w, st kp, hw⟩, fun v H' y => ?_⟩
      obtain ⟨rfl, y⟩ := y
      have := y vs (st kp)
      rw [hw] at this
      cases this
      exact ⟨fun _ _ e => e, RepF.kept kp _ rw', own_at hp⟩
  · rename_i ys
    cases hx
    obtain ⟨a, vs, rfl, hL, rs⟩ := rf
    have rs' := rs.frzAll
    cases r1
    have st : ∀ {H2 S2}, Kept H1 S H2 S2 → SqT X.K H2 a vs := fun kp => SqT.kept kp hL
    obtain ⟨its, rv, p, hz⟩ := I1.tuple hL
    refine PySem.wpAny_pyIter_tuple (show s1.heap.IsTuple a its.toArray from p) ?_
    refine ⟨s1.heap.objs.size, [s1.heap.objs.size], _, _, H1, rfl, I1.kept (t' := s1.toks) fun b o e => Heap.get?_push_of_some _ e, turn_tuple a _, ⟨_, Heap.get?_push_size _ rfl, rfl, rfl⟩, fun b hb => ?_, k _ ⟨fun H2 S2 kp => ?_, fun H2 S2 kp i p hp => ?_⟩⟩
    · have e : b = s1.heap.objs.size := by simpa using hb
      subst e
      exact I1.fpOk (Nat.le_refl _) (I1.hok.fresh (Nat.le_refl _))
    · exact ⟨vs, st kp, by rw [rs'.length]; exact Nat.le_refl _⟩
    · obtain ⟨w, hw, rw'⟩ := rs'.get hp
      refine ⟨⟨vs, w, st kp, hw⟩, fun v H' y => ?_⟩
      obtain ⟨rfl, y⟩ := y
      have := y vs (st kp)
      rw [hw] at this
      cases this
      exact ⟨fun _ _ e => e, RepF.kept kp _ rw', own_at hp⟩
  · rename_i z
    cases hx
    cases rf
    obtain ⟨t, rfl⟩ := r1
    have wk : Walks X.K (Its z) (z.cps.toList.map fun c => PV.str ⟨#[c]⟩) H1 S := ⟨fun H2 S2 kp => by
      show z.cps.size ≤ _
      rw [List.length_map, Array.length_toList]; exact Nat.le_refl _, fun H2 S2 kp i p hp => by
      rw [List.getElem?_map] at hp
      cases hc : z.cps.toList[i]? with
      | none => rw [hc] at hp; cases hp
      | some c =>
        rw [hc] at hp
        cases hp
        have hc' : z.cps[i]? = some c := by simpa using hc
        refine ⟨(Array.getElem?_eq_some_iff.mp hc').1, fun v H' y => ?_⟩
        obtain ⟨rfl, c', hc2, rfl⟩ := y
        rw [hc'] at hc2
        cases hc2
        exact ⟨fun _ _ e => e, rfl, rfl⟩⟩
    cases ha : z.cps.all (· < 128)
    · exact wpAny_pyIter_wide ha (pi_one (tk := s1.toks) I1 _ (turn_str _ z t "str_iterator" (.inr rfl)) ⟨_, Heap.get?_push_size _ rfl, rfl, rfl⟩ (k _ wk))
    · exact wpAny_pyIter_ascii ha (pi_one (tk := s1.toks) I1 _ (turn_str _ z t "str_ascii_iterator" (.inl rfl)) ⟨_, Heap.get?_push_size _ rfl, rfl, rfl⟩ (k _ wk))
  · cases hx
theorem pi_any {X : Cx} {tg l : Expr} {tl : TE} (hl : PE X l tl) : PI X tg l (iAny X.K tl) :=
  ⟨fun pins s σ H R I h => thn (hl.run pins s σ H _ I h) fun v s1 q => pi_step q⟩
theorem itemsP_frz (p : PV) : itemsP (frz p) = itemsP p := by
  match p with
  | .lst .own xs => rfl
  | .lst .deep xs => rfl
  | .lst .frz xs => rfl
  | .lst .ro xs => rfl
  | .dic .own _ xs => rfl
  | .dic .deep _ xs => rfl
  | .dic .frz _ xs => rfl
  | .dic .ro _ xs => rfl
  | .non => rfl
  | .bl _ => rfl
  | .int _ => rfl
  | .str _ => rfl
  | .tup _ => rfl
  | .ktp _ => rfl
theorem rd_val {e : CE} {σ : St} {H : Hp} {R' : It → Hp → Prop} (h : rdI K (.val e) σ H R') : iAny K (rdE K e) σ H R' := by
  obtain ⟨env, S, F, xs, env', m, he, k⟩ := h
  unfold evI at he
  obtain ⟨⟨x, e1⟩, h1, he⟩ := R.bind_eq_ok he
  obtain ⟨ys, h2, he⟩ := R.bind_eq_ok he
  have h2 := R.of_eq_ok h2
  injection he with he
  injection he with q1 q2
  subst q1; subst q2
  refine ⟨env, S, F, x, e1, m, h1, fun v H1 S1 F1 f1 p1 => ?_⟩
  exact ⟨Uni S1 f1, frz x, _, p1.r.freeze (fun a x => .inl x) (fun a x => .inr x), by rw [itemsP_frz]; exact h2, fun J w => k J H1 (Uni S1 f1) F1 (p1.m.absorb p1.fd p1.fm) p1.st.absorb w⟩
theorem walks_rng (a : Int) (n : Nat) : Walks K (Itr a n) ((List.range n).map fun k => PV.int (a + (k : Nat))) H S := by
  refine ⟨fun H2 S2 kp => ?_, fun H2 S2 kp i p hp => ?_⟩
  · show n ≤ _
    rw [List.length_map, List.length_range]; exact Nat.le_refl _
  · rw [List.getElem?_map] at hp
    by_cases hi : i < n
    · rw [List.getElem?_range hi] at hp
      cases hp
      exact ⟨hi, fun v H' y => by obtain ⟨rfl, rfl⟩ := y; exact ⟨fun _ _ e => e, rfl, rfl⟩⟩
    · rw [List.getElem?_eq_none (by simpa using hi)] at hp
      cases hp
theorem rd_rng1 {a : CE} {σ : St} {H : Hp} {R' : It → Hp → Prop} (h : rdI K (.rng1 a) σ H R') : iRng1 (tCons (rdE K a) tNil) σ H R' := by
  obtain ⟨env, S, F, xs, env', m, he, k⟩ := h
  unfold evI at he
  obtain ⟨⟨x, e1⟩, h1, he⟩ := R.bind_eq_ok he
  refine ⟨env, S, F, x, e1, m, h1, fun v H1 S1 F1 f1 p1 => ?_⟩
  match x, he, p1 with
  | .int i, he, p1 =>
    obtain ⟨hr, he⟩ := if_ok he
    injection he with he
    injection he with q1 q2
    subst q1; subst q2
    have hr := rngOk_of hr
    refine ⟨i, by rw [p1.r.int], hr.1, hr.2, k _ H1 S1 F1 p1.m p1.weak ?_⟩
    have := walks_rng (K := K) (H := H1) (S := S1) 0 (i - 0).toNat
    simpa [rngP] using this
theorem rd_rng2 {a b : CE} {σ : St} {H : Hp} {R' : It → Hp → Prop} (h : rdI K (.rng2 a b) σ H R') : iRng2 (tCons (rdE K a) (tCons (rdE K b) tNil)) σ H R' := by
  obtain ⟨env, S, F, xs, env', m, he, k⟩ := h
  unfold evI at he
  obtain ⟨⟨x, e1⟩, h1, he⟩ := R.bind_eq_ok he
  obtain ⟨⟨y, e2⟩, h2, he⟩ := R.bind_eq_ok he
  refine ⟨env, S, F, x, e1, m, h1, fun v H1 S1 F1 f1 p1 => ⟨e1, S1, F1, y, e2, p1.m, h2, fun w H2 S2 F2 f2 p2 => ?_⟩⟩
  match x, y, he, p1, p2 with
  | .int i, .int j, he, p1, p2 =>
    obtain ⟨hr, he⟩ := if_ok he
    injection he with he
    injection he with q1 q2
    subst q1; subst q2
    rw [Bool.and_eq_true] at hr
    have h1 := rngOk_of hr.1
    have h2 := rngOk_of hr.2
    exact ⟨i, j, by rw [p1.r.int, p2.r.int], ⟨h1.1, h1.2, h2.1, h2.2⟩,
      k _ H2 S2 F2 p2.m (p1.weak.trans p2.weak p1.m.dj) (walks_rng i (j - i).toNat)⟩

/-! ### targets -/
theorem M.set {i : Nat} (m : M K env σ H S F) (r : RepO K H S p v f) (fd : Dis f F) (fs : Dis f S) (fm : ∀ a, f a → Mu H a) : M K (env.set i (some p)) (σ.set i (some v)) H S (Uni f F) := by
  by_cases hi : i < env.length
  · have h1 := m.en.wip (i := i)
    have h2 := REnv.put (i := i) h1 (by simpa using hi) (slot_set_none hi) r fd
    rw [List.set_set] at h2
    exact ⟨h2, Dis.uni fs.symm m.dj, fun a x => x.elim (fm a) (m.mu a), m.st⟩
  · have hl := m.en.len
    rw [List.set_eq_of_length_le (by omega), List.set_eq_of_length_le (by omega)]
    exact ⟨m.en.mono fun a x => .inr x, Dis.uni fs.symm m.dj, fun a x => x.elim (fm a) (m.mu a), m.st⟩
def EqOn (A : List Nat) (σ σ' : St) : Prop := σ'.length = σ.length ∧ ∀ i, i ∉ A → σ'[i]? = σ[i]?
theorem EqOn.refl (A : List Nat) (σ : St) : EqOn A σ σ := ⟨rfl, fun _ _ => rfl⟩
theorem EqOn.trans {A : List Nat} {σ σ' σ2 : St} (h : EqOn A σ σ') (k : EqOn A σ' σ2) : EqOn A σ σ2 := ⟨k.1.trans h.1, fun i hi => (k.2 i hi).trans (h.2 i hi)⟩
theorem EqOn.mono {A B : List Nat} {σ σ' : St} (h : EqOn A σ σ') (hs : ∀ i ∈ A, i ∈ B) : EqOn B σ σ' := ⟨h.1, fun i hi => h.2 i fun x => hi (hs i x)⟩
theorem EqOn.set {A : List Nat} {σ : St} {i : Nat} {x : Option V} (h : i ∈ A) : EqOn A σ (σ.set i x) := ⟨by simp, fun j hj => by
  have e : i ≠ j := fun e => by subst e; exact hj h
  rw [List.getElem?_set_ne e]⟩
def gT (K : PySem.W.Frag) : CT → TG
  | .var i => gName i
  | .tup is => fun v σ H Q => gTup K is.length (is.foldr (fun i u => gCons (gName i) u) gNil) v σ H Q ∨ gUnl K is.length (is.foldr (fun i u => gCons (gName i) u) gNil) v σ H Q
theorem gs_sets : ∀ {is : List Nat} {xs : List PV} {vs : List V} {env : Env} {σ : St} {F : AS} {Q : St → Hp → Prop}, RepFs K H S xs vs → M K env σ H S F → xs.length = is.length →
    (∀ σ', M K ((is.zip xs).foldl (fun e p => e.set p.1 (some (frz p.2))) env) σ' H S F → EqOn is σ σ' → Q σ' H) →
    (is.foldr (fun i u => gCons (gName i) u) gNil) vs σ H Q
  | [], [], vs, env, σ, F, Q, h, m, _, k => by cases h; exact ⟨rfl, k σ m (EqOn.refl _ _)⟩
  | [], _ :: _, _, _, _, _, _, _, _, e, _ => by simp at e
  | _ :: _, [], _, _, _, _, _, _, _, e, _ => by simp at e
  | i :: is, x :: xs, _, env, σ, F, Q, h, m, e, k => by
    obtain ⟨v, ws, rfl, h1, h2⟩ := h
    refine ⟨v, ws, rfl, ?_⟩
    have m2 := m.set (i := i) (h1.frz.toO (G := Emp)) emp_dis emp_dis (fun a x => x.elim)
    have m2 : M K (env.set i (some (frz x))) (σ.set i (some v)) H S F := ⟨m2.en.mono fun a x => x.elim False.elim id, m.dj, m.mu, m.st⟩
    exact gs_sets h2 m2 (by simpa using e) fun σ' m' eq => k σ' m' ((EqOn.set (by simp)).trans (eq.mono fun j hj => by simp [hj]))
theorem g_set {t : CT} {e2 : Env} {Q : St → Hp → Prop} (m : M K env σ H S F) (r : RepO K H S p v f) (fd : Dis f F) (fs : Dis f S) (fm : ∀ a, f a → Mu H a) (h : setT t p env = some e2)
    (k : ∀ σ' F', M K e2 σ' H S F' → Sub F' (Uni F f) → EqOn (asgT t) σ σ' → Q σ' H) : gT K t v σ H Q := by
  match t, h, k with
  | .var i, h, k =>
    cases h
    exact k _ (Uni f F) (m.set r fd fs fm) (fun a x => x.symm) (EqOn.set (by simp [asgT]))
  | .tup is, h, k =>
    unfold setT at h
    match p, h, r with
    | .tup xs, h, r =>
      simp only at h
      split at h
      · rename_i hl
        cases h
        obtain ⟨a, vs, rfl, ha, rs⟩ := r.tup
        exact .inl ⟨a, vs, rfl, SqT.of ha, by rw [← rs.length]; exact hl, gs_sets rs m hl fun σ' m' eq => k σ' F m' (fun a x => .inl x) eq⟩
      · cases h
    | .ktp xs, h, r =>
      simp only at h
      split at h
      · rename_i hl
        cases h
        obtain ⟨a, vs, rfl, ha, rs⟩ := (show RepF K H S (.ktp xs) v from r)
        exact .inl ⟨a, vs, rfl, ha, by rw [← rs.length]; exact hl, gs_sets rs m hl fun σ' m' eq => k σ' F m' (fun a x => .inl x) eq⟩
      · cases h
    | .lst fl xs, h, r =>
      simp only at h
      split at h
      · rename_i hf
        split at h
        · rename_i hl
          cases h
          obtain ⟨a, vs, rfl, ha, rs⟩ := r.flat hf
          exact .inr ⟨a, vs, rfl, .inl (.inl ha), by rw [← rs.length]; exact hl, gs_sets rs m hl fun σ' m' eq => k σ' F m' (fun a x => .inl x) eq⟩
        · cases h
      · cases h
end
end EL

set_option maxRecDepth 100000
/-! EL11: lists that grow; comprehensions -/
namespace EL
open PySem PySem.Spec L2
section
variable {K : PySem.W.Frag} {H H' H0 H1 H2 : Hp} {S S' S0 S1 S2 F F' F0 F1 F2 f f' g G fA fy : AS} {env env' e1 e2 : Env} {σ σ' : St} {p q : PV} {v w y : V}
theorem KeptW.upd {a : Addr} {o : HO} (ha : Mu H a) (hs : ¬ S a) (hg : ¬ G a) : KeptW G H S (upd H a o) S := by
  refine ⟨⟨Sub.refl, fun b u hb e => ?_, fun b u hb e => ?_⟩, fun b u hb e => ?_⟩
  · rw [upd_ne (fun z => by subst z; exact hs hb)]; exact e
  · rw [upd_ne (fun z => by subst z; exact hb ha)]; exact e
  · rw [upd_ne (fun z => by subst z; exact hg hb)]; exact e
theorem Rep1s.app : ∀ {xs : List PV} {vs : List V} {F1 F2 : AS}, Rep1s K H S xs vs F1 → Rep1 K H S p v F2 → Dis F1 F2 → Rep1s K H S (xs ++ [p]) (vs ++ [v]) (Uni F1 F2)
  | [], _, F1, F2, h, r, dj => by
    cases h
    exact ⟨v, [], F2, Emp, rfl, fun a x => .inr x, fun a x => x.elim, fun a x y => y.elim, r, rfl⟩
  | x :: xs, _, F1, F2, h, r, dj => by
    obtain ⟨w, ws, G1, G2, rfl, u1, u2, d2, r1, r2⟩ := h
    exact ⟨w, ws ++ [v], G1, Uni G2 F2, rfl, fun a x => .inl (u1 a x), fun a x => x.imp (u2 a) id, Dis.uni d2 (dj.mono u1 Sub.refl), r1, Rep1s.app r2 r (dj.mono u2 Sub.refl)⟩
def accV (deep : Bool) (acc : List PV) : PV := if deep then .lst .deep acc else .lst .own acc
/-- one item more -/
theorem acc_app {deep : Bool} {acc : List PV} {D : Addr} (h : RepO K H S (accV deep acc) (.ref D) fA) (r : RepO K H S p y fy) (d1 : Dis fA fy) (d2 : Dis fA S) (d3 : Dis fy S) (m1 : ∀ a, fA a → Mu H a) :
    ∃ ws fA' S', H D = some (.lst ws) ∧ ws.length = acc.length ∧ fA D ∧ RepO K (upd H D (.lst (ws ++ [y]))) S' (accV deep (acc ++ [if deep then frz1 p else frz p])) (.ref D) fA' ∧ Sub S S' ∧ Sub S' (Uni S fy) ∧ Sub fA' (Uni fA fy) ∧ Sub fA fA' ∧ Dis fA' S' := by
  cases deep with
  | false =>
    obtain ⟨a, vs, e, ha, hf, rs⟩ := h
    cases e
    have hs : ¬ Uni S fy D := fun x => x.elim (d2 D hf) (d1 D hf)
    have kw : KeptW Emp H (Uni S fy) (upd H D (.lst (vs ++ [y]))) (Uni S fy) := KeptW.upd (m1 D hf) hs id
    have rs' : RepFs K H (Uni S fy) (acc ++ [frz p]) (vs ++ [y]) := (RepFs.kept (.sub_only fun a x => .inl x) _ rs).append ⟨y, [], rfl, r.freeze (fun a x => .inl x) (fun a x => .inr x), rfl⟩
    exact ⟨vs, fA, Uni S fy, ha, rs.length.symm, hf, ⟨D, vs ++ [y], rfl, upd_same, hf, RepFs.kept kw.k _ rs'⟩, fun a x => .inl x, Sub.refl, fun a x => .inl x, Sub.refl, Dis.uni d2 d1⟩
  | true =>
    obtain ⟨a, vs, G1, e, ha, hf, s1, n1, rs⟩ := h
    cases e
    obtain ⟨f1, a1, r1⟩ := Rep1.of r
    have hs : ¬ (S D ∨ fy D ∧ ¬ f1 D) := fun x => x.elim (d2 D hf) fun x => d1 D hf x.1
    have hg : ¬ Uni G1 f1 D := fun x => x.elim n1 fun x => d1 D hf (a1 D x)
    have kw : KeptW (Uni G1 f1) H (fun a => S a ∨ fy a ∧ ¬ f1 a) (upd H D (.lst (vs ++ [y]))) (fun a => S a ∨ fy a ∧ ¬ f1 a) := KeptW.upd (m1 D hf) hs hg
    have rs' : Rep1s K H (fun a => S a ∨ fy a ∧ ¬ f1 a) (acc ++ [frz1 p]) (vs ++ [y]) (Uni G1 f1) := (rs.keptW (.sub_only fun a x => .inl x)).app r1 (fun a x y => d1 a (s1 a x) (a1 a y))
    refine ⟨vs, Uni fA f1, fun a => S a ∨ fy a ∧ ¬ f1 a, ha, rs.get.1, hf, ⟨D, vs ++ [y], Uni G1 f1, rfl, upd_same, .inl hf, fun a x => x.imp (s1 a) id, hg, rs'.keptW kw⟩, fun a x => .inl x, fun a x => x.imp id fun x => x.1, fun a x => x.imp id (a1 a), fun a x => .inl x, ?_⟩
    exact fun a x y => x.elim (fun x => y.elim (d2 a x) fun y => d1 a x y.1) fun x => y.elim (fun y => d3 a (a1 a x) y) fun y => y.2 x
theorem acc_new {deep : Bool} {D : Addr} (hn : H D = none) : RepO K (upd H D (.lst [])) S (accV deep []) (.ref D) (One D) := by
  cases deep with
  | false => exact ⟨D, [], rfl, upd_same, rfl, rfl⟩
  | true => exact ⟨D, [], Emp, rfl, upd_same, rfl, fun a x => x.elim, id, rfl⟩
theorem acc_len {deep : Bool} {acc : List PV} {D : Addr} (h : RepO K H S (accV deep acc) (.ref D) fA) : ∃ ws, H D = some (.lst ws) ∧ ws.length = acc.length ∧ fA D := by
  cases deep with
  | false => obtain ⟨a, vs, e, ha, hf, rs⟩ := h; cases e; exact ⟨vs, ha, rs.length.symm, hf⟩
  | true => obtain ⟨a, vs, G1, e, ha, hf, s1, n1, rs⟩ := h; cases e; exact ⟨vs, ha, rs.get.1, hf⟩
theorem M.ext (m : M K env σ H S F) (hk : ∀ b o, H b = some o → H' b = some o) : M K env σ H' S F ∧ Step H S F H' S F := by
  have kw : KeptW F H S H' S := ⟨Kept.ext hk, fun b o _ e => hk b o e⟩
  refine ⟨⟨m.en.keptW kw, m.dj, fun a x => (m.mu a x).keptW kw x, fun a x e => ?_⟩, fun _ h => h, fun a x => x.elim .inl fun x => .inr (.inl x), fun b o e _ => hk b o e⟩
  cases q : H a with
  | none => exact m.st a x q
  | some o => rw [hk a o q] at e; cases e
/-! ### a comprehension's slots -/
theorem REnv.wipes {σ : St} : ∀ {vs : List Nat} {e : Env}, REnv K H S e σ F → REnv K H S (wipeE e vs) (wipe σ vs) F ∧ (wipeE e vs).length = e.length
  | [], e, h => ⟨h, rfl⟩
  | v :: vs, e, h => by
    obtain ⟨h1, h2⟩ := REnv.wipes (vs := vs) h
    refine ⟨?_, by show ((wipeE e vs).set v none).length = _; rw [List.length_set, h2]⟩
    show REnv K H S ((wipeE e vs).set v none) ((wipe σ vs).set v none) F
    have h3 := h1.wip (i := v)
    refine h3.junk ?_
    by_cases hv : v < (wipeE e vs).length
    · exact slot_set_none hv
    · rw [List.set_eq_of_length_le (by omega)]
      unfold slot; rw [List.getElem?_eq_none (by omega)]; rfl
theorem M.wipes {vs : List Nat} (m : M K env σ H S F) : M K (wipeE env vs) (wipe σ vs) H S F := ⟨(m.en.wipes).1, m.dj, m.mu, m.st⟩
theorem wipe_eq {σ σ' : St} : ∀ {vs : List Nat}, EqOn vs σ σ' → wipe σ' vs = wipe σ vs := by
  intro vs h
  have hl := h.1
  have key : ∀ (vs : List Nat) (σ : St) (i : Nat), (wipe σ vs)[i]? = if i ∈ vs ∧ i < σ.length then some none else σ[i]? := by
    intro vs
    induction vs with
    | nil => intro σ i; simp [wipe]
    | cons v vs ih =>
      intro σ i
      show ((wipe σ vs).set v none)[i]? = _
      have hlen := wipe_length σ vs
      by_cases hv : v = i
      · subst hv
        by_cases hi : v < σ.length
        · rw [List.getElem?_set_self (by omega)]; simp [hi]
        · rw [List.getElem?_eq_none (by rw [List.length_set]; omega), if_neg (by simp [hi]), List.getElem?_eq_none (by omega)]
      · rw [List.getElem?_set_ne hv, ih]
        have : i ∈ v :: vs ↔ i ∈ vs := by simp [show i ≠ v from fun e => hv e.symm]
        simp only [this]
  apply List.ext_getElem?
  intro i
  rw [key, key, hl]
  by_cases hi : i ∈ vs
  · by_cases hi2 : i < σ.length
    · rw [if_pos ⟨hi, hi2⟩, if_pos ⟨hi, hi2⟩]
    · rw [if_neg (fun z => hi2 z.2), if_neg (fun z => hi2 z.2), List.getElem?_eq_none (by omega), List.getElem?_eq_none (by omega)]
  · rw [if_neg (fun z => hi z.1), if_neg (fun z => hi z.1), h.2 i hi]
theorem wipe_wipe (σ : St) (vs : List Nat) : wipe (wipe σ vs) vs = wipe σ vs := by
  refine wipe_eq (σ := σ) (σ' := wipe σ vs) ⟨wipe_length σ vs, fun i hi => ?_⟩
  have : ∀ vs : List Nat, i ∉ vs → (wipe σ vs)[i]? = σ[i]? := by
    intro vs
    induction vs with
    | nil => intro _; rfl
    | cons v vs ih =>
      intro h
      simp only [List.mem_cons, not_or] at h
      show ((wipe σ vs).set v none)[i]? = _
      rw [List.getElem?_set_ne (fun e => h.1 e.symm), ih h.2]
  exact this vs hi
theorem slot_wipeE : ∀ {vs : List Nat} {e : Env} {i : Nat}, i ∈ vs → slot (wipeE e vs) i = none
  | v :: vs, e, i, h => by
    show slot ((wipeE e vs).set v none) i = none
    by_cases hv : v = i
    · subst hv
      by_cases hl : v < (wipeE e vs).length
      · exact slot_set_none hl
      · unfold slot; rw [List.getElem?_eq_none (by rw [List.length_set]; omega)]; rfl
    · have : i ∈ vs := by simpa [show i ≠ v from fun e => hv e.symm] using h
      have q := slot_wipeE (e := e) this
      unfold slot at q ⊢
      rw [List.getElem?_set_ne hv]; exact q
/-- what the slots held comes back -/
theorem REnv.rest {σ : St} {old : Env} : ∀ {vs : List Nat} {E : Env} {s : St}, REnv K H S E s F → vs.Nodup → (∀ v ∈ vs, slot E v = none) → (∀ i, i ∉ vs → s[i]? = σ[i]?) → s.length = σ.length →
    (∀ v ∈ vs, ∀ p, slot old v = some p → ∃ w, σ[v]? = some (some w) ∧ RepF K H S p w ∧ isOwn p = false) → REnv K H S (restE E old vs) σ F
  | [], E, s, h, _, _, he, hl, _ => by
    have : s = σ := List.ext_getElem? fun i => he i (by simp)
    subst this
    exact h
  | v :: vs, E, s, h, nd, hn, he, hl, hr => by
    obtain ⟨n1, n2⟩ := List.nodup_cons.mp nd
    have hE := h.len
    show REnv K H S (restE (E.set v (slot old v)) old vs) σ F
    have other : ∀ (x : Option PV), ∀ j ∈ vs, slot (E.set v x) j = none := fun x j hj => by
      have hvj : v ≠ j := fun z => n1 (z ▸ hj)
      have := hn j (by simp [hj])
      unfold slot at this ⊢
      rw [List.getElem?_set_ne hvj]; exact this
    by_cases hv : v < E.length
    · have hsv : ∀ (x : Option V), (s.set v x)[v]? = some x := fun x => List.getElem?_set_self (by omega)
      cases ho : slot old v with
      | none =>
        have hσ : ∃ x, σ[v]? = some x := ⟨_, List.getElem?_eq_getElem (by omega)⟩
        obtain ⟨x, hx⟩ := hσ
        have h1 := (h.wip (i := v)).junk (x := x) (slot_set_none hv)
        refine REnv.rest h1 n2 (other none) (fun i hi => ?_) (by rw [List.length_set]; exact hl) fun j hj => hr j (by simp [hj])
        by_cases hvi : v = i
        · subst hvi; rw [hsv, hx]
        · rw [List.getElem?_set_ne hvi]; exact he i (by simp [show i ≠ v from fun e => hvi e.symm, hi])
      | some p =>
        obtain ⟨w, hw, rw', hp⟩ := hr v (by simp) p ho
        have h1 := REnv.put (i := v) (p := p) (v := w) (F1 := Emp) h hv (hn v (by simp)) (RepO.of_frz hp rw') emp_dis
        refine REnv.rest (h1.mono fun a x => x.elim False.elim id) n2 (other (some p)) (fun i hi => ?_) (by rw [List.length_set]; exact hl) fun j hj => hr j (by simp [hj])
        by_cases hvi : v = i
        · subst hvi; rw [hsv, hw]
        · rw [List.getElem?_set_ne hvi]; exact he i (by simp [show i ≠ v from fun e => hvi e.symm, hi])
    · rw [List.set_eq_of_length_le (by omega)]
      refine REnv.rest h n2 (fun j hj => hn j (by simp [hj])) (fun i hi => ?_) hl fun j hj => hr j (by simp [hj])
      by_cases hvi : v = i
      · subst hvi; rw [List.getElem?_eq_none (by omega), List.getElem?_eq_none (by omega)]
      · exact he i (by simp [show i ≠ v from fun e => hvi e.symm, hi])
theorem wipeOk_of {ts vs : List Nat} (h : wipeOk env vs ts = true) : vs.Nodup ∧ (∀ v ∈ vs, ∀ p, slot env v = some p → isOwn p = false) ∧ ∀ i ∈ ts, i ∈ vs := by
  unfold wipeOk at h
  rw [Bool.and_eq_true, Bool.and_eq_true] at h
  obtain ⟨⟨h1, h2⟩, h3⟩ := h
  refine ⟨of_decide_eq_true h1, fun v hv p hp => ?_, fun i hi => ?_⟩
  · have := List.all_eq_true.mp h2 v hv
    rw [hp] at this
    simpa using this
  · have := List.all_eq_true.mp h3 i hi
    simpa using this
/-- what was in the slots before -/
theorem M.held {vs : List Nat} (m : M K env σ H S F) (h : ∀ v ∈ vs, ∀ p, slot env v = some p → isOwn p = false) :
    ∀ v ∈ vs, ∀ p, slot env v = some p → ∃ w, σ[v]? = some (some w) ∧ RepF K H S p w ∧ isOwn p = false := fun v hv p hp => by
  obtain ⟨w, F1, F2, hw, s1, s2, dj, r, _⟩ := m.en.take hp
  have ho := h v hv p hp
  exact ⟨w, hw, r.frz_of ho, ho⟩
def rdC (K : PySem.W.Frag) (c : CO) : TT := fun σ H Q => ∃ env S F b env', M K env σ H S F ∧ evC c env = .ok (b, env') ∧ ∀ H' S' F', M K env' σ H' S' F' → Step H S F H' S' F' → Q b H'
theorem rdC_no {σ : St} {H : Hp} {Q : Bool → Hp → Prop} (h : rdC K .no σ H Q) : tYes σ H Q := by
  obtain ⟨env, S, F, o, env', m, he, k⟩ := h
  unfold evC at he
  injection he with he
  injection he with q1 q2
  subst q1; subst q2
  exact k H S F m Step.refl
theorem rdC_yes {c : CE} {σ : St} {H : Hp} {Q : Bool → Hp → Prop} (h : rdC K (.yes c) σ H Q) : rdT K c σ H Q := by
  obtain ⟨env, S, F, o, env', m, he, k⟩ := h
  unfold evC at he
  obtain ⟨⟨x, e1⟩, h1, he⟩ := R.bind_eq_ok he
  obtain ⟨i, h2, he⟩ := R.bind_eq_ok he
  have h2 := R.of_eq_ok h2
  injection he with he
  injection he with q1 q2
  subst q1; subst q2
  match x, h2, h1 with
  | .bl j, h2, h1 =>
    cases h2
    exact ⟨env, S, F, i, e1, m, h1, k⟩
/-- the state of a comprehension's loop -/
structure LI (K : PySem.W.Frag) (H0 : Hp) (S0 F0 : AS) (σw : St) (D : Addr) (deep : Bool) (en : Env) (acc : List PV) (H : Hp) (S F fA : AS) : Prop where
  m : M K en σw H S F
  r : RepO K H S (accV deep acc) (.ref D) fA
  fd : Dis fA F
  fs : Dis fA S
  fm : ∀ a, fA a → Mu H a
  st : Step H0 S0 F0 H S (Uni F fA)
theorem LI.start {deep : Bool} {D : Addr} (m : M K env σ H S F) (hn : H D = none) : LI K H S F σ D deep env [] (upd H D (.lst [])) S F (One D) := by
  have hk : ∀ b o, H b = some o → upd H D (.lst []) b = some o := fun b o e => by rw [upd_ne (ne_of_none e hn)]; exact e
  obtain ⟨m1, s1⟩ := m.ext hk
  refine ⟨m1, acc_new hn, fun a x y => ?_, fun a x y => ?_, fun a x => ?_, ⟨Sub.refl, fun a x => ?_, fun b o e _ => hk b o e⟩⟩
  · have x : a = D := x
    subst x; exact (m.mu a y).ne hn
  · have x : a = D := x
    subst x; exact m.st a y hn
  · have x : a = D := x
    subst x; exact Mu.lst upd_same
  · rcases x with x | x | x
    · exact .inl x
    · exact .inr (.inl x)
    · have x : a = D := x
      subst x; exact .inr (.inr hn)
/-- the rest of the state goes on, the list stays -/
theorem LI.on {deep : Bool} {D : Addr} {en en' : Env} {acc : List PV} {σ' : St} {S1 F1 fA : AS} (L : LI K H0 S0 F0 σ D deep en acc H1 S1 F1 fA) (m : M K en' σ' H2 S2 F2) (t : Step H1 S1 F1 H2 S2 F2) : LI K H0 S0 F0 σ' D deep en' acc H2 S2 F2 fA := by
  have k := L.m.keptW_of t L.fd
  obtain ⟨d1, d2⟩ := t.sep L.fm L.fd L.fs
  refine ⟨m, RepO.keptW k L.r, d1, d2, fun a x => (L.fm a x).keptW k x, ?_⟩
  have t1 : Step H1 S1 (Uni F1 fA) H2 S2 (Uni F2 fA) := t.frame
  exact L.st.trans t1 (Dis.uni L.m.dj L.fs.symm)
theorem LI.app {deep : Bool} {D : Addr} {en : Env} {acc : List PV} (L : LI K H0 S0 F0 σ D deep en acc H S F fA) (r : RepO K H S p y fy) (d1 : Dis fA fy) (d2 : Dis fy F) (d3 : Dis fy S) (m3 : ∀ a, fy a → Mu H a) (t : ∀ a, fy a → S0 a ∨ F0 a ∨ H0 a = none) :
    ∃ ws S' fA', H D = some (.lst ws) ∧ ws.length = acc.length ∧ LI K H0 S0 F0 σ D deep en (acc ++ [if deep then frz1 p else frz p]) (upd H D (.lst (ws ++ [y]))) S' F fA' := by
  obtain ⟨ws, fA', S', hD, hl, hf, r', s1, s2, s3, s4, dj⟩ := acc_app L.r r d1 L.fs d3 L.fm
  have kw : KeptW F H S (upd H D (.lst (ws ++ [y]))) S := KeptW.upd (L.fm D hf) (L.fs D hf) (L.fd D hf)
  have mu' : ∀ a, Mu H a → Mu (upd H D (.lst (ws ++ [y]))) a := fun a x => by
    by_cases e : a = D
    · subst e; exact Mu.lst upd_same
    · unfold Mu at x ⊢; rw [upd_ne e]; exact x
  refine ⟨ws, S', fA', hD, hl, ⟨⟨(L.m.en.keptW kw).keptW (.sub_only s1), fun a x y => ?_, fun a x => mu' a (L.m.mu a x), fun a x => ?_⟩, r', ?_, dj, fun a x => ?_, ⟨fun a x => s1 a (L.st.sub a x), fun a x => ?_, fun b o e hb => ?_⟩⟩⟩
  · exact (s2 a x).elim (fun x => L.m.dj a x y) fun x => d2 a x y
  · by_cases e : a = D
    · subst e; rw [upd_same]; simp
    · rw [upd_ne e]
      exact (s2 a x).elim (L.m.st a) fun x => (m3 a x).ne
  · exact fun a x y => (s3 a x).elim (fun x => L.fd a x y) fun x => d2 a x y
  · exact (s3 a x).elim (fun x => mu' a (L.fm a x)) fun x => mu' a (m3 a x)
  · rcases x with x | x | x
    · exact (s2 a x).elim (fun x => L.st.new a (.inl x)) (t a)
    · exact L.st.new a (.inr (.inl x))
    · exact (s3 a x).elim (fun x => L.st.new a (.inr (.inr x))) (t a)
  · have e1 := L.st.fr b o e hb
    have hbD : b ≠ D := fun z => by
      subst z
      rcases L.st.new b (.inr (.inr hf)) with q | q | q
      · exact L.fs b hf (L.st.sub b q)
      · exact hb q
      · rw [e] at q; cases q
    rw [upd_ne hbD]; exact e1
end
end EL

set_option maxRecDepth 100000
/-! EL12: comprehensions' readings -/
namespace EL
open PySem PySem.Spec L2
section
variable {K : PySem.W.Frag} {H H' H0 H1 H2 : Hp} {S S' S0 S1 S2 F F' F0 F1 F2 f f' g G fA fy : AS} {env env' e1 e2 : Env} {σ σ' : St} {p q : PV} {v w y : V}
theorem EqOn.len_set {A : List Nat} : True := trivial
theorem Walks.later {J : It} {xs : List PV} (w : Walks K J xs H S) (k : Kept H S H' S') : Walks K J xs H' S' := ⟨fun H2 S2 kp => w.stop H2 S2 (k.trans kp), fun H2 S2 kp => w.go H2 S2 (k.trans kp)⟩
theorem LI.kept {deep : Bool} {D : Addr} {en : Env} {acc : List PV} (L : LI K H0 S0 F0 σ D deep en acc H S F fA) (dj : Dis S0 F0) (mu : ∀ a, F0 a → Mu H0 a) : Kept H0 S0 H S := L.st.kept dj mu
theorem LI.restep {deep : Bool} {D : Addr} {en : Env} {acc : List PV} {H0' : Hp} {S0' F0' : AS} (t : Step H0' S0' F0' H0 S0 F0) (dj : Dis S0 F0) (L : LI K H0 S0 F0 σ D deep en acc H S F fA) : LI K H0' S0' F0' σ D deep en acc H S F fA :=
  ⟨L.m, L.r, L.fd, L.fs, L.fm, t.trans L.st dj⟩
/-- a turn of a comprehension -/
def lcB (dp : Bool) (vs : List Nat) (t : CT) (c : CO) (e : CE) (x : PV) (acc : List PV) (en : Env) : R (List PV × Env) := match setT t x en with
  | some e1 => (evC c e1).bind fun q => if q.1 then (ev e q.2).bind fun r => if decide (acc.length < sizeLine) then .ok (acc ++ [if dp then frz1 r.1 else frz r.1], wipeE r.2 vs) else .stuck
      else .ok (acc, wipeE q.2 vs)
  | none => .stuck
theorem lc_body {dp : Bool} {vs : List Nat} {t : CT} {c : CO} {e : CE} {σ : St} {D : Addr} {x : PV} {acc acc2 : List PV} {en en2 : Env} {v : V} {Nx : Hp → Prop}
    (L : LI K H0 S0 F0 (wipe σ vs) D dp en acc H S F fA) (d0 : Dis S0 F0) (rx : RepF K H S x v) (ox : isOwn x = false) (ht : ∀ i ∈ asgT t, i ∈ vs)
    (he : lcB dp vs t c e x acc en = .ok (acc2, en2))
    (k : ∀ H2 S2 F2 fA2, LI K H0 S0 F0 (wipe σ vs) D dp en2 acc2 H2 S2 F2 fA2 → Nx H2) :
    gT K t v (wipe σ vs) H fun σ2 H2 => wipe σ2 vs = wipe σ vs ∧ rdC K c σ2 H2 fun b H3 =>
      if b = true then rdE K e σ2 H3 fun y H4 => ∃ acc, H4 D = some (.lst acc) ∧ acc.length < sizeLine ∧ Nx (upd H4 D (.lst (acc ++ [y]))) else Nx H3 := by
  unfold lcB at he
  cases hs : setT t x en with
  | none => rw [hs] at he; cases he
  | some e1 =>
    rw [hs] at he
    simp only at he
    obtain ⟨⟨b, q⟩, h1, he⟩ := R.bind_eq_ok he
    simp only at he
    refine g_set L.m (RepO.of_frz ox rx (G := Emp)) emp_dis emp_dis (fun a x => x.elim) hs fun σ2 F2 m2 s2 eq => ?_
    have ew : wipe σ2 vs = wipe σ vs := by rw [wipe_eq (eq.mono ht), wipe_wipe]
    refine ⟨ew, e1, S, F2, b, q, m2, h1, fun H3 S3 F3 m3 st3 => ?_⟩
    have L2 : LI K H0 S0 F0 σ2 D dp e1 acc H S F2 fA := L.on m2 (Step.refl.weak fun a x => (s2 a x).elim id False.elim)
    have L3 := L2.on m3 st3
    cases b with
    | false =>
      simp only [Bool.false_eq_true, if_false] at he ⊢
      injection he with he
      injection he with q1 q2
      subst q1; subst q2
      have L4 := L3.on (m3.wipes (vs := vs)) Step.refl
      rw [ew] at L4
      exact k _ _ _ _ L4
    | true =>
      simp only [if_true] at he ⊢
      obtain ⟨⟨r, e5⟩, h5, he⟩ := R.bind_eq_ok he
      obtain ⟨hz, he⟩ := if_ok he
      injection he with he
      injection he with q1 q2
      subst q1; subst q2
      refine ⟨q, S3, F3, r, e5, m3, h5, fun y H4 S4 F4 fy po => ?_⟩
      have L4 := L3.on po.m po.weak
      obtain ⟨d1, d2⟩ := po.st.sep L3.fm L3.fd L3.fs
      have nw : ∀ a, fy a → S0 a ∨ F0 a ∨ H0 a = none := fun a x => by
        have tt := (L3.st.weak (F2 := F3) fun a x => .inl x).trans po.st L3.m.dj
        exact tt.new a (.inr (.inr x))
      obtain ⟨ws, S5, fA5, hD, hl5, L5⟩ := L4.app po.r (d1.mono Sub.refl fun a x => .inr x) po.fd po.fs po.fm nw
      refine ⟨ws, hD, by rw [hl5]; exact of_decide_eq_true hz, ?_⟩
      have L6 := L5.on (L5.m.wipes (vs := vs)) Step.refl
      rw [ew] at L6
      exact k _ _ _ _ L6
theorem LI.restored {dp : Bool} {vs : List Nat} {σ : St} {D : Addr} {acc : List PV} {en old : Env} (L : LI K H0 S0 F0 (wipe σ vs) D dp (wipeE en vs) acc H S F fA) (nd : vs.Nodup)
    (hr : ∀ v ∈ vs, ∀ p, slot old v = some p → ∃ w, σ[v]? = some (some w) ∧ RepF K H S p w ∧ isOwn p = false) : LI K H0 S0 F0 σ D dp (restE (wipeE en vs) old vs) acc H S F fA := by
  refine ⟨⟨?_, L.m.dj, L.m.mu, L.m.st⟩, L.r, L.fd, L.fs, L.fm, L.st⟩
  refine REnv.rest L.m.en nd (fun v hv => slot_wipeE hv) (fun i hi => ?_) (wipe_length σ vs) hr
  have : ∀ vs : List Nat, i ∉ vs → (wipe σ vs)[i]? = σ[i]? := by
    intro vs
    induction vs with
    | nil => intro _; rfl
    | cons v vs ih =>
      intro h
      simp only [List.mem_cons, not_or] at h
      show ((wipe σ vs).set v none)[i]? = _
      rw [List.getElem?_set_ne (fun e => h.1 e.symm), ih h.2]
  exact this vs hi
/-- the frames that the loop goes through are wiped ones -/
theorem loopL_wiped {b : PV → List PV → Env → R (List PV × Env)} {vs : List Nat} (hb : ∀ x acc en acc2 en2, b x acc en = .ok (acc2, en2) → ∃ e, en2 = wipeE e vs) :
    ∀ {xs : List PV} {acc acc2 : List PV} {en en2 : Env}, (∃ e, en = wipeE e vs) → loopL b xs acc en = .ok (acc2, en2) → ∃ e, en2 = wipeE e vs
  | [], acc, acc2, en, en2, h, e => by cases e; exact h
  | x :: xs, acc, acc2, en, en2, h, e => by
    unfold loopL at e
    obtain ⟨⟨a3, e3⟩, h3, e⟩ := R.bind_eq_ok e
    exact loopL_wiped hb (hb x acc en a3 e3 h3) e
theorem lc_wiped {dp : Bool} {vs : List Nat} {t : CT} {c : CO} {e : CE} : ∀ x acc en acc2 en2, lcB dp vs t c e x acc en = .ok (acc2, en2) → ∃ e, en2 = wipeE e vs := fun x acc en acc2 en2 he => by
  unfold lcB at he
  cases hs : setT t x en with
  | none => rw [hs] at he; cases he
  | some e1 =>
    rw [hs] at he
    simp only at he
    obtain ⟨⟨b, q⟩, h1, he⟩ := R.bind_eq_ok he
    cases b with
    | false => simp only [Bool.false_eq_true, if_false] at he; cases he; exact ⟨_, rfl⟩
    | true =>
      simp only [if_true] at he
      obtain ⟨⟨r, e5⟩, h5, he⟩ := R.bind_eq_ok he
      obtain ⟨hz, he⟩ := if_ok he
      cases he
      exact ⟨_, rfl⟩
theorem accV_eq (dp : Bool) (acc : List PV) : (if dp = true then PV.lst .deep acc else .lst .own acc) = accV dp acc := rfl
theorem LI.post {dp : Bool} {D : Addr} {en : Env} {acc : List PV} (L : LI K H0 S0 F0 σ D dp en acc H S F fA) : Post K H0 S0 F0 en σ H S F (accV dp acc) (.ref D) fA := ⟨L.m, L.r, L.fd, L.fs, L.fm, L.st⟩
theorem drop_get {α : Type} {xs : List α} {i : Nat} (h : i < xs.length) : xs.drop i = xs[i] :: xs.drop (i + 1) := List.drop_eq_getElem_cons h
theorem rd_lc {dp : Bool} {vs : List Nat} {t : CT} {it : CI} {c : CO} {e : CE} {σ : St} {H : Hp} {Q : VK} (h : rdE K (.lc dp vs t it c e) σ H Q) : tLc (rdI K it) (gT K t) (rdC K c) (rdE K e) vs σ H Q := by
  obtain ⟨env, S, F, p, env', m, he, k⟩ := h
  unfold ev at he
  obtain ⟨⟨xs, e1⟩, h1, he⟩ := R.bind_eq_ok he
  obtain ⟨hw, he⟩ := if_ok he
  obtain ⟨⟨accE, enE⟩, h2, he⟩ := R.bind_eq_ok he
  injection he with he
  injection he with q1 q2
  rw [accV_eq] at q1
  subst q1; subst q2
  obtain ⟨nd, ho, hts⟩ := wipeOk_of hw
  refine ⟨env, S, F, xs, e1, m, h1, fun J H1 S1 F1 m1 s1 wk D hD => ?_⟩
  have held := m1.held ho
  refine ⟨fun i n H => i ≤ xs.length ∧ n = xs.length - i ∧ ∃ S F fA en acc, LI K H1 S1 F1 (wipe σ vs) D dp en acc H S F fA ∧ (∃ e, en = wipeE e vs) ∧
      loopL (lcB dp vs t c e) (xs.drop i) acc en = .ok (accE, enE), ⟨xs.length, Nat.zero_le _, rfl, S1, F1, One D, wipeE e1 vs, [], LI.start (m1.wipes) hD, ⟨_, rfl⟩, h2⟩, ?_⟩
  rintro i n H2 ⟨hi, rfl, S2, F2, fA, en, acc, L, hen, hl⟩
  have kp := L.kept m1.dj m1.mu
  by_cases hlt : i < xs.length
  · refine .inr ⟨(wk.go H2 S2 kp i xs[i] (List.getElem?_eq_getElem hlt)).1, fun H' => i + 1 ≤ xs.length ∧ ∃ S F fA en acc, LI K H1 S1 F1 (wipe σ vs) D dp en acc H' S F fA ∧ (∃ e, en = wipeE e vs) ∧
      loopL (lcB dp vs t c e) (xs.drop (i + 1)) acc en = .ok (accE, enE), fun H' ⟨a1, a2⟩ => ⟨xs.length - (i + 1), by omega, a1, rfl, a2⟩, fun v H' y => ?_⟩
    rw [drop_get hlt] at hl
    unfold loopL at hl
    obtain ⟨⟨a3, e3⟩, h3, hl⟩ := R.bind_eq_ok hl
    obtain ⟨hk, rf, ox⟩ := (wk.go H2 S2 kp i xs[i] (List.getElem?_eq_getElem hlt)).2 v H' y
    obtain ⟨m2, st2⟩ := L.m.ext hk
    exact lc_body (L.on m2 st2) m1.dj rf ox hts h3 fun H4 S4 F4 fA4 L4 => ⟨hlt, S4, F4, fA4, e3, a3, L4, lc_wiped _ _ _ _ _ h3, hl⟩
  · have e0 : i = xs.length := by omega
    subst e0
    rw [List.drop_length] at hl
    cases hl
    obtain ⟨e0, rfl⟩ := hen
    refine .inl ⟨wk.stop H2 S2 kp, ?_⟩
    have L2 := L.restored nd fun v hv p hp => by
      obtain ⟨w, a1, a2, a3⟩ := held v hv p hp
      exact ⟨w, a1, RepF.kept kp _ a2, a3⟩
    exact k _ H2 S2 F2 fA ((L2.restep s1 m1.dj).post)
end
end EL

set_option maxRecDepth 100000
set_option maxHeartbeats 1000000
/-! EL13: statements' readings -/
namespace EL
open PySem PySem.Spec L2
section
variable {K : PySem.W.Frag} {H H' H0 H1 H2 : Hp} {S S' S0 S1 S2 F F' F0 F1 F2 f f' g G fA fy : AS} {env env' e1 e2 : Env} {σ σ' : St} {p q : PV} {v w y : V}
/-- what is wanted behind a statement that ends so -/
def PostS (K : PySem.W.Frag) (D : Ends) (σ : St) (H : Hp) (S F : AS) (A : List Nat) (fl : Flow) (env' : Env) : Prop := match fl with
  | .nxt => ∀ σ' H' S' F', M K env' σ' H' S' F' → Step H S F H' S' F' → EqOn A σ σ' → D.nx σ' H'
  | .brk => ∀ σ' H' S' F', M K env' σ' H' S' F' → Step H S F H' S' F' → EqOn A σ σ' → D.bk σ' H'
  | .cnt => ∀ σ' H' S' F', M K env' σ' H' S' F' → Step H S F H' S' F' → EqOn A σ σ' → D.ct σ' H'
  | .ret p => ∀ v σ' H' S' F' f, Post K H S F env' σ' H' S' F' p v f → EqOn A σ σ' → D.rt v H'
theorem PostS.after {D : Ends} {A B : List Nat} {fl : Flow} (h : PostS K D σ H S F A fl env') (t : Step H S F H1 S1 F1) (dj : Dis S1 F1) (e : EqOn A σ σ') (hB : ∀ i ∈ B, i ∈ A) : PostS K D σ' H1 S1 F1 B fl env' := by
  cases fl with
  | nxt => exact fun σ2 H2 S2 F2 m s eq => h σ2 H2 S2 F2 m (t.trans s dj) (e.trans (eq.mono hB))
  | brk => exact fun σ2 H2 S2 F2 m s eq => h σ2 H2 S2 F2 m (t.trans s dj) (e.trans (eq.mono hB))
  | cnt => exact fun σ2 H2 S2 F2 m s eq => h σ2 H2 S2 F2 m (t.trans s dj) (e.trans (eq.mono hB))
  | ret p => exact fun v σ2 H2 S2 F2 f po eq => h v σ2 H2 S2 F2 f (po.after t dj) (e.trans (eq.mono hB))
def rdST (K : PySem.W.Frag) (c : CS) : TS := fun D σ H => ∃ env S F fl env', M K env σ H S F ∧ ex c env = .ok (fl, env') ∧ PostS K D σ H S F (asgS c) fl env'
def rdB (K : PySem.W.Frag) (c : CSs) : TS := fun D σ H => ∃ env S F fl env', M K env σ H S F ∧ exs c env = .ok (fl, env') ∧ PostS K D σ H S F (asgB c) fl env'
theorem rd_nil {D : Ends} {σ : St} {H : Hp} (h : rdB K .nil D σ H) : tNext D σ H := by
  obtain ⟨env, S, F, fl, env', m, he, k⟩ := h
  unfold exs at he
  cases he
  exact k σ H S F m Step.refl (EqOn.refl _ _)
theorem rd_cons {s : CS} {r : CSs} {D : Ends} {σ : St} {H : Hp} (h : rdB K (.cons s r) D σ H) : tSeq (rdST K s) (rdB K r) D σ H := by
  obtain ⟨env, S, F, fl, env', m, he, k⟩ := h
  unfold exs at he
  obtain ⟨⟨f1, e1⟩, h1, he⟩ := R.bind_eq_ok he
  have sub1 : ∀ i ∈ asgS s, i ∈ asgB (.cons s r) := fun i hi => by unfold asgB; exact List.mem_append_left _ hi
  have sub2 : ∀ i ∈ asgB r, i ∈ asgB (.cons s r) := fun i hi => by unfold asgB; exact List.mem_append_right _ hi
  refine ⟨env, S, F, f1, e1, m, h1, ?_⟩
  cases f1 with
  | nxt => exact fun σ' H' S' F' m' s' eq => ⟨e1, S', F', fl, env', m', he, k.after s' m'.dj (eq.mono sub1) sub2⟩
  | brk => cases he; exact k.after Step.refl m.dj (EqOn.refl _ _) sub1
  | cnt => cases he; exact k.after Step.refl m.dj (EqOn.refl _ _) sub1
  | ret p => cases he; exact k.after Step.refl m.dj (EqOn.refl _ _) sub1
theorem rd_expr {e : CE} {D : Ends} {σ : St} {H : Hp} (h : rdST K (.expr e) D σ H) : tDrop (rdE K e) D σ H := by
  obtain ⟨env, S, F, fl, env', m, he, k⟩ := h
  unfold ex at he
  obtain ⟨⟨x, e1⟩, h1, he⟩ := R.bind_eq_ok he
  cases he
  exact ⟨env, S, F, x, e1, m, h1, fun v H' S' F' f po => k σ H' S' F' po.m po.weak (EqOn.refl _ _)⟩
theorem rd_asg {t : CT} {e : CE} {D : Ends} {σ : St} {H : Hp} (h : rdST K (.asg t e) D σ H) : tAsg (rdE K e) (gT K t) D σ H := by
  obtain ⟨env, S, F, fl, env', m, he, k⟩ := h
  unfold ex at he
  obtain ⟨⟨x, e1⟩, h1, he⟩ := R.bind_eq_ok he
  simp only at he
  cases hs : setT t x e1 with
  | none => rw [hs] at he; cases he
  | some e2 =>
    rw [hs] at he
    cases he
    refine ⟨env, S, F, x, e1, m, h1, fun v H' S' F' f po => ?_⟩
    refine g_set po.m po.r po.fd po.fs po.fm hs fun σ' F2 m' s' eq => ?_
    exact k σ' H' S' F2 m' (po.st.weak s') eq
theorem rd_par {i j : Nat} {a b : CE} {D : Ends} {σ : St} {H : Hp} (h : rdST K (.par i j a b) D σ H) : tPar i j (tCons (rdE K a) (tCons (rdE K b) tNil)) D σ H := by
  obtain ⟨env, S, F, fl, env', m, he, k⟩ := h
  unfold ex at he
  obtain ⟨⟨x, e1⟩, h1, he⟩ := R.bind_eq_ok he
  obtain ⟨⟨z, e2⟩, h2, he⟩ := R.bind_eq_ok he
  cases he
  refine ⟨env, S, F, x, e1, m, h1, fun v H1 S1 F1 f1 p1 => ⟨e1, S1, F1, z, e2, p1.m, h2, fun w H2 S2 F2 f2 p2 => ⟨v, w, rfl, ?_⟩⟩⟩
  have kw := p1.m.keptW_of p2.st p1.fd
  obtain ⟨d1, d2⟩ := p2.st.sep p1.fm p1.fd p1.fs
  have m1 := p2.m.set (i := i) (RepO.keptW kw p1.r) (d1.mono Sub.refl fun a x => .inl x) d2 (fun a x => (p1.fm a x).keptW kw x)
  have m2 := m1.set (i := j) p2.r (Dis.uni (fun a x y => d1 a y (.inr x)) p2.fd) p2.fs p2.fm
  refine k _ H2 S2 _ m2 ?_ ((EqOn.set (by simp [asgS])).trans (EqOn.set (by simp [asgS])))
  have t := (p1.st.weak (F2 := F1) fun a x => .inl x).trans p2.st p1.m.dj
  refine ⟨t.sub, fun a x => ?_, t.fr⟩
  rcases x with x | x | x | x
  · exact t.new a (.inl x)
  · exact t.new a (.inr (.inr x))
  · exact p1.st.new a (.inr (.inr x))
  · exact t.new a (.inr (.inl x))
theorem rd_ret {e : CE} {D : Ends} {σ : St} {H : Hp} (h : rdST K (.ret (.yes e)) D σ H) : tRet (rdE K e) D σ H := by
  obtain ⟨env, S, F, fl, env', m, he, k⟩ := h
  unfold ex at he
  obtain ⟨⟨x, e1⟩, h1, he⟩ := R.bind_eq_ok he
  cases he
  exact ⟨env, S, F, x, e1, m, h1, fun v H' S' F' f po => k v σ H' S' F' f po (EqOn.refl _ _)⟩
theorem rd_retN {D : Ends} {σ : St} {H : Hp} (h : rdST K (.ret .no) D σ H) : tRetN D σ H := by
  obtain ⟨env, S, F, fl, env', m, he, k⟩ := h
  unfold ex at he
  cases he
  exact k .non σ H S F Emp ((New.sc (show RepF K H S .non .non from rfl) rfl).post m) (EqOn.refl _ _)
theorem rd_if {c : CE} {a b : CSs} {D : Ends} {σ : St} {H : Hp} (h : rdST K (.ite c a b) D σ H) : tIfS (rdT K c) (rdB K a) (rdB K b) D σ H := by
  obtain ⟨env, S, F, fl, env', m, he, k⟩ := h
  unfold ex at he
  obtain ⟨c, e1, h1, hr⟩ := bl_ok (t := fun e => exs a e) (e := fun e => exs b e) he
  refine ⟨env, S, F, c, e1, m, h1, fun H1 S1 F1 m1 s1 => ?_⟩
  cases c with
  | true =>
    rw [if_pos rfl] at hr ⊢
    exact ⟨e1, S1, F1, fl, env', m1, hr, k.after s1 m1.dj (EqOn.refl _ _) fun i hi => by unfold asgS; exact List.mem_append_left _ hi⟩
  | false =>
    rw [if_neg (by simp)] at hr ⊢
    exact ⟨e1, S1, F1, fl, env', m1, hr, k.after s1 m1.dj (EqOn.refl _ _) fun i hi => by unfold asgS; exact List.mem_append_right _ hi⟩
theorem rd_brk {D : Ends} {σ : St} {H : Hp} (h : rdST K .brk D σ H) : tBreak D σ H := by
  obtain ⟨env, S, F, fl, env', m, he, k⟩ := h
  unfold ex at he; cases he
  exact k σ H S F m Step.refl (EqOn.refl _ _)
theorem rd_cnt {D : Ends} {σ : St} {H : Hp} (h : rdST K .cnt D σ H) : tCont D σ H := by
  obtain ⟨env, S, F, fl, env', m, he, k⟩ := h
  unfold ex at he; cases he
  exact k σ H S F m Step.refl (EqOn.refl _ _)
theorem rd_pass {D : Ends} {σ : St} {H : Hp} (h : rdST K .pass D σ H) : tNext D σ H := by
  obtain ⟨env, S, F, fl, env', m, he, k⟩ := h
  unfold ex at he; cases he
  exact k σ H S F m Step.refl (EqOn.refl _ _)
theorem rd_whl {c : CE} {b : CSs} {D : Ends} {σ : St} {H : Hp} (h : rdST K (.whl c b) D σ H) : tWhile (rdT K c) (rdB K b) D σ H := by
  obtain ⟨env, S, F, fl, env', m, he, k⟩ := h
  unfold ex at he
  have he : loopW (fun e => ev c e) (fun e => exs b e) FUEL env = .ok (fl, env') := he
  refine ⟨fun n σ1 H1 => ∃ e1 S1 F1, M K e1 σ1 H1 S1 F1 ∧ Step H S F H1 S1 F1 ∧ EqOn (asgB b) σ σ1 ∧ loopW (fun e => ev c e) (fun e => exs b e) n e1 = .ok (fl, env'), ⟨FUEL, env, S, F, m, Step.refl, EqOn.refl _ _, he⟩, ?_⟩
  rintro n σ1 H1 ⟨e1, S1, F1, m1, s1, q1, hl⟩
  cases n with
  | zero => unfold loopW at hl; cases hl
  | succ n =>
    unfold loopW at hl
    obtain ⟨⟨x, e2⟩, h2, hl⟩ := R.bind_eq_ok hl
    match x, h2, hl with
    | .bl true, h2, hl =>
      refine ⟨e1, S1, F1, true, e2, m1, h2, fun H2 S2 F2 m2 s2 => ?_⟩
      refine iteT ?_
      simp only at hl
      obtain ⟨⟨f3, e3⟩, h3, hl⟩ := R.bind_eq_ok hl
      have s12 := s1.trans s2 m1.dj
      refine ⟨fun σ3 H3 => ∃ e3 S3 F3, M K e3 σ3 H3 S3 F3 ∧ Step H S F H3 S3 F3 ∧ EqOn (asgB b) σ σ3 ∧ loopW (fun e => ev c e) (fun e => exs b e) n e3 = .ok (fl, env'), fun σ3 H3 h => ⟨n, Nat.lt_succ_self _, h⟩, e2, S2, F2, f3, e3, m2, h3, ?_⟩
      cases f3 with
      | nxt => exact fun σ3 H3 S3 F3 m3 s3 q3 => ⟨e3, S3, F3, m3, s12.trans s3 m2.dj, q1.trans q3, hl⟩
      | cnt => exact fun σ3 H3 S3 F3 m3 s3 q3 => ⟨e3, S3, F3, m3, s12.trans s3 m2.dj, q1.trans q3, hl⟩
      | brk => cases hl; exact fun σ3 H3 S3 F3 m3 s3 q3 => k σ3 H3 S3 F3 m3 (s12.trans s3 m2.dj) (q1.trans q3)
      | ret p => cases hl; exact fun v σ3 H3 S3 F3 f po q3 => k v σ3 H3 S3 F3 f (po.after s12 m2.dj) (q1.trans q3)
    | .bl false, h2, hl =>
      cases hl
      refine ⟨e1, S1, F1, false, _, m1, h2, fun H2 S2 F2 m2 s2 => ?_⟩
      refine iteF ?_
      exact k σ1 H2 S2 F2 m2 (s1.trans s2 m1.dj) q1
/-- a turn of a for -/
def forB (t : CT) (b : CSs) (x : PV) (en : Env) : R (Flow × Env) := match setT t x en with
  | some e1 => exs b e1
  | none => .stuck
theorem rd_for {t : CT} {it : CI} {b : CSs} {D : Ends} {σ : St} {H : Hp} (h : rdST K (.for_ t it b) D σ H) : tFor (rdI K it) (gT K t) (rdB K b) D σ H := by
  obtain ⟨env, S, F, fl, env', m, he, k⟩ := h
  unfold ex at he
  obtain ⟨⟨xs, e1⟩, h1, he⟩ := R.bind_eq_ok he
  have he : loopF (forB t b) xs e1 = .ok (fl, env') := he
  refine ⟨env, S, F, xs, e1, m, h1, fun J H1 S1 F1 m1 s1 wk => ?_⟩
  refine ⟨fun i n σ2 H2 => i ≤ xs.length ∧ n = xs.length - i ∧ ∃ e2 S2 F2, M K e2 σ2 H2 S2 F2 ∧ Step H1 S1 F1 H2 S2 F2 ∧ EqOn (asgT t ++ asgB b) σ σ2 ∧ loopF (forB t b) (xs.drop i) e2 = .ok (fl, env'), ⟨xs.length, Nat.zero_le _, rfl, e1, S1, F1, m1, Step.refl, EqOn.refl _ _, he⟩, ?_⟩
  rintro i n σ2 H2 ⟨hi, rfl, e2, S2, F2, m2, s2, q2, hl⟩
  have kp := s2.kept m1.dj m1.mu
  by_cases hlt : i < xs.length
  · refine .inr ⟨(wk.go H2 S2 kp i xs[i] (List.getElem?_eq_getElem hlt)).1, fun σ3 H3 => i + 1 ≤ xs.length ∧ ∃ e2 S2 F2, M K e2 σ3 H3 S2 F2 ∧ Step H1 S1 F1 H3 S2 F2 ∧ EqOn (asgT t ++ asgB b) σ σ3 ∧ loopF (forB t b) (xs.drop (i + 1)) e2 = .ok (fl, env'),
      fun σ3 H3 ⟨a1, a2⟩ => ⟨xs.length - (i + 1), by omega, a1, rfl, a2⟩, fun v H' yl => ?_⟩
    rw [drop_get hlt] at hl
    unfold loopF at hl
    obtain ⟨⟨f3, e3⟩, h3, hl⟩ := R.bind_eq_ok hl
    obtain ⟨hk, rf, ox⟩ := (wk.go H2 S2 kp i xs[i] (List.getElem?_eq_getElem hlt)).2 v H' yl
    obtain ⟨m3, s3⟩ := m2.ext hk
    unfold forB at h3
    cases hs : setT t xs[i] e2 with
    | none => rw [hs] at h3; cases h3
    | some e4 =>
      rw [hs] at h3
      refine g_set m3 (RepO.of_frz ox rf (G := Emp)) emp_dis emp_dis (fun a x => x.elim) hs fun σ4 F4 m4 sub4 q4 => ?_
      have s4 : Step H1 S1 F1 H' S2 F4 := (s2.trans s3 m2.dj).weak fun a x => (sub4 a x).elim id False.elim
      have q4' : EqOn (asgT t ++ asgB b) σ σ4 := q2.trans (q4.mono fun j hj => List.mem_append_left _ hj)
      have sb : ∀ j ∈ asgB b, j ∈ asgT t ++ asgB b := fun j hj => List.mem_append_right _ hj
      refine ⟨e4, S2, F4, f3, e3, m4, h3, ?_⟩
      cases f3 with
      | nxt => exact fun σ5 H5 S5 F5 m5 s5 q5 => ⟨hlt, e3, S5, F5, m5, s4.trans s5 m4.dj, q4'.trans (q5.mono sb), hl⟩
      | cnt => exact fun σ5 H5 S5 F5 m5 s5 q5 => ⟨hlt, e3, S5, F5, m5, s4.trans s5 m4.dj, q4'.trans (q5.mono sb), hl⟩
      | brk => cases hl; exact fun σ5 H5 S5 F5 m5 s5 q5 => k σ5 H5 S5 F5 m5 (s1.trans (s4.trans s5 m4.dj) m1.dj) (q4'.trans (q5.mono sb))
      | ret p => cases hl; exact fun v σ5 H5 S5 F5 f po q5 => k v σ5 H5 S5 F5 f (po.after (s1.trans s4 m1.dj) m4.dj) (q4'.trans (q5.mono sb))
  · have e0 : i = xs.length := by omega
    subst e0
    rw [List.drop_length] at hl
    cases hl
    exact .inl ⟨wk.stop H2 S2 kp, k σ2 H2 S2 F2 m2 (s1.trans s2 m1.dj) q2⟩
/-! ### stores -/
theorem RepO.ref_own {fl : Fl} {xs : List PV} (h : RepO K H S (.lst fl xs) v f) : ∃ a, v = .ref a := by
  match fl, h with
  | .own, h => obtain ⟨a, vs, e, _⟩ := h; exact ⟨a, e⟩
  | .deep, h => obtain ⟨a, vs, G1, e, _⟩ := h; exact ⟨a, e⟩
  | .frz, h => obtain ⟨a, vs, e, _⟩ := (show RepF K H S (.lst .frz xs) v from h); exact ⟨a, e⟩
  | .ro, h => obtain ⟨a, vs, e, _⟩ := (show RepF K H S (.lst .ro xs) v from h); exact ⟨a, e⟩
/-- one owned object of the frame is changed, and stands in its slot as q -/
theorem M.change {i : Nat} {a : Addr} {o : HO} {q : PV} {fN : AS} (m : M K env σ H S F) (hs : slot env i = some p) (hv : σ[i]? = some (some v)) (he : REnv K H S (env.set i none) σ F2) (dj : Dis F1 F2) (s1 : Sub F1 F) (s2 : Sub F2 F)
    (ha : F1 a) (mo : Mu (upd H a o) a) (sS : Sub S S') (dS : Dis S' F2) (dN : Dis fN F2) (dSN : Dis S' fN) (muN : ∀ b, fN b → Mu (upd H a o) b) (stS : ∀ b, S' b → upd H a o b ≠ none) (r : RepO K (upd H a o) S' q v fN) :
    M K (env.set i (some q)) σ (upd H a o) S' (Uni fN F2) := by
  have kw : KeptW F2 H S (upd H a o) S := KeptW.upd (m.mu a (s1 a ha)) (fun x => m.dj a x (s1 a ha)) (fun x => dj a ha x)
  have h1 := (he.keptW kw).keptW (.sub_only sS)
  have h2 := REnv.putV (i := i) h1 (slot_len hs) hv r dN
  refine ⟨h2, Dis.uni dSN dS, fun b x => x.elim (muN b) fun x => (m.mu b (s2 b x)).keptW kw x, stS⟩
theorem upd_ne_none {a b : Addr} {o : HO} (h : H b ≠ none) : upd H a o b ≠ none := by
  by_cases e : b = a
  · subst e; rw [upd_same]; simp
  · rw [upd_ne e]; exact h
theorem mu_upd {a b : Addr} {o : HO} (mo : Mu (upd H a o) a) (h : Mu H b) : Mu (upd H a o) b := by
  by_cases e : b = a
  · subst e; exact mo
  · unfold Mu at h ⊢; rw [upd_ne e]; exact h
theorem step_upd {a : Addr} {o : HO} {fN : AS} (ha : F a) (h1 : Sub S S') (h2 : ∀ b, S' b ∨ fN b → S b ∨ F b) (hF : Sub F2 F) : Step H S F (upd H a o) S' (Uni fN F2) :=
  ⟨h1, fun b x => by
    rcases x with x | x | x
    · exact (h2 b (.inl x)).imp id .inl
    · exact (h2 b (.inr x)).imp id .inl
    · exact .inr (.inl (hF b x)), fun b u e hb => by rw [upd_ne (fun z => by subst z; exact hb ha)]; exact e⟩
theorem app_ok {i : Nat} {dp : Bool} {xs : List PV} (po : Post K H S F env σ H1 S1 F1 p y f) (hs : slot env i = some (accV dp xs)) (hv : σ[i]? = some (some v)) :
    ∃ a ws S2 F2, v = .ref a ∧ H1 a = some (.lst ws) ∧ ws.length = xs.length ∧ M K (env.set i (some (accV dp (xs ++ [if dp then frz1 p else frz p])))) σ (upd H1 a (.lst (ws ++ [y]))) S2 F2 ∧ Step H S F (upd H1 a (.lst (ws ++ [y]))) S2 F2 := by
  obtain ⟨v', G1, G2, hv', s1, s2, dj, r, he⟩ := po.m.en.take hs
  rw [hv] at hv'
  cases hv'
  obtain ⟨a, rfl⟩ : ∃ a, v = .ref a := by
    cases dp with
    | false => exact RepO.ref_own (show RepO K H1 S1 (.lst .own xs) v G1 from r)
    | true => exact RepO.ref_own (show RepO K H1 S1 (.lst .deep xs) v G1 from r)
  have dS : Dis G1 S1 := (po.m.dj.mono Sub.refl s1).symm
  have dF : Dis G1 f := fun b x z => po.fd b z (s1 b x)
  obtain ⟨ws, fN, S2, hD, hl, hf, r2, t1, t2, t3, t4, t5⟩ := acc_app r po.r dF dS po.fs (fun b x => po.m.mu b (s1 b x))
  refine ⟨a, ws, S2, Uni fN G2, rfl, hD, hl, ?_, ?_⟩
  · refine po.m.change hs hv he dj s1 s2 hf (Mu.lst upd_same) t1 ?_ ?_ t5.symm ?_ ?_ r2
    · exact fun b x z => (t2 b x).elim (fun x => po.m.dj b x (s2 b z)) fun x => po.fd b x (s2 b z)
    · exact fun b x z => (t3 b x).elim (fun x => dj b x z) fun x => po.fd b x (s2 b z)
    · exact fun b x => mu_upd (Mu.lst upd_same) ((t3 b x).elim (fun x => po.m.mu b (s1 b x)) (po.fm b))
    · exact fun b x => upd_ne_none ((t2 b x).elim (po.m.st b) fun x => (po.fm b x).ne)
  · have t : Step H1 S1 (Uni F1 f) (upd H1 a (.lst (ws ++ [y]))) S2 (Uni fN G2) := step_upd (.inl (s1 a hf)) t1 (fun b x => by
      rcases x with x | x
      · exact (t2 b x).imp id .inr
      · exact .inr ((t3 b x).imp (s1 b) id)) (fun b x => .inl (s2 b x))
    exact po.st.trans t (Dis.uni po.m.dj po.fs.symm)
theorem ownL_of {i : Nat} (h : ownL (slot env i) = true) : ∃ dp xs, slot env i = some (accV dp xs) := by
  unfold ownL at h
  split at h
  · rename_i xs e; exact ⟨false, xs, e⟩
  · rename_i xs e; exact ⟨true, xs, e⟩
  · cases h
theorem M.acc {i : Nat} {dp : Bool} {xs : List PV} (m : M K env σ H S F) (h : slot env i = some (accV dp xs)) : ∃ a ws, σ[i]? = some (some (.ref a)) ∧ H a = some (.lst ws) := by
  obtain ⟨v, G1, G2, hv, s1, s2, dj, r, he⟩ := m.en.take h
  cases dp with
  | false => obtain ⟨a, vs, rfl, ha, _⟩ := (show RepO K H S (.lst .own xs) v G1 from r); exact ⟨a, vs, hv, ha⟩
  | true => obtain ⟨a, vs, G, rfl, ha, _⟩ := (show RepO K H S (.lst .deep xs) v G1 from r); exact ⟨a, vs, hv, ha⟩
theorem rd_app {i : Nat} {e : CE} {D : Ends} {σ : St} {H : Hp} (h : rdST K (.app i e) D σ H) : tDrop (tBM K "list" rAppend (tVar i) (tCons (rdE K e) tNil)) D σ H := by
  obtain ⟨env, S, F, fl, env', m, he, k⟩ := h
  unfold ex at he
  obtain ⟨ho, he⟩ := if_ok he
  obtain ⟨⟨x, e1⟩, h1, he⟩ := R.bind_eq_ok he
  obtain ⟨dp0, xs0, h0⟩ := ownL_of ho
  obtain ⟨a, ws0, hv, ha⟩ := m.acc h0
  refine ⟨.ref a, hv, .inl ⟨rfl, ws0, .inl (.inl ha)⟩, env, S, F, x, e1, m, h1, fun y H1 S1 F1 f po => ?_⟩
  have fin : ∀ dp xs, slot e1 i = some (accV dp xs) → xs.length < sizeLine → (fl, env') = (.nxt, e1.set i (some (accV dp (xs ++ [if dp then frz1 x else frz x])))) →
      rAppend (.ref a) [y] H1 (fun _ H1 => D.nx σ H1) := fun dp xs hs hl e => by
    obtain ⟨a', ws, S2, F2, ea, hw, hlw, m2, s2⟩ := app_ok po hs hv
    cases ea
    cases e
    exact ⟨a, ws, y, rfl, rfl, hw, by rw [hlw]; exact hl, k σ _ S2 F2 m2 s2 (EqOn.refl _ _)⟩
  simp only at he
  split at he
  · rename_i xs hs
    obtain ⟨hl, he⟩ := if_ok he
    injection he with he
    exact fin false xs hs (of_decide_eq_true hl) he.symm
  · rename_i xs hs
    obtain ⟨hl, he⟩ := if_ok he
    injection he with he
    exact fin true xs hs (of_decide_eq_true hl) he.symm
  · cases he
theorem rd_ext {i : Nat} {e : CE} {D : Ends} {σ : St} {H : Hp} (h : rdST K (.ext i e) D σ H) : tDrop (tBM K "list" rExtend (tVar i) (tCons (rdE K e) tNil)) D σ H := by
  obtain ⟨env, S, F, fl, env', m, he, k⟩ := h
  unfold ex at he
  obtain ⟨ho, he⟩ := if_ok he
  obtain ⟨⟨x, e1⟩, h1, he⟩ := R.bind_eq_ok he
  obtain ⟨dp0, xs0, h0⟩ := ownL_of ho
  obtain ⟨a, ws0, hv, ha⟩ := m.acc h0
  refine ⟨.ref a, hv, .inl ⟨rfl, ws0, .inl (.inl ha)⟩, env, S, F, x, e1, m, h1, fun y H1 S1 F1 f po => ?_⟩
  simp only at he
  split at he
  · rename_i xs f2 ys hs
    obtain ⟨hl, he⟩ := if_ok he
    rw [Bool.and_eq_true] at hl
    cases he
    obtain ⟨v', G1, G2, hv', s1, s2, dj, r, hen⟩ := po.m.en.take hs
    rw [hv] at hv'
    cases hv'
    obtain ⟨a', vs, ea, ha', hf, rs⟩ := (show RepO K H1 S1 (.lst .own xs) (.ref a) G1 from r)
    cases ea
    obtain ⟨b, zs, rfl, hb, rz⟩ := po.r.flat hl.1
    -- what the other list holds is frozen already; the list itself is let go
    have dS : ¬ S1 a := fun x => po.m.dj a x (s1 a hf)
    have kw : KeptW Emp H1 S1 (upd H1 a (.lst (vs ++ zs))) S1 := KeptW.upd (Mu.lst ha') dS id
    have m2 := po.m.change (q := .lst .own (xs ++ ys)) (o := .lst (vs ++ zs)) (fN := G1) hs hv hen dj s1 s2 hf (Mu.lst upd_same) Sub.refl (po.m.dj.mono Sub.refl s2) dj (po.m.dj.mono Sub.refl s1)
      (fun b x => mu_upd (Mu.lst upd_same) (po.m.mu b (s1 b x))) (fun b x => upd_ne_none (po.m.st b x)) ⟨a, _, rfl, upd_same, hf, RepFs.kept kw.k _ (rs.append rz)⟩
    refine ⟨a, b, vs, zs, rfl, rfl, ha', hb, by rw [← rs.length, ← rz.length]; exact of_decide_eq_true hl.2, k σ _ S1 _ m2 ?_ (EqOn.refl _ _)⟩
    have t : Step H1 S1 (Uni F1 f) (upd H1 a (.lst (vs ++ zs))) S1 (Uni G1 G2) := step_upd (.inl (s1 a hf)) Sub.refl (fun b x => x.imp id fun x => .inl (s1 b x)) (fun b x => .inl (s2 b x))
    exact po.st.trans t (Dis.uni po.m.dj po.fs.symm)
  · cases he
/-- x[k] = v -/
def rSet (K : PySem.W.Frag) : TSet := fun o i v H Q => ∃ (S : AS) (c q p z : PV) (f g fv : AS) (a : Addr), o = .ref a ∧ RepO K H S c o f ∧ isOwn c = true ∧ RepO K H S q i g ∧ RepF K H S (frz p) v ∧ stiP c q p = some z ∧ ¬ S a ∧ f a ∧
  ∀ ob, Mu (upd H a ob) a → RepO K (upd H a ob) S z o f → Q (upd H a ob)
theorem set_any {X : Cx} (hu : X.A.units + 66 < cLine) : PSet X (rSet X.K) := by
  intro pins s σ H o i v ov iv u Q I ro ri rv h
  obtain ⟨S, c, q, p, z, f, g, fv, a, rfl, hc, oc, hq, hp, e, hS, hf, k⟩ := h
  unfold stiP at e
  split at e
  · rename_i xs
    obtain ⟨b, vs, eb, hb, hfb, rs⟩ := hc
    cases eb
    unfold setIx at e
    split at e
    · rename_i j
      split at e
      · rename_i n hn
        cases e
        cases hq
        have kw : KeptW Emp H S (upd H a (.lst (vs.set n v))) S := KeptW.upd (Mu.lst hb) hS id
        exact set_list pins s σ H _ _ _ _ _ _ Q I ro ri rv ⟨a, vs, j, n, rfl, rfl, hb, by rw [← rs.length]; exact hn, k _ (Mu.lst upd_same) ⟨a, _, rfl, upd_same, hfb, RepFs.kept kw.k _ (rs.set hp)⟩⟩
      · cases e
    · cases e
  · rename_i d kvs
    obtain ⟨b, ks, eb, hb, hfb, rk⟩ := hc
    cases eb
    split at e
    · rename_i k1 hk
      obtain ⟨hl, rfl⟩ := some_if e
      obtain ⟨ob, g1, g2⟩ := hb.put (v := v) hk hq (by rw [← rk.length]; exact of_decide_eq_true hl)
      cases ro
      have kw : KeptW Emp H S (upd H a ob) S := KeptW.upd hb.mu hS id
      exact d_setItem (by omega) I g1 ri rv fun s' I' => ⟨_, I', k ob g2.mu ⟨a, _, rfl, g2, hfb, RepKs.kept kw.k _ (rk.put hp k1)⟩⟩
    · cases e
  · cases e
theorem stiP_own {c k v z : PV} (h : stiP c k v = some z) : isOwn c = true := by
  unfold stiP at h
  split at h
  · rfl
  · rfl
  · cases h
theorem RepO.addr {c : PV} (h : RepO K H S c v f) (ho : isOwn c = true) : ∃ a, v = .ref a ∧ f a ∧ Mu H a := by
  cases c with
  | lst fl xs =>
    cases fl with
    | own => obtain ⟨a, vs, e, ha, hf, _⟩ := h; exact ⟨a, e, hf, Mu.lst ha⟩
    | deep => obtain ⟨a, vs, G, e, ha, hf, _⟩ := h; exact ⟨a, e, hf, Mu.lst ha⟩
    | frz => cases ho
    | ro => cases ho
  | dic fl d kvs =>
    cases fl with
    | own => obtain ⟨a, vs, e, ha, hf, _⟩ := h; exact ⟨a, e, hf, ha.mu⟩
    | deep => exact h.elim
    | frz => cases ho
    | ro => cases ho
  | _ => cases ho
theorem rd_sti {i : Nat} {kx e : CE} {D : Ends} {σ : St} {H : Hp} (h : rdST K (.sti i kx e) D σ H) : tAsg (rdE K e) (gSub (tVar i) (rdE K kx) (rSet K)) D σ H := by
  obtain ⟨env, S, F, fl, env', m, he, k⟩ := h
  unfold ex at he
  obtain ⟨⟨x, e1⟩, h1, he⟩ := R.bind_eq_ok he
  simp only at he
  refine ⟨env, S, F, x, e1, m, h1, fun v H1 S1 F1 f1 p1 => ?_⟩
  split at he
  · rename_i c0 hs0
    obtain ⟨⟨q, e2⟩, h2, he⟩ := R.bind_eq_ok he
    obtain ⟨w0, _, _, hw0, _⟩ := p1.m.en.take hs0
    refine ⟨w0, hw0, e1, S1, F1, q, e2, p1.m, h2, fun y H2 S2 F2 f2 p2 => ?_⟩
    simp only at he
    split at he
    · rename_i c hs
      obtain ⟨z, hz, he⟩ := R.bind_eq_ok he
      have hz := R.of_eq_ok hz
      cases he
      obtain ⟨w, G1, G2, hw, s1, s2, dj, r, hen⟩ := p2.m.en.take hs
      rw [hw0] at hw
      cases hw
      have oc := stiP_own hz
      obtain ⟨a, rfl, hf, hmu⟩ := r.addr oc
      have kw := p1.m.keptW_of p2.st p1.fd
      obtain ⟨d1, d2⟩ := p2.st.sep p1.fm p1.fd p1.fs
      -- the value, and the key's garbage, are made stable
      have rv := (RepO.keptW kw p1.r).freeze (S' := Uni S2 (Uni f1 f2)) (fun a x => .inl x) (fun a x => .inr (.inl x))
      have nS : ¬ Uni S2 (Uni f1 f2) a := fun x => by
        rcases x with x | x | x
        · exact p2.m.dj a x (s1 a hf)
        · exact d1 a x (.inl (s1 a hf))
        · exact p2.fd a x (s1 a hf)
      have sub : Sub S2 (Uni S2 (Uni f1 f2)) := fun a x => .inl x
      refine ⟨Uni S2 (Uni f1 f2), c, q, x, z, G1, f2, Emp, a, rfl, r.keptW (.sub_only sub), oc, p2.r.keptW (.sub_only sub), rv, hz, nS, hf, fun ob mo rz => ?_⟩
      have mf1 : ∀ b, f1 b → Mu H2 b := fun b x => (p1.fm b x).keptW kw x
      have m2 := p2.m.change (q := z) (o := ob) (fN := G1) (S' := Uni S2 (Uni f1 f2)) hs hw0 hen dj s1 s2 hf mo sub ?_ dj ?_ ?_ ?_ rz
      · refine k σ _ _ _ m2 ?_ (EqOn.refl _ _)
        have t : Step H2 S2 (Uni (Uni F2 f2) f1) (upd H2 a ob) (Uni S2 (Uni f1 f2)) (Uni G1 G2) := step_upd (.inl (.inl (s1 a hf))) sub (fun b x => by
          rcases x with (x | x | x) | x
          · exact .inl x
          · exact .inr (.inr x)
          · exact .inr (.inl (.inr x))
          · exact .inr (.inl (.inl (s1 b x)))) (fun b x => .inl (.inl (s2 b x)))
        have t1 : Step H1 S1 (Uni F1 f1) H2 S2 (Uni (Uni F2 f2) f1) := p2.st.frame
        have dd : Dis S2 (Uni (Uni F2 f2) f1) := Dis.uni (Dis.uni p2.m.dj p2.fs.symm) d2.symm
        exact (p1.st.trans t1 (Dis.uni p1.m.dj p1.fs.symm)).trans t dd
      · intro b x y
        rcases x with x | x | x
        · exact p2.m.dj b x (s2 b y)
        · exact d1 b x (.inl (s2 b y))
        · exact p2.fd b x (s2 b y)
      · intro b x y
        rcases x with x | x | x
        · exact p2.m.dj b x (s1 b y)
        · exact d1 b x (.inl (s1 b y))
        · exact p2.fd b x (s1 b y)
      · exact fun b x => mu_upd mo (p2.m.mu b (s1 b x))
      · intro b x
        refine upd_ne_none ?_
        rcases x with x | x | x
        · exact p2.m.st b x
        · exact (mf1 b x).ne
        · exact (p2.fm b x).ne
    · cases he
  · cases he
end
end EL

set_option maxRecDepth 100000
/-! EL14: lists within lists -/
namespace EL
open PySem PySem.Spec L2
section
variable {K : PySem.W.Frag} {H H' H0 H1 H2 : Hp} {S S' S0 S1 S2 F F' F0 F1 F2 f f' g G fA fy : AS} {env env' e1 e2 : Env} {σ σ' : St} {p q : PV} {v w y : V}
def Grow (H H' : Hp) : Prop := ∀ b o, H b = some o → H' b = some o
theorem Grow.refl : Grow H H := fun _ _ e => e
theorem Grow.trans (h : Grow H H1) (k : Grow H1 H2) : Grow H H2 := fun b o e => k b o (h b o e)
def rdK (K : PySem.W.Frag) (c : IK) : TE := fun σ H Q => ∃ env S F i, M K env σ H S F ∧ evK c env = some i ∧ ∀ H', Grow H H' → Q (.int i) H'
theorem rdK_lit {i : Int} {σ : St} {H : Hp} {Q : VK} (h : rdK K (.lit i) σ H Q) : tC (.int i) σ H Q := by
  obtain ⟨env, S, F, j, m, he, k⟩ := h
  cases he
  exact k H Grow.refl
theorem rdK_var {i : Nat} {σ : St} {H : Hp} {Q : VK} (h : rdK K (.var i) σ H Q) : tVar i σ H Q := by
  obtain ⟨env, S, F, j, m, he, k⟩ := h
  unfold evK at he
  simp only at he
  cases hs : slot env i with
  | none => rw [hs] at he; cases he
  | some p =>
    rw [hs] at he
    obtain ⟨v, F1, F2, hv, s1, s2, dj, r, _⟩ := m.en.take hs
    match p, he, r with
    | .int n, he, r => cases he; cases (show v = .int j from r); exact ⟨_, hv, k H Grow.refl⟩
theorem rdK_at {i : Nat} {n : Int} {σ : St} {H : Hp} {Q : VK} (h : rdK K (.at_ i n) σ H Q) : tOp (rB K idxP) (tVar i) (tC (.int n)) σ H Q := by
  obtain ⟨env, S, F, j, m, he, k⟩ := h
  unfold evK at he
  simp only at he
  cases hs : slot env i with
  | none => rw [hs] at he; cases he
  | some p =>
    rw [hs] at he
    obtain ⟨v, F1, F2, hv, s1, s2, dj, r, _⟩ := m.en.take hs
    refine ⟨v, hv, S, p, .int n, .int j, F1, Emp, r, rfl, ?_, fun v H' f' nw => ?_⟩
    · match p, he with
      | .tup xs, he =>
        simp only at he
        unfold idxP
        simp only
        cases ha : atI xs n with
        | none => rw [ha] at he; cases he
        | some z =>
          rw [ha] at he
          match z, he with
          | .int _, he => cases he; rfl
      | .lst .frz xs, he =>
        simp only at he
        unfold idxP
        simp only
        cases ha : atI xs n with
        | none => rw [ha] at he; cases he
        | some z =>
          rw [ha] at he
          match z, he with
          | .int _, he => cases he; rfl
    · cases (show v = .int j from nw.r)
      exact k H' nw.kp
theorem Rep1s.split : ∀ {xs : List PV} {vs : List V} {F : AS} {n : Nat} {p : PV}, Rep1s K H S xs vs F → xs[n]? = some p → ∃ v G1 G2, vs[n]? = some v ∧ Sub G1 F ∧ Sub G2 F ∧ Dis G1 G2 ∧ Rep1 K H S p v G1 ∧
    ∀ H' S' p', KeptW G2 H S H' S' → Rep1 K H' S' p' v G1 → Rep1s K H' S' (xs.set n p') vs (Uni G1 G2)
  | [], _, _, _, _, _, h => by simp at h
  | x :: xs, _, F, 0, p, h, e => by
    obtain ⟨v, ws, F1, F2, rfl, u1, u2, dj, r1, r2⟩ := h
    simp at e
    subst e
    exact ⟨v, F1, F2, rfl, u1, u2, dj, r1, fun H' S' p' kw r => ⟨v, ws, F1, F2, rfl, fun a x => .inl x, fun a x => .inr x, dj, r, r2.keptW kw⟩⟩
  | x :: xs, _, F, n + 1, p, h, e => by
    obtain ⟨v, ws, F1, F2, rfl, u1, u2, dj, r1, r2⟩ := h
    obtain ⟨w, G1, G2, hw, a1, a2, dj2, r, k⟩ := Rep1s.split (n := n) r2 (by simpa using e)
    refine ⟨w, G1, Uni F1 G2, by simpa using hw, a1.trans u2, fun a x => x.elim (u1 a) fun x => u2 a (a2 a x), fun a x z => z.elim (fun z => dj a z (a1 a x)) (dj2 a x), r, fun H' S' p' kw r' => ?_⟩
    exact ⟨v, ws, F1, Uni G1 G2, rfl, fun a x => .inr (.inl x), fun a x => x.imp id .inr, Dis.uni (fun a x z => dj a x (a1 a z)) (fun a x z => dj a x (a2 a z)), r1.keptW (kw.mono fun a x => .inl x), k H' S' p' (kw.mono fun a x => .inr x) r'⟩
theorem atI_set {α : Type} {xs : List α} {i : Int} {n : Nat} (h : ixN xs.length i = some n) : atI xs i = xs[n]? := by
  unfold atI; rw [h]; rfl
theorem rd_idx2 {j : Nat} {a b : IK} {σ : St} {H : Hp} {Q : VK} (h : rdE K (.idx2 j a b) σ H Q) : tOp (rIxL K) (tOp (rIxL K) (tVar j) (rdK K a)) (rdK K b) σ H Q := by
  obtain ⟨env, S, F, p, env', m, he, k⟩ := h
  unfold ev at he
  split at he
  · rename_i xs i n hs ha hb
    split at he
    · rename_i ys hy
      obtain ⟨z, hz, he⟩ := R.bind_eq_ok he
      have hz := R.of_eq_ok hz
      cases he
      obtain ⟨v, F1, F2, hv, s1, s2, dj, r, _⟩ := m.en.take hs
      refine ⟨v, hv, env, S, F, i, m, ha, fun H1 g1 => ?_⟩
      obtain ⟨m1, t1⟩ := m.ext g1
      obtain ⟨v1, F1', F2', hv1, s1', s2', dj', r1, _⟩ := m1.en.take hs
      rw [hv] at hv1
      cases hv1
      obtain ⟨A, vs, G, rfl, hA, hf, u1, n1, rs⟩ := r1
      obtain ⟨n2, hn2, hat⟩ := atI_map rs.get.1 hy
      obtain ⟨w, G1, G2, hw, a1, a2, dj2, rw1, _⟩ := rs.split hn2
      obtain ⟨B, ws, rfl, hB, hfB, rws⟩ := rw1
      refine ⟨A, vs, i, .ref B, rfl, rfl, .inl (.inl hA), hat _ hw, env, S, F, n, m1, hb, fun H2 g2 => ?_⟩
      obtain ⟨m2, t2⟩ := m1.ext g2
      obtain ⟨n3, hn3, hat3⟩ := atI_map rws.length.symm hz
      obtain ⟨q, hq, rq⟩ := rws.get hn3
      refine ⟨B, ws, n, q, rfl, rfl, .inl (.inl (g2 _ _ hB)), hat3 _ hq, k _ H2 S F Emp ?_⟩
      have rq2 : RepF K H2 S z q := RepF.kept (Kept.ext g2) _ rq
      exact (((New.sc rq2.frz (isOwn_frz _)).post m2).after (t1.trans t2 m1.dj) m2.dj)
    · cases he
  · cases he
theorem rd_sti2 {j : Nat} {a b : IK} {e : CE} {D : Ends} {σ : St} {H : Hp} (h : rdST K (.sti2 j a b e) D σ H) : tAsg (rdE K e) (gSub (tOp (rIxL K) (tVar j) (rdK K a)) (rdK K b) rSetL) D σ H := by
  obtain ⟨env, S, F, fl, env', m, he, k⟩ := h
  unfold ex at he
  obtain ⟨⟨x, e1⟩, h1, he⟩ := R.bind_eq_ok he
  simp only at he
  refine ⟨env, S, F, x, e1, m, h1, fun y Hp S1 F1 f1 po => ?_⟩
  split at he
  · rename_i xs i n hs ha hb
    split at he
    · rename_i n2 hn2
      split at he
      · rename_i ys hy
        obtain ⟨z, hz, he⟩ := R.bind_eq_ok he
        have hz := R.of_eq_ok hz
        cases he
        unfold setIx at hz
        simp only at hz
        split at hz
        · rename_i n3 hn3
          cases hz
          obtain ⟨v, F1a, F2a, hv, _⟩ := po.m.en.take hs
          refine ⟨v, hv, e1, S1, F1, i, po.m, ha, fun H1 g1 => ?_⟩
          obtain ⟨m1, t1⟩ := po.m.ext g1
          obtain ⟨v1, T1, T2, hv1, s1, s2, dj, r1, _⟩ := m1.en.take hs
          rw [hv] at hv1
          cases hv1
          obtain ⟨A, vs, G, rfl, hA, hf, u1, n1, rs⟩ := r1
          have hat : atI vs i = vs[n2]? := atI_set (by rw [rs.get.1]; exact hn2)
          obtain ⟨w, G1, G2, hw, a1, a2, dj2, rw1, _⟩ := rs.split hy
          obtain ⟨B, ws, rfl, hB, hfB, rws⟩ := rw1
          refine ⟨A, vs, i, .ref B, rfl, rfl, .inl (.inl hA), by rw [hat]; exact hw, e1, S1, F1, n, m1, hb, fun H2 g2 => ?_⟩
          obtain ⟨m2, t2⟩ := m1.ext g2
          have g12 := Grow.trans g1 g2
          have kwf : KeptW f1 Hp S1 H2 S1 := ⟨Kept.ext g12, fun b o _ e => g12 b o e⟩
          -- the frame once more, at H2
          obtain ⟨v1, T1, T2, hv1, s1, s2, dj, r1, hen⟩ := m2.en.take hs
          rw [hv] at hv1
          cases hv1
          obtain ⟨A', vs', G, eA, hA2, hf, u1, n1, rs⟩ := r1
          cases eA
          rw [g2 _ _ hA] at hA2
          cases hA2
          obtain ⟨w', G1, G2, hw', a1, a2, dj2, rw1, kk⟩ := rs.split hy
          rw [hw] at hw'
          cases hw'
          obtain ⟨B', ws', eB, hB2, hfB, rws⟩ := rw1
          cases eB
          rw [g2 _ _ hB] at hB2
          cases hB2
          refine ⟨B, ws, n, n3, rfl, rfl, g2 _ _ hB, by rw [← rws.length]; exact hn3, ?_⟩
          have hBT : T1 B := u1 B (a1 B hfB)
          have nS : ¬ Uni S1 f1 B := fun q => q.elim (fun q => m2.dj B q (s1 B hBT)) fun q => po.fd B q (s1 B hBT)
          have ry := (RepO.keptW kwf po.r).freeze (S' := Uni S1 f1) (fun a x => .inl x) (fun a x => .inr x)
          have kwU : KeptW Emp H2 (Uni S1 f1) (upd H2 B (.lst (ws.set n3 y))) (Uni S1 f1) := KeptW.upd (Mu.lst (g2 _ _ hB)) nS id
          have rI : Rep1 K (upd H2 B (.lst (ws.set n3 y))) (Uni S1 f1) (.lst .own (ys.set n3 (frz x))) (.ref B) G1 := ⟨B, _, rfl, upd_same, hfB, RepFs.kept kwU.k _ ((RepFs.kept (.sub_only fun a x => .inl x) _ rws).set ry)⟩
          have kwG : KeptW G2 H2 S1 (upd H2 B (.lst (ws.set n3 y))) (Uni S1 f1) := by
            have q1 : KeptW G2 H2 (Uni S1 f1) (upd H2 B (.lst (ws.set n3 y))) (Uni S1 f1) := KeptW.upd (Mu.lst (g2 _ _ hB)) nS (fun q => dj2 B hfB q)
            exact ⟨⟨fun a x => .inl x, fun a o q e => q1.k.st a o (.inl q) e, q1.k.im⟩, q1.w⟩
          have rA := kk _ _ _ kwG rI
          have hAB : A ≠ B := fun q => by subst q; exact n1 (a1 A hfB)
          have rO : RepO K (upd H2 B (.lst (ws.set n3 y))) (Uni S1 f1) (.lst .deep (xs.set n2 (.lst .own (ys.set n3 (frz x))))) (.ref A) T1 :=
            ⟨A, vs, Uni G1 G2, rfl, by rw [upd_ne hAB]; exact g2 _ _ hA, hf, fun a q => q.elim (fun q => u1 a (a1 a q)) fun q => u1 a (a2 a q), fun q => q.elim (fun q => n1 (a1 A q)) fun q => n1 (a2 A q), rA⟩
          have m3 := m2.change (q := .lst .deep (xs.set n2 (.lst .own (ys.set n3 (frz x))))) (o := .lst (ws.set n3 y)) (fN := T1) (S' := Uni S1 f1) hs hv hen dj s1 s2 hBT (Mu.lst upd_same) (fun a x => .inl x)
            (fun b q z => q.elim (fun q => m2.dj b q (s2 b z)) fun q => po.fd b q (s2 b z)) dj (fun b q z => q.elim (fun q => m2.dj b q (s1 b z)) fun q => po.fd b q (s1 b z))
            (fun b q => mu_upd (Mu.lst upd_same) (m2.mu b (s1 b q))) (fun b q => upd_ne_none (q.elim (m2.st b) fun q => by
              obtain ⟨o, e⟩ := (po.fm b q).ex
              rw [g12 b o e]; simp)) rO
          refine k σ _ _ _ m3 ?_ (EqOn.refl _ _)
          have tt : Step Hp S1 (Uni F1 f1) H2 S1 (Uni F1 f1) := ⟨Sub.refl, fun b q => q.elim .inl fun q => .inr (.inl q), fun b o e _ => g12 b o e⟩
          have t : Step H2 S1 (Uni F1 f1) (upd H2 B (.lst (ws.set n3 y))) (Uni S1 f1) (Uni T1 T2) := step_upd (.inl (s1 B hBT)) (fun a x => .inl x) (fun b q => by
            rcases q with (q | q) | q
            · exact .inl q
            · exact .inr (.inr q)
            · exact .inr (.inl (s1 b q))) (fun b q => .inl (s2 b q))
          have dd : Dis S1 (Uni F1 f1) := Dis.uni po.m.dj po.fs.symm
          exact (po.st.trans tt dd).trans t dd
        · cases hz
      · cases he
    · cases he
  · cases he

theorem some_ifD {α : Type} {b : Prop} [Decidable b] {x : Option α} {y : α} (h : (if decide b = true then x else none) = some y) : b ∧ x = some y := by
  by_cases hb : b
  · simp [hb] at h; exact ⟨hb, h⟩
  · simp [hb] at h
def ikS : IK → Option Nat
  | .lit _ => none
  | .var k => some k
  | .at_ k _ => some k
theorem slot_set_ne {env : Env} {i j : Nat} {x : Option PV} (h : i ≠ j) : slot (env.set i x) j = slot env j := by
  unfold slot; rw [List.getElem?_set_ne h]
theorem slot_set_nn {env : Env} {i : Nat} : slot (env.set i none) i = none := by
  by_cases hi : i < env.length
  · exact slot_set_none hi
  · rw [List.set_eq_of_length_le (by omega)]
    unfold slot
    rw [List.getElem?_eq_none (by omega)]; rfl
theorem evK_set {k : IK} {env : Env} {l : Nat} {x : Option PV} (h : ikS k ≠ some l) : evK k (env.set l x) = evK k env := by
  cases k with
  | lit i => rfl
  | var k =>
    have : l ≠ k := fun e => h (by rw [e]; rfl)
    unfold evK; simp only; rw [slot_set_ne this]
  | at_ k i =>
    have : l ≠ k := fun e => h (by rw [e]; rfl)
    unfold evK; simp only; rw [slot_set_ne this]
theorem M.alias {l : Nat} (m : M K env σ H S F) : M K (env.set l none) (σ.set l (some v)) H S F :=
  ⟨REnv.junk (i := l) (m.en.wip (i := l)) slot_set_nn, m.dj, m.mu, m.st⟩
theorem rd_ali {l g i : Nat} {a b : IK} {x y : Str} (hlg : l ≠ g) (hli : l ≠ i) (hlb : ikS b ≠ some l) {D : Ends} {σ : St} {H : Hp} (h : rdST K (.ali l g a b i x y) D σ H) :
    tSeq (tAsg (tOp (rIxL K) (tVar g) (rdK K a)) (gName l)) (tAsg (tIf (tB (tVar i)) (tC (.str x)) (tC (.str y))) (gSub (tVar l) (rdK K b) rSetL)) D σ H := by
  obtain ⟨env, S, F, fl, env', m, he, k⟩ := h
  unfold ex at he
  split at he
  · rename_i xs n j c hs ha hb hi
    split at he
    · rename_i n2 hn2
      split at he
      · rename_i ys hy
        obtain ⟨z, hz, he⟩ := R.bind_eq_ok he
        have hz := R.of_eq_ok hz
        cases he
        obtain ⟨hll, hz⟩ := some_ifD hz
        unfold setIx at hz
        simp only at hz
        split at hz
        · rename_i n3 hn3
          cases hz
          obtain ⟨v, F1a, F2a, hv, _⟩ := m.en.take hs
          refine ⟨v, hv, env, S, F, n, m, ha, fun H1 g1 => ?_⟩
          obtain ⟨m1, t1⟩ := m.ext g1
          obtain ⟨v1, T1, T2, hv1, s1, s2, dj, r1, _⟩ := m1.en.take hs
          rw [hv] at hv1
          cases hv1
          obtain ⟨A, vs, G, rfl, hA, hf, u1, n1, rs⟩ := r1
          have hat : atI vs n = vs[n2]? := atI_set (by rw [rs.get.1]; exact hn2)
          obtain ⟨w, G1, G2, hw, a1, a2, dj2, rw1, _⟩ := rs.split hy
          obtain ⟨B, ws, rfl, hB, hfB, rws⟩ := rw1
          refine ⟨A, vs, n, .ref B, rfl, rfl, .inl (.inl hA), by rw [hat]; exact hw, ?_⟩
          -- the name l stands for the inner list now
          have mA := m1.alias (l := l) (v := V.ref B)
          obtain ⟨vi, Fi1, Fi2, hvi, _, _, _, ri, _⟩ := m.en.take hi
          cases (show vi = .bl c from ri)
          have hvi' : (σ.set l (some (V.ref B)))[i]? = some (some (.bl c)) := by rw [List.getElem?_set_ne hli]; exact hvi
          have hl2 : l < σ.length := by have := m.en.len; omega
          have hvl : (σ.set l (some (V.ref B)))[l]? = some (some (.ref B)) := List.getElem?_set_self hl2
          have hsg : slot (env.set l none) g = some (.lst .deep xs) := by rw [slot_set_ne hlg]; exact hs
          have hvg : (σ.set l (some (V.ref B)))[g]? = some (some (.ref A)) := by rw [List.getElem?_set_ne hlg]; exact hv
          have hbb : evK b (env.set l none) = some j := by rw [evK_set hlb]; exact hb
          have mAv : M K (env.set l none) (σ.set l (some (V.ref B))) H1 S F := mA
          have go : gSub (tVar l) (rdK K b) rSetL (.str (if c then x else y)) (σ.set l (some (V.ref B))) H1 D.nx := by
            refine ⟨.ref B, hvl, env.set l none, S, F, j, mAv, hbb, fun H2 g2 => ?_⟩
            obtain ⟨m2, t2⟩ := mAv.ext g2
            obtain ⟨v1, T1, T2, hv1, s1, s2, dj, r1, hen⟩ := m2.en.take hsg
            rw [hvg] at hv1
            cases hv1
            obtain ⟨A', vs', G, eA, hA2, hf, u1, n1, rs⟩ := r1
            cases eA
            rw [g2 _ _ hA] at hA2
            cases hA2
            obtain ⟨w', G1, G2, hw', a1, a2, dj2, rw1, kk⟩ := rs.split hy
            rw [hw] at hw'
            cases hw'
            obtain ⟨B', ws', eB, hB2, hfB, rws⟩ := rw1
            cases eB
            rw [g2 _ _ hB] at hB2
            cases hB2
            refine ⟨B, ws, j, n3, rfl, rfl, g2 _ _ hB, by rw [← rws.length]; exact hn3, ?_⟩
            have hBT : T1 B := u1 B (a1 B hfB)
            have nS : ¬ S B := fun q => m2.dj B q (s1 B hBT)
            have kwU : KeptW Emp H2 S (upd H2 B (.lst (ws.set n3 (.str (if c then x else y))))) S := KeptW.upd (Mu.lst (g2 _ _ hB)) nS id
            have rI : Rep1 K (upd H2 B (.lst (ws.set n3 (.str (if c then x else y))))) S (.lst .own (ys.set n3 (.str (if c then x else y)))) (.ref B) G1 := ⟨B, _, rfl, upd_same, hfB, RepFs.kept kwU.k _ (rws.set (show RepF K H2 S (.str (if c then x else y)) (.str (if c then x else y)) from rfl))⟩
            have kwG : KeptW G2 H2 S (upd H2 B (.lst (ws.set n3 (.str (if c then x else y))))) S := KeptW.upd (Mu.lst (g2 _ _ hB)) nS (fun q => dj2 B hfB q)
            have rA := kk _ _ _ kwG rI
            have hAB : A ≠ B := fun q => by subst q; exact n1 (a1 A hfB)
            have rO : RepO K (upd H2 B (.lst (ws.set n3 (.str (if c then x else y))))) S (.lst .deep (xs.set n2 (.lst .own (ys.set n3 (.str (if c then x else y)))))) (.ref A) T1 :=
              ⟨A, vs, Uni G1 G2, rfl, by rw [upd_ne hAB]; exact g2 _ _ hA, hf, fun a q => q.elim (fun q => u1 a (a1 a q)) fun q => u1 a (a2 a q), fun q => q.elim (fun q => n1 (a1 A q)) fun q => n1 (a2 A q), rA⟩
            have m3 := m2.change (q := .lst .deep (xs.set n2 (.lst .own (ys.set n3 (.str (if c then x else y)))))) (o := .lst (ws.set n3 (.str (if c then x else y)))) (fN := T1) (S' := S) hsg hvg hen dj s1 s2 hBT (Mu.lst upd_same) Sub.refl
              (m2.dj.mono Sub.refl s2) dj (m2.dj.mono Sub.refl s1) (fun b q => mu_upd (Mu.lst upd_same) (m2.mu b (s1 b q))) (fun b q => upd_ne_none (m2.st b q)) rO
            refine k _ _ _ _ m3 ?_ (EqOn.set (by simp [asgS]))
            have t : Step H2 S F (upd H2 B (.lst (ws.set n3 (.str (if c then x else y))))) S (Uni T1 T2) := step_upd (s1 B hBT) Sub.refl (fun b q => by
              rcases q with q | q
              · exact .inl q
              · exact .inr (s1 b q)) (fun b q => s2 b q)
            exact (t1.trans t2 m1.dj).trans t m2.dj
          refine ⟨.bl c, hvi', c, rfl, ?_⟩
          cases c with
          | true => rw [if_pos rfl]; exact go
          | false => rw [if_neg (by simp)]; exact go
        · cases hz
      · cases he
    · cases he
  · cases he
end
end EL

set_option maxRecDepth 100000
/-! EL14b: isinstance -/
namespace EL
open PySem PySem.Spec L2
section
variable {K : PySem.W.Frag} {H : Hp} {S : AS}
def isTs : List String := ["tuple", "list", "bool", "int", "str", "dict"]
theorem kit_tab : ∀ t ∈ isTs, kitB "NoneType" t = some false ∧ kitB "bool" t = some (t == "bool" || t == "int") ∧ kitB "int" t = some (t == "int") ∧ kitB "str" t = some (t == "str") ∧ kitB "tuple" t = some (t == "tuple") ∧ kitB "list" t = some (t == "list") ∧ kitB "dict" t = some (t == "dict") := by
  decide +kernel
theorem isi_ok {t : String} (ht : t ∈ isTs) {p r : PV} {x : V} {f : AS} (h : RepO K H S p x f) (e : bltP (.isi t) [p] = some r) : ∃ s : String, TyX K H x (.type s) ∧ kitB s t = some (isTy t p) ∧ r = .bl (isTy t p) := by
  obtain ⟨k1, k2, k3, k4, k5, k6, k7⟩ := kit_tab t ht
  have nt : (t == "NoneType") = false := by
    revert ht; unfold isTs; intro ht
    simp only [List.mem_cons, List.mem_nil_iff, or_false] at ht
    rcases ht with rfl | rfl | rfl | rfl | rfl | rfl <;> rfl
  cases p with
  | non =>
    injection e with e; subst e
    cases (show x = .non from h)
    exact ⟨"NoneType", .base .non, by rw [k1]; unfold isTy; rw [nt], rfl⟩
  | bl b =>
    injection e with e; subst e
    cases (show x = .bl b from h)
    exact ⟨"bool", .base (.bl b), k2, rfl⟩
  | int b =>
    injection e with e; subst e
    cases (show x = .int b from h)
    exact ⟨"int", .base (.int b), k3, rfl⟩
  | str b =>
    injection e with e; subst e
    cases (show x = .str b from h)
    exact ⟨"str", .base (.str b), k4, rfl⟩
  | tup xs =>
    injection e with e; subst e
    obtain ⟨a, vs, rfl, ha, _⟩ := (show RepF K H S (.tup xs) x from h)
    exact ⟨"tuple", .base (.tup ha), k5, rfl⟩
  | ktp xs =>
    injection e with e; subst e
    obtain ⟨a, vs, rfl, ha, _⟩ := (show RepF K H S (.ktp xs) x from h)
    rcases ha with (ha | ⟨o, ha⟩) | ⟨o, its, n, hk, hc, _⟩
    · exact ⟨"tuple", .base (.tup ha), k5, rfl⟩
    · exact ⟨"tuple", .fTuple ha, k5, rfl⟩
    · exact ⟨"tuple", .kTuple hk hc, k5, rfl⟩
  | lst fl xs =>
    injection e with e; subst e
    cases fl with
    | own =>
      obtain ⟨a, vs, rfl, ha, _⟩ := h
      exact ⟨"list", .base (.lst ha), k6, rfl⟩
    | deep =>
      obtain ⟨a, vs, G, rfl, ha, _⟩ := h
      exact ⟨"list", .base (.lst ha), k6, rfl⟩
    | frz =>
      obtain ⟨a, vs, rfl, ha, _⟩ := (show RepF K H S (.lst .frz xs) x from h)
      unfold LsF at ha
      rw [if_neg (by decide)] at ha
      exact ⟨"list", .base (.lst ha.1), k6, rfl⟩
    | ro =>
      obtain ⟨a, vs, rfl, ha, _⟩ := (show RepF K H S (.lst .ro xs) x from h)
      unfold LsF at ha
      rw [if_pos rfl] at ha
      rcases ha with ⟨o, ha⟩ | ⟨o, its, n, hk, hc, _⟩
      · exact ⟨"list", .base (.frz ha), k6, rfl⟩
      · exact ⟨"list", .kList hk hc, k6, rfl⟩
  | dic fl d kvs =>
    cases fl with
    | own =>
      injection e with e; subst e
      obtain ⟨a, ks, rfl, ha, _⟩ := h
      cases d with
      | t => exact ⟨"dict", .base (.dT ha), k7, rfl⟩
      | k =>
        obtain ⟨kk, h1, h2⟩ := ha
        exact ⟨"dict", .base (.dK h1), k7, rfl⟩
    | deep => cases e
    | frz => cases e
    | ro => cases e
/-- isinstance(x, T) -/
theorem rd_isi {t : String} (ht : t ∈ isTs) {c : CE} {σ : St} {Q : VK} (h : rdE K (.blt (.isi t) (.cons c .nil)) σ H Q) : tCB (rIsi K) (tCons (rdA K c) (tCons (tC (.ty t)) tNil)) σ H Q := by
  have h := rd_blt h
  have h : rdAs K (.cons c .nil) σ H (fun vs H1 => rBl K (bltP (.isi t)) vs H1 Q) := h
  obtain ⟨env, S0, F, a, env', m, he, k⟩ := rd_as_cons h
  refine ⟨env, S0, F, a, env', m, he, fun v H' S' F' f po => ?_⟩
  have k := rd_as_nil (k v H' S' F' f po)
  obtain ⟨S, ps, r, rb, e, q⟩ := (show rBl K (bltP (.isi t)) [v] H' Q from k)
  cases rb with
  | cons r1 rb =>
    cases rb
    obtain ⟨s, ty, kb, rfl⟩ := isi_ok ht r1 e
    exact ⟨v, .ty t, .type s, .type t, _, rfl, .ty t, ty, kit_ty kb, q _ _ _ (New.bl _)⟩
end
end EL

set_option maxRecDepth 100000
/-! EL14c: methods of texts; empty dicts -/
namespace EL
open PySem PySem.Spec L2
section
variable {K : PySem.W.Frag} {H : Hp} {S : AS}
theorem Rep1s.strs : ∀ {xs : List PV} {vs : List V} {F : AS} {ys : List Str}, Rep1s K H S xs vs F → strsP xs = some ys → vs = ys.map V.str
  | [], _, _, _, h, e => by cases e; cases h; rfl
  | x :: xs, _, _, _, h, e => by
    obtain ⟨v, ws, F1, F2, rfl, _, _, _, r1, r2⟩ := h
    cases x with
    | str i =>
      obtain ⟨ms, e1, rfl⟩ := map_some (o := strsP xs) e
      have e2 := Rep1s.strs r2 e1
      cases (show v = .str i from r1.2)
      rw [e2]; rfl
    | _ => cases e
theorem RepO.strs {fl : Fl} {xs : List PV} {v : V} {f : AS} {ys : List Str} (h : RepO K H S (.lst fl xs) v f) (e : strsP xs = some ys) : ∃ p, v = .ref p ∧ SqL K H p (ys.map V.str) := by
  cases fl with
  | own =>
    obtain ⟨a, vs, rfl, ha, _, rs⟩ := h
    exact ⟨a, rfl, by rw [← strsP_map e rs]; exact .inl (.inl ha)⟩
  | deep =>
    obtain ⟨a, vs, G, rfl, ha, _, _, _, rs⟩ := h
    exact ⟨a, rfl, by rw [← rs.strs e]; exact .inl (.inl ha)⟩
  | frz =>
    obtain ⟨a, vs, rfl, hL, rs⟩ := (show RepF K H S (.lst .frz xs) v from h)
    unfold LsF at hL
    rw [if_neg (by decide)] at hL
    exact ⟨a, rfl, by rw [← strsP_map e rs]; exact .inl (.inl hL.1)⟩
  | ro =>
    obtain ⟨a, vs, rfl, hL, rs⟩ := (show RepF K H S (.lst .ro xs) v from h)
    unfold LsF at hL
    rw [if_pos rfl] at hL
    refine ⟨a, rfl, ?_⟩
    rw [← strsP_map e rs]
    rcases hL with ⟨o, hL⟩ | hL
    · exact .inl (.inr ⟨o, hL⟩)
    · exact .inr hL
/-- o.join(list) -/
theorem rd_join {o e : CE} {z0 : Str} (ho : ∀ env, asA o (ev o env) env = .ok (.val (.str z0), env)) {σ : St} {Q : VK} (h : rdE K (.mth .join o (.cons e .nil)) σ H Q) :
    tM1 (fun x xs H Q => ∃ a p, ∃ ys : List Str, x = .str a ∧ xs = [.ref p] ∧ (SqL K H p (ys.map V.str) ∨ SqT K H p (ys.map V.str)) ∧ (ys.map (·.length)).sum + ys.length * a.length ≤ 16777216 ∧ Q (.str (Txt.join a ys)) H) (rdA K o) (rdA K e) σ H Q := by
  obtain ⟨env, S, F, p, env', m, he, k⟩ := h
  unfold ev at he
  obtain ⟨⟨a1, e1⟩, h1, he⟩ := R.bind_eq_ok he
  obtain ⟨⟨as, e2⟩, h2, he⟩ := R.bind_eq_ok he
  have h1' := h1
  rw [ho] at h1'
  injection h1' with h1'
  injection h1' with q5 q6
  subst q5; subst q6
  simp only at he h2
  unfold evAs at h2
  obtain ⟨⟨b, e3⟩, h3, h2⟩ := R.bind_eq_ok h2
  unfold evAs at h2
  rw [R.bind_ok] at h2
  injection h2 with h2
  injection h2 with q3 q4
  subst q3
  simp only at q4
  subst q4
  cases hy : getAs e3 [b] with
  | none => rw [hy] at he; cases he
  | some ys =>
    rw [hy] at he
    have he : (R.of (mthP .join (.str z0) ys)).bind (fun z => R.ok (z, e3)) = .ok (p, env') := he
    obtain ⟨z, hz, hr⟩ := R.bind_eq_ok he
    have hz := R.of_eq_ok hz
    injection hr with hr
    injection hr with q1 q2
    subst q1; subst q2
    unfold getAs at hy
    cases hb : getA e3 b with
    | none => rw [hb] at hy; cases hy
    | some y =>
      rw [hb] at hy
      unfold getAs at hy
      cases hy
      refine ⟨env, S, F, _, env, m, h1, fun v1 H1 S1 F1 f1 p1 => ?_⟩
      cases (show v1 = .str z0 from p1.r)
      refine ⟨⟨z0, rfl⟩, env, S1, F1, b, e3, p1.m, h3, fun v2 H2 S2 F2 f2 p2 => ?_⟩
      obtain ⟨m2, r1, r2, st⟩ := p1.two p2
      obtain ⟨f2', r2'⟩ := RepO.repA m2 r2 hb
      cases y with
      | lst fl xs =>
        have hz : (match strsP xs with
          | some ys => if decide ((ys.map (·.length)).sum + z0.length * ys.length ≤ 16777216) then some (PV.str (Txt.join z0 ys)) else none
          | none => none) = some z := hz
        split at hz
        · rename_i ws hw
          obtain ⟨hl, rfl⟩ := some_if hz
          obtain ⟨p, rfl, hp⟩ := r2'.strs hw
          exact ⟨z0, p, ws, rfl, rfl, .inl hp, by have := of_decide_eq_true hl; rw [Nat.mul_comm] at this; exact this, k _ H2 S2 F2 Emp (((New.sc (show RepF K H2 S2 (.str _) (.str _) from rfl) rfl).post m2).after st m2.dj)⟩
        · cases hz
      | _ => cases hz
/-- {} -/
theorem rd_dnK {σ : St} {Q : VK} (h : rdE K (.dic .k .nil) σ H Q) : tDNewK σ H Q := by
  obtain ⟨env, S, F, p, env', m, he, k⟩ := h
  unfold ev evp at he
  rw [R.bind_ok] at he
  cases he
  intro a hn
  have n : New K H S (.dic .own .k []) (.ref a) (upd H a (.dK [])) (One a) :=
    ⟨⟨a, [], rfl, ⟨[], upd_same, rfl⟩, rfl, rfl⟩, fun b e => by rw [e]; exact hn, fun b e => by rw [e]; exact Mu.dK upd_same, fun b o e => by rw [upd_ne (ne_of_none e hn)]; exact e⟩
  exact k _ _ S F _ (n.post m)
theorem rd_dnT {σ : St} {Q : VK} (h : rdE K (.dic .t .nil) σ H Q) : tDNewT σ H Q := by
  obtain ⟨env, S, F, p, env', m, he, k⟩ := h
  unfold ev evp at he
  rw [R.bind_ok] at he
  cases he
  intro a hn
  have n : New K H S (.dic .own .t []) (.ref a) (upd H a (.dT [])) (One a) :=
    ⟨⟨a, [], rfl, upd_same, rfl, rfl⟩, fun b e => by rw [e]; exact hn, fun b e => by rw [e]; exact Mu.dT upd_same, fun b o e => by rw [upd_ne (ne_of_none e hn)]; exact e⟩
  exact k _ _ S F _ (n.post m)
end
end EL

set_option maxRecDepth 100000
/-! EL14d: comprehensions with two loops -/
namespace EL
open PySem PySem.Spec L2
section
variable {K : PySem.W.Frag} {H H' H0 H1 H2 : Hp} {S S' S0 S1 S2 F F' F0 F1 F2 f f' g G fA fy : AS} {env env' e1 e2 : Env} {σ σ' : St} {p q : PV} {v w y : V}
theorem wipe_out {i : Nat} : ∀ {vs : List Nat}, i ∉ vs → (wipe σ vs)[i]? = σ[i]?
  | [], _ => rfl
  | v :: vs, h => by
    simp only [List.mem_cons, not_or] at h
    show ((wipe σ vs).set v none)[i]? = _
    rw [List.getElem?_set_ne (fun e => h.1 e.symm), wipe_out h.2]
theorem wipe_sub {vs vs1 : List Nat} (h : ∀ i ∈ vs1, i ∈ vs) : wipe (wipe σ vs1) vs = wipe σ vs :=
  wipe_eq (σ := σ) (σ' := wipe σ vs1) ⟨wipe_length _ _, fun i hi => wipe_out fun x => hi (h i x)⟩
/-- the same state, told from here on -/
theorem LI.rebase {dp : Bool} {D : Addr} {en : Env} {acc : List PV} (L : LI K H0 S0 F0 σ D dp en acc H S F fA) : LI K H S (Uni F fA) σ D dp en acc H S F fA := ⟨L.m, L.r, L.fd, L.fs, L.fm, Step.refl⟩
theorem LI.dj2 {dp : Bool} {D : Addr} {en : Env} {acc : List PV} (L : LI K H0 S0 F0 σ D dp en acc H S F fA) : Dis S (Uni F fA) := Dis.uni L.m.dj L.fs.symm
theorem LI.mu2 {dp : Bool} {D : Addr} {en : Env} {acc : List PV} (L : LI K H0 S0 F0 σ D dp en acc H S F fA) : ∀ a, Uni F fA a → Mu H a := fun a x => x.elim (L.m.mu a) (L.fm a)
/-- a turn of the outer loop -/
def lcO (vs vs1 : List Nat) (t : CT) (c : CO) (t1 : CT) (it1 : CI) (c1 : CO) (e : CE) (x : PV) (acc : List PV) (en : Env) : R (List PV × Env) := match setT t x en with
  | some e1 => (evC c e1).bind fun q => if q.1 then (evI it1 q.2).bind fun p1 => (loopL (lcB false vs1 t1 c1 e) p1.1 acc (wipeE p1.2 vs1)).bind fun r => .ok (r.1, wipeE r.2 vs)
      else .ok (acc, wipeE q.2 vs)
  | none => .stuck
theorem ev_lc2 {vs vs1 : List Nat} {t : CT} {it : CI} {c : CO} {t1 : CT} {it1 : CI} {c1 : CO} {e : CE} {env : Env} : ev (.lc2 vs vs1 t it c t1 it1 c1 e) env = (evI it env).bind fun p => if wipeOk p.2 vs (asgT t) && vs1.all (fun i => vs.contains i) && (asgT t1).all (fun i => vs1.contains i) then
      (loopL (lcO vs vs1 t c t1 it1 c1 e) p.1 [] (wipeE p.2 vs)).bind fun r => .ok (.lst .own r.1, restE r.2 p.2 vs) else .stuck := by
  first | rfl | (unfold ev; rfl)
theorem lcO_wiped {vs vs1 : List Nat} {t : CT} {c : CO} {t1 : CT} {it1 : CI} {c1 : CO} {e : CE} : ∀ x acc en acc2 en2, lcO vs vs1 t c t1 it1 c1 e x acc en = .ok (acc2, en2) → ∃ e, en2 = wipeE e vs := fun x acc en acc2 en2 he => by
  unfold lcO at he
  cases hs : setT t x en with
  | none => rw [hs] at he; cases he
  | some e1 =>
    rw [hs] at he
    simp only at he
    obtain ⟨⟨b, q⟩, h1, he⟩ := R.bind_eq_ok he
    cases b with
    | false => simp only [Bool.false_eq_true, if_false] at he; cases he; exact ⟨_, rfl⟩
    | true =>
      simp only [if_true] at he
      obtain ⟨⟨xs, e5⟩, h5, he⟩ := R.bind_eq_ok he
      obtain ⟨⟨a6, e6⟩, h6, he⟩ := R.bind_eq_ok he
      cases he
      exact ⟨_, rfl⟩
theorem rd_lc2 {vs vs1 : List Nat} {t : CT} {it : CI} {c : CO} {t1 : CT} {it1 : CI} {c1 : CO} {e : CE} {σ : St} {H : Hp} {Q : VK} (h : rdE K (.lc2 vs vs1 t it c t1 it1 c1 e) σ H Q) : tLc2 (rdI K it) (gT K t) (rdC K c) (rdI K it1) (gT K t1) (rdC K c1) (rdE K e) vs vs1 σ H Q := by
  obtain ⟨env, S, F, p, env', m, he, k⟩ := h
  rw [ev_lc2] at he
  obtain ⟨⟨xs, e1⟩, h1, he⟩ := R.bind_eq_ok he
  obtain ⟨hw, he⟩ := if_ok he
  rw [Bool.and_eq_true, Bool.and_eq_true] at hw
  obtain ⟨⟨hw, hv1⟩, ht1⟩ := hw
  have sub1 : ∀ i ∈ vs1, i ∈ vs := fun i hi => by
    have := List.all_eq_true.mp hv1 i hi
    simpa using this
  have sub2 : ∀ i ∈ asgT t1, i ∈ vs1 := fun i hi => by
    have := List.all_eq_true.mp ht1 i hi
    simpa using this
  obtain ⟨⟨accE, enE⟩, h2, he⟩ := R.bind_eq_ok he
  injection he with he
  injection he with q1 q2
  subst q1; subst q2
  obtain ⟨nd, ho, hts⟩ := wipeOk_of hw
  refine ⟨env, S, F, xs, e1, m, h1, fun J H1 S1 F1 m1 s1 wk D hD => ?_⟩
  have held := m1.held ho
  refine ⟨fun i n H => i ≤ xs.length ∧ n = xs.length - i ∧ ∃ S F fA en acc, LI K H1 S1 F1 (wipe σ vs) D false en acc H S F fA ∧ (∃ e, en = wipeE e vs) ∧
      loopL (lcO vs vs1 t c t1 it1 c1 e) (xs.drop i) acc en = .ok (accE, enE), ⟨xs.length, Nat.zero_le _, rfl, S1, F1, One D, wipeE e1 vs, [], LI.start (m1.wipes) hD, ⟨_, rfl⟩, h2⟩, ?_⟩
  rintro i n H2 ⟨hi, rfl, S2, F2, fA, en, acc, L, hen, hl⟩
  have kp := L.kept m1.dj m1.mu
  by_cases hlt : i < xs.length
  · refine .inr ⟨(wk.go H2 S2 kp i xs[i] (List.getElem?_eq_getElem hlt)).1, fun H' => i + 1 ≤ xs.length ∧ ∃ S F fA en acc, LI K H1 S1 F1 (wipe σ vs) D false en acc H' S F fA ∧ (∃ e, en = wipeE e vs) ∧
      loopL (lcO vs vs1 t c t1 it1 c1 e) (xs.drop (i + 1)) acc en = .ok (accE, enE), fun H' ⟨a1, a2⟩ => ⟨xs.length - (i + 1), by omega, a1, rfl, a2⟩, fun v H' y => ?_⟩
    rw [drop_get hlt] at hl
    unfold loopL at hl
    obtain ⟨⟨a3, e3⟩, h3, hl⟩ := R.bind_eq_ok hl
    have wiped3 := lcO_wiped _ _ _ _ _ h3
    obtain ⟨hk, rf, ox⟩ := (wk.go H2 S2 kp i xs[i] (List.getElem?_eq_getElem hlt)).2 v H' y
    obtain ⟨m2, st2⟩ := L.m.ext hk
    have L := L.on m2 st2
    unfold lcO at h3
    cases hs : setT t xs[i] en with
    | none => rw [hs] at h3; cases h3
    | some en1 =>
      rw [hs] at h3
      simp only at h3
      obtain ⟨⟨b, q⟩, h4, h3⟩ := R.bind_eq_ok h3
      simp only at h3
      refine g_set L.m (RepO.of_frz ox rf (G := Emp)) emp_dis emp_dis (fun a x => x.elim) hs fun σ2 F3 m3 s3 eq => ?_
      have ew : wipe σ2 vs = wipe σ vs := by rw [wipe_eq (eq.mono hts), wipe_wipe]
      refine ⟨ew, en1, S2, F3, b, q, m3, h4, fun H4 S4 F4 m4 st4 => ?_⟩
      have L3 := L.on m3 (Step.refl.weak fun a x => (s3 a x).elim id False.elim)
      have L4 := L3.on m4 st4
      cases b with
      | false =>
        simp only [Bool.false_eq_true, if_false] at h3 ⊢
        injection h3 with h3
        injection h3 with q1 q2
        subst q1; subst q2
        have L5 := L4.on (m4.wipes (vs := vs)) Step.refl
        rw [ew] at L5
        exact ⟨hlt, _, _, _, _, _, L5, wiped3, hl⟩
      | true =>
        simp only [if_true] at h3 ⊢
        obtain ⟨⟨xs1, e5⟩, h5, h3⟩ := R.bind_eq_ok h3
        obtain ⟨⟨a6, e6⟩, h6, h3⟩ := R.bind_eq_ok h3
        injection h3 with h3
        injection h3 with q1 q2
        subst q1; subst q2
        refine ⟨q, S4, F4, xs1, e5, m4, h5, fun J1 H5 S5 F5 m5 st5 wk1 => ?_⟩
        have L5 := L4.on m5 st5
        have LB := L5.rebase.on (m5.wipes (vs := vs1)) Step.refl
        refine ⟨fun j n H => j ≤ xs1.length ∧ n = xs1.length - j ∧ ∃ S F fB en acc, LI K H5 S5 (Uni F5 fA) (wipe σ2 vs1) D false en acc H S F fB ∧ loopL (lcB false vs1 t1 c1 e) (xs1.drop j) acc en = .ok (a6, e6), ⟨xs1.length, Nat.zero_le _, rfl, S5, F5, fA, _, acc, LB, h6⟩, ?_⟩
        rintro j n1 H6 ⟨hj, rfl, S6, F6, fB, en6, acc6, L6, hl6⟩
        have kp6 := L6.kept L5.dj2 L5.mu2
        by_cases hlj : j < xs1.length
        · refine .inr ⟨(wk1.go H6 S6 kp6 j xs1[j] (List.getElem?_eq_getElem hlj)).1, fun H' => j + 1 ≤ xs1.length ∧ ∃ S F fB en acc, LI K H5 S5 (Uni F5 fA) (wipe σ2 vs1) D false en acc H' S F fB ∧ loopL (lcB false vs1 t1 c1 e) (xs1.drop (j + 1)) acc en = .ok (a6, e6), fun H' ⟨a1, a2⟩ => ⟨xs1.length - (j + 1), by omega, a1, rfl, a2⟩, fun v1 H7 y1 => ?_⟩
          rw [drop_get hlj] at hl6
          unfold loopL at hl6
          obtain ⟨⟨a7, e7⟩, h7, hl6⟩ := R.bind_eq_ok hl6
          obtain ⟨hk1, rf1, ox1⟩ := (wk1.go H6 S6 kp6 j xs1[j] (List.getElem?_eq_getElem hlj)).2 v1 H7 y1
          obtain ⟨m7, st7⟩ := L6.m.ext hk1
          exact lc_body (L6.on m7 st7) L5.dj2 rf1 ox1 sub2 h7 fun H8 S8 F8 fA8 L8 => ⟨hlj, S8, F8, fA8, e7, a7, L8, hl6⟩
        · have e0 : j = xs1.length := by omega
          subst e0
          rw [List.drop_length] at hl6
          cases hl6
          refine .inl ⟨wk1.stop H6 S6 kp6, hlt, ?_⟩
          have L7 := L6.on (L6.m.wipes (vs := vs)) Step.refl
          rw [wipe_sub sub1, ew] at L7
          exact ⟨_, _, _, _, _, L7.restep L5.st L5.dj2, wiped3, hl⟩
  · have e0 : i = xs.length := by omega
    subst e0
    rw [List.drop_length] at hl
    cases hl
    obtain ⟨e0, rfl⟩ := hen
    refine .inl ⟨wk.stop H2 S2 kp, ?_⟩
    have L2 := L.restored nd fun v hv p hp => by
      obtain ⟨w, a1, a2, a3⟩ := held v hv p hp
      exact ⟨w, a1, RepF.kept kp _ a2, a3⟩
    exact k _ H2 S2 F2 fA ((L2.restep s1 m1.dj).post)
end
end EL

set_option maxRecDepth 100000
/-! EL14e: min, max, index of a list of pairs -/
namespace EL
open PySem PySem.Spec L2
theorem prP_some {x : PV} {p : Int × Int} (h : prP x = some p) : x = sqP p := by
  unfold prP at h
  split at h
  · cases h; rfl
  · cases h
theorem prsP_some : ∀ {xs : List PV} {ps : List (Int × Int)}, prsP xs = some ps → xs = ps.map sqP
  | [], _, h => by cases h; rfl
  | x :: xs, _, h => by
    unfold prsP at h
    split at h
    · rename_i p ps h1 h2
      cases h
      rw [List.map_cons, ← prP_some h1, ← prsP_some h2]
    · cases h
theorem toDs_pairs : ∀ ps : List (Int × Int), toDs (ps.map sqP) = some (ps.map PySem.W.Datum.toD)
  | [] => rfl
  | p :: ps => by
    rw [List.map_cons, toDs, toDs_pairs ps]; rfl
theorem minQ_eq (p : Int × Int) (ps : List (Int × Int)) : minQ p ps = PySem.W.minOf p ps := rfl
theorem maxQ_eq (p : Int × Int) (ps : List (Int × Int)) : maxQ p ps = PySem.W.maxOf p ps := rfl
theorem vals_back {vs : List V} {us : List Value} {i : Nat} {u : Value} (r : Vals vs us) (h : us[i]? = some u) : ∃ x, vs[i]? = some x ∧ RelV x u := by
  have hl := r.length
  have hi : i < us.length := (List.getElem?_eq_some_iff.mp h).1
  have hv : vs[i]? = some (vs[i]'(by omega)) := List.getElem?_eq_getElem _
  obtain ⟨u', e, r'⟩ := r.get hv
  rw [h] at e
  cases e
  exact ⟨_, hv, r'⟩
section
variable {K : PySem.W.Frag} {H : Hp} {S : AS}
theorem repFs_pairs : ∀ {ps : List (Int × Int)} {vs : List V} {i : Nat} {x : V}, RepFs K H S (ps.map sqP) vs → vs[i]? = some x → ∃ p, ps[i]? = some p ∧ RepF K H S (sqP p) x
  | [], _, i, x, h, e => by cases h; cases e
  | p :: ps, _, i, x, h, e => by
    obtain ⟨w, ws, rfl, h1, h2⟩ := h
    cases i with
    | zero => cases e; exact ⟨p, rfl, h1⟩
    | succ i => exact repFs_pairs (ps := ps) h2 e
theorem reads_pair {h : Heap} {v : Value} {a b c d : Int} {as bs : List Addr} (r1 : Reads h v (.tuple [.int a, .int b]) as) (r2 : Reads h v (.tuple [.int c, .int d]) bs) : a = c ∧ b = d := by
  cases r1 with
  | tuple e1 c1 d1 ra =>
    cases r2 with
    | tuple e2 c2 d2 rb =>
      rw [e1] at e2
      cases e2
      rw [d1] at d2
      cases d2
      rename_i vs _
      generalize vs.toList = l at ra rb
      cases ra with
      | cons x1 y1 =>
        cases rb with
        | cons x2 y2 =>
          cases x1
          cases x2
          cases y1 with
          | cons x3 y3 =>
            cases y2 with
            | cons x4 y4 =>
              cases x3
              cases x4
              exact ⟨rfl, rfl⟩
end
section
variable {prog : Program} {w : World} {A : Around} {E : Value → Shared → Prop} {s : Shared}
/-- min of a dict's keys -/
theorem min_dict_data {d : Addr} {o : Obj} {es : Array DictEntry} {ep : Nat} {vs : Array Value} {x : PyData} {xs : List PyData} {as : List Addr} {Q : Value → Shared → Prop} (hh : A.handled = none) (lo : (d == sysModules) = false) (ho : s.heap.get? d = some o) (hx : o.ExactDict) (hdt : o.data = .dict es ep)
    (hv : ∀ (i : Nat) (en : DictEntry), es[i]? = some en → vs[i]? = some en.key) (hsz : es.size = vs.size) (hr : PySem.ReadsAll s.heap vs.toList (x :: xs) as) (ha : PySem.W.AlikeAll (x :: xs)) (hu : A.units + 1 + PyData.depthAll (x :: xs) < cLine)
    (h : ∀ (i : Nat) v h' tk bs, vs[i]? = some v → PySem.Reads h' v (PySem.W.minD x xs) bs → (∀ b o, s.heap.get? b = some o → h'.get? b = some o) → Q v { s with heap := h', toks := tk }) :
    wpAny (model prog w) A (call (.builtin "min") [.ref d]) Q E s := by
  have hn : vs.size = xs.length + 1 := PySem.W.readsAll_len hr
  have hlt : d < s.heap.objs.size := Heap.lt_size ho
  refine call_min_walkH (iter_keys lo ho hx hdt ?_)
  refine ⟨_, _, _, _, _, _, _, s.heap, (fun i j => PySem.W.dataLt ((x :: xs).getD i .none) ((x :: xs).getD j .none)), rfl, (walks_raw (A := A.in1) hh _ d (Nat.ne_of_lt hlt) hdt).toS, ⟨⟨_, Heap.get?_push_size _ rfl, rfl, rfl⟩, Heap.get?_push_of_some _ ho⟩, fun b hb => ?_, by omega, fun b o e hb => ?_, fun b o e => Heap.get?_push_of_some _ e, ?_, fun v s' hP m => ?_⟩
  · show b < (s.heap.push _).objs.size
    rw [Heap.size_push]
    rcases List.mem_cons.mp hb with rfl | hb
    · exact Nat.lt_succ_self _
    · rcases List.mem_cons.mp hb with rfl | hb
      · exact Nat.lt_succ_of_lt hlt
      · cases hb
  · exact absurd (Heap.lt_size e) ((List.mem_singleton.mp hb) ▸ Nat.lt_irrefl _)
  · have c := PySem.W.cmpIn_lt (prog := prog) (w := w) (A := A.in1) hr ha (by show A.units + 1 + _ < _; exact hu)
    intro i j vi vj s9 Q9 E9 hk hi hj hq
    obtain ⟨e1, h1, rfl⟩ := hi
    obtain ⟨e2, h2, rfl⟩ := hj
    exact c i j _ _ s9 Q9 E9 hk (hv i _ h1) (hv j _ h2) hq
  · obtain ⟨en, hen, rfl⟩ := hP
    have hP := hv _ _ hen
    obtain ⟨h', tk, rfl, hk'⟩ := PySem.W.moved_old rfl rfl m
    obtain ⟨bs, r, _, _, _⟩ := PySem.W.readsAll_atA hr _ _ hP
    have e1 : es.size - 1 = xs.length := by omega
    have e2 := (PySem.W.argBest_fold PySem.W.dataLt PyData.none x xs xs.length (Nat.le_refl _)).2
    rw [List.take_length] at e2
    rw [e1] at r
    exact h _ _ h' tk bs hP (PySem.W.reads_keeps hk' (by unfold PySem.W.minD; rw [← e2]; exact r)) hk'
end
section
variable {X : Cx}
theorem ext_call (lt : Bool) (hc : X.calm = true) (hu : X.A.units + 66 < cLine) : CallR X (.builtin (if lt then "min" else "max")) (rBl X.K (bltP (if lt then .min1 else .max1))) := by
  intro pins s σ H xs us Q I r h
  obtain ⟨S, ps, p, hr, e, k⟩ := h
  have key : ∀ (fl : Fl) (ys : List PV) (q : Int × Int) (qs : List (Int × Int)), flat fl = true → prsP ys = some (q :: qs) → ps = [.lst fl ys] → p = sqP (if lt then minQ q qs else maxQ q qs) → wpAny (model X.prog X.w) X.A (call (.builtin (if lt then "min" else "max")) us) (EP X pins σ Q) X.xe s := by
    intro fl ys q qs hf hq hps hp
    subst hps
    obtain ⟨v, f, rfl, hv⟩ := hr.one
    obtain ⟨a, vs, rfl, ha, rs⟩ := hv.flat hf
    rw [prsP_some hq] at rs
    rw [Vals.ref1 r]
    obtain ⟨its, rv, hl, hz⟩ := I.list (.inl (.inl ha))
    have hdp := RepFs.dp _ rs (toDs_pairs (q :: qs))
    obtain ⟨as, hra⟩ := Dp.readsAll I _ _ _ hdp rv
    have fin : ∀ (m : Int × Int) (i : Nat) (v : Value) (h' : Heap) (tk : Nat), its.toArray[i]? = some v → PySem.W.Holds h' v m → (∀ b o, s.heap.get? b = some o → h'.get? b = some o) → p = sqP m → EP X pins σ Q v { s with heap := h', toks := tk } := by
      intro m i v h' tk hi hh hk hpm
      rw [List.getElem?_toArray] at hi
      obtain ⟨x, hx, rx⟩ := vals_back rv hi
      obtain ⟨pp, _, hrep⟩ := repFs_pairs rs hx
      obtain ⟨bs, hb⟩ := hh
      have I2 : Inv X pins σ H { s with heap := h', toks := tk } := I.kept hk
      obtain ⟨cs, hc2⟩ := Dp.reads I2 _ x v (RepF.dp (d := .tuple [.int pp.1, .int pp.2]) (sqP pp) hrep rfl) rx
      obtain ⟨e1, e2⟩ := reads_pair hc2 hb
      have : pp = m := Prod.ext e1 e2
      subst this
      subst hpm
      exact ⟨x, H, I2, rx, k _ _ _ (New.sc hrep rfl)⟩
    cases lt with
    | true => exact PySem.W.min_list_datum (x := q) (xs := qs) (I.ok.hd hc) hl.isList ⟨as, hra⟩ (show X.A.units + 1 + 1 < cLine by omega) fun i v h' tk hi hh hk => fin _ i v h' tk hi hh hk hp
    | false => exact PySem.W.max_list_datum (x := q) (xs := qs) (I.ok.hd hc) hl.isList ⟨as, hra⟩ (show X.A.units + 1 + 1 < cLine by omega) fun i v h' tk hi hh hk => fin _ i v h' tk hi hh hk hp
  cases lt with
  | true =>
    match ps, e, hr with
    | [.dic fl .t kvs], e, hr =>
      have e : (match prsP (kvs.map fun q => .tup (q.1.map ofK)) with | some (p :: ps) => some (sqP (minQ p ps)) | _ => none) = some p := e
      split at e
      · rename_i q qs hq
        cases e
        obtain ⟨v, f, rfl, hv⟩ := hr.one
        obtain ⟨a, ks, rfl, ha, rks⟩ := hv.dic
        rw [Vals.ref1 r]
        obtain ⟨z, hs, kx, pr, o, es, ep, ho, hx, hdt, he, hn⟩ := (show ObjOk X.prog X.w H s.heap a (.dT ks) from Rd.ok ha I.hok)
        have rs := keysF rks (isKeys_of pr)
        rw [prsP_some hq] at rs
        have rv := vals_refs (kx.map fun x => x.2.1)
        have hdp := RepFs.dp _ rs (toDs_pairs (q :: qs))
        obtain ⟨as, hra⟩ := Dp.readsAll I _ _ _ hdp rv
        have hra : PySem.ReadsAll s.heap (((kx.map fun x => x.2.1).map Value.ref).toArray).toList ((q :: qs).map PySem.W.Datum.toD) as := hra
        refine min_dict_data (I.ok.hd hc) hs ho hx hdt (vs := ((kx.map fun x => x.2.1).map Value.ref).toArray) (fun i en hen => ?_) ?_ hra (PySem.W.alikeAll_datum (q :: qs)) ?_ fun i v h' tk bs hi rr hk => ?_
        · have qe := entry_at he i
          rw [hen] at qe
          cases hb : kx[i]? with
          | none => rw [hb] at qe; exact nomatch (show some en = none from qe)
          | some b =>
            rw [hb] at qe
            have e2 : en = entryOfKey (tupleKind (mixKind X.prog X.w)) b := Option.some.inj qe
            rw [e2, List.getElem?_toArray, List.map_map, List.getElem?_map, hb]; rfl
        · have := size_of_entries he
          simp [this]
        · exact PySem.W.room_all (PySem.W.depthAll_map (q :: qs)) (show X.A.units + 1 + 1 < cLine by omega)
        · rw [List.getElem?_toArray] at hi
          obtain ⟨x, hx2, rx⟩ := vals_back rv hi
          obtain ⟨pp, _, hrep⟩ := repFs_pairs rs hx2
          rw [PySem.W.minD_map] at rr
          have I2 : Inv X pins σ H { s with heap := h', toks := tk } := I.kept hk
          obtain ⟨cs, hc2⟩ := Dp.reads I2 _ x v (RepF.dp (d := .tuple [.int pp.1, .int pp.2]) (sqP pp) hrep rfl) rx
          obtain ⟨e1, e2⟩ := reads_pair hc2 rr
          have : pp = minQ q qs := Prod.ext e1 e2
          subst this
          exact ⟨x, H, I2, rx, k _ _ _ (New.sc hrep rfl)⟩
      · cases e
    | [.lst fl ys], e, _ =>
      obtain ⟨hf, e⟩ : flat fl = true ∧ (match prsP ys with | some (p :: ps) => some (sqP (minQ p ps)) | _ => none) = some p := by
        have e : (if flat fl then (match prsP ys with | some (p :: ps) => some (sqP (minQ p ps)) | _ => none) else none) = some p := e
        cases hf : flat fl with
        | true => rw [hf] at e; exact ⟨rfl, e⟩
        | false => rw [hf] at e; cases e
      split at e
      · rename_i q qs hq
        cases e
        exact key fl ys q qs hf hq rfl rfl
      · cases e
  | false =>
    match ps, e with
    | [.lst fl ys], e =>
      obtain ⟨hf, e⟩ : flat fl = true ∧ (match prsP ys with | some (p :: ps) => some (sqP (maxQ p ps)) | _ => none) = some p := by
        have e : (if flat fl then (match prsP ys with | some (p :: ps) => some (sqP (maxQ p ps)) | _ => none) else none) = some p := e
        cases hf : flat fl with
        | true => rw [hf] at e; exact ⟨rfl, e⟩
        | false => rw [hf] at e; cases e
      split at e
      · rename_i q qs hq
        cases e
        exact key fl ys q qs hf hq rfl rfl
      · cases e
end
section
variable {K : PySem.W.Frag}
theorem shaped_pair (q : Int × Int) : SeqAt.shaped (PySem.W.Datum.toD q) = true := rfl
theorem canLay_pairs : ∀ ps : List (Int × Int), PyData.canLayAll0 (ps.map PySem.W.Datum.toD) = true
  | [] => rfl
  | p :: ps => by
    rw [List.map_cons, PyData.canLayAll0, canLay_pairs ps]
    rfl
theorem shaped_pairs (ps : List (Int × Int)) : SeqAt.shaped (.list (ps.map PySem.W.Datum.toD)) = true := by
  unfold SeqAt.shaped
  have h1 : (PyData.list (ps.map PySem.W.Datum.toD)).canLay0 = true := by
    unfold PyData.canLay0
    exact canLay_pairs ps
  have h2 : (PyData.list (ps.map PySem.W.Datum.toD)).depth ≤ 2 := PySem.W.Datum.depth_le ps
  rw [h1, decide_eq_true (by omega)]; rfl
theorem idx_lt {q : Int × Int} : ∀ {l : List (Int × Int)} {m : Nat} (h : m < l.length), m < l.idxOf q → l[m] ≠ q
  | x :: xs, m, h, hm => by
    rw [List.idxOf_cons] at hm
    by_cases hx : x = q
    · subst hx
      simp at hm
    · have hb : (x == q) = false := by simpa using hx
      rw [hb] at hm
      cases m with
      | zero => exact hx
      | succ m =>
        simp only [cond_false, Nat.add_lt_add_iff_right] at hm
        exact idx_lt (l := xs) (by simpa using h) hm
theorem canLay_strs : ∀ {ts : List Str}, ts.all PyData.strOk = true → PyData.canLayAll0 (ts.map PyData.str) = true
  | [], _ => rfl
  | x :: r, h => by
    rw [List.all_cons, Bool.and_eq_true] at h
    rw [List.map_cons, PyData.canLayAll0, canLay_strs h.2, PyData.canLay0, h.1]; rfl
theorem depth_strs : ∀ ts : List Str, PyData.depthAll (ts.map PyData.str) = 0
  | [] => rfl
  | x :: r => by rw [List.map_cons, PyData.depthAll, depth_strs r]; rfl
theorem shaped_strs {ts : List Str} (h : ts.all PyData.strOk = true) : SeqAt.shaped (.list (ts.map PyData.str)) = true := by
  unfold SeqAt.shaped
  have h1 : (PyData.list (ts.map PyData.str)).canLay0 = true := by
    unfold PyData.canLay0
    exact canLay_strs h
  have h2 : (PyData.list (ts.map PyData.str)).depth ≤ 1 := by
    rw [PyData.depth, depth_strs]; exact Nat.le_refl _
  rw [h1, decide_eq_true (by omega)]; rfl
theorem shaped_str {w : Str} (h : PyData.strOk w = true) : SeqAt.shaped (.str w) = true := by
  unfold SeqAt.shaped
  have h1 : (PyData.str w).canLay0 = true := by rw [PyData.canLay0]; exact h
  rw [h1]; rfl
theorem idx_ltS {q : Str} : ∀ {l : List Str} {m : Nat} (h : m < l.length), m < l.idxOf q → l[m] ≠ q
  | x :: xs, m, h, hm => by
    rw [List.idxOf_cons] at hm
    cases hb : (x == q) with
    | true => rw [hb] at hm; simp at hm
    | false =>
      have hx : x ≠ q := by simpa using hb
      rw [hb] at hm
      cases m with
      | zero => exact hx
      | succ m =>
        simp only [cond_false, Nat.add_lt_add_iff_right] at hm
        exact idx_ltS (l := xs) (by simpa using h) hm
theorem strsP_some : ∀ {ys : List PV} {ts : List Str}, strsP ys = some ts → ys = ts.map .str
  | [], _, h => by cases h; rfl
  | .str x :: r, ts, h => by
    obtain ⟨us, h1, rfl⟩ := map_some (o := strsP r) h
    rw [strsP_some h1]; rfl
  | .non :: _, _, h => by cases h
  | .bl _ :: _, _, h => by cases h
  | .int _ :: _, _, h => by cases h
  | .tup _ :: _, _, h => by cases h
  | .ktp _ :: _, _, h => by cases h
  | .lst _ _ :: _, _, h => by cases h
  | .dic _ _ _ :: _, _, h => by cases h
theorem toDs_strs : ∀ ts : List Str, toDs (ts.map PV.str) = some (ts.map PyData.str)
  | [] => rfl
  | x :: r => by rw [List.map_cons, toDs, toDs_strs r]; rfl
/-- l.index(x), l a list under a name -/
theorem rd_ixl {i : Nat} {e : CE} {σ : St} {H : Hp} {Q : VK} (h : rdE K (.ixl i e) σ H Q) : tBM K "list" (rIndexD K) (tVar i) (tCons (rdE K e) tNil) σ H Q := by
  obtain ⟨env, S, F, p, env', m, he, k⟩ := h
  unfold ev at he
  split at he
  · rename_i fl xs hs
    split at he
    · rename_i hf
      obtain ⟨⟨p1, e1⟩, h1, he⟩ := R.bind_eq_ok he
      simp only at he
      split at he
      · rename_i x hx
        obtain ⟨z, hz, hr⟩ := R.bind_eq_ok he
        have hz := R.of_eq_ok hz
        injection hr with hr
        injection hr with q1 q2
        subst q1; subst q2
        obtain ⟨v, F1, F2, hv, _, _, _, rv, _⟩ := m.en.take hs
        obtain ⟨a0, vs0, rfl, ha0, _⟩ := rv.flat hf
        refine ⟨_, hv, .inl ⟨rfl, vs0, .inl (.inl ha0)⟩, env, S, F, p1, e1, m, h1, fun y H2 S2 F3 f2 po => ?_⟩
        obtain ⟨v', G1, G2, hv', _, _, _, rv', _⟩ := po.m.en.take hx
        rw [hv] at hv'
        cases hv'
        have cs : (∃ g ys ps q, x = .lst g ys ∧ flat g = true ∧ prsP ys = some ps ∧ prP p1 = some q ∧ q ∈ ps ∧ z = .int (ps.idxOf q : Nat)) ∨ ∃ g ys ts w, x = .lst g ys ∧ flat g = true ∧ strsP ys = some ts ∧ p1 = .str w ∧ (w ∈ ts ∧ ts.all PyData.strOk = true) ∧ z = .int (ts.idxOf w : Nat) := by
          cases x with
          | lst g ys =>
            have hz : (if flat g then (match prsP ys, prP p1 with
              | some ps, some q => if decide (q ∈ ps) then some (PV.int (ps.idxOf q : Nat)) else none
              | _, _ => match (generalizing := false) strsP ys, p1 with
                | some ts, .str w => if decide (w ∈ ts) && ts.all PyData.strOk then some (PV.int (ts.idxOf w : Nat)) else none
                | _, _ => none) else none) = some z := hz
            split at hz
            · rename_i hg
              split at hz
              · rename_i ps q h3 h4
                obtain ⟨h5, rfl⟩ := some_if hz
                exact .inl ⟨g, ys, ps, q, rfl, hg, h3, h4, of_decide_eq_true h5, rfl⟩
              · cases hs2 : strsP ys with
                | none => rw [hs2] at hz; cases hz
                | some ts =>
                  rw [hs2] at hz
                  cases p1 with
                  | str w =>
                    have hz : (if decide (w ∈ ts) && ts.all PyData.strOk then some (PV.int (ts.idxOf w : Nat)) else none) = some z := hz
                    obtain ⟨h5, rfl⟩ := some_if hz
                    rw [Bool.and_eq_true] at h5
                    exact .inr ⟨g, ys, ts, w, rfl, hg, hs2, rfl, ⟨of_decide_eq_true h5.1, h5.2⟩, rfl⟩
                  | _ => cases hz
            · cases hz
          | _ => cases hz
        rcases cs with ⟨g, ys, ps, q, rfl, hg, hps, hq, hmem, rfl⟩ | ⟨g, ys, ts, w, rfl, hg, hps, rfl, ⟨hmem, hok⟩, rfl⟩
        rotate_left
        · obtain ⟨a1, vs1, ea, ha1, rs1⟩ := rv'.flat hg
          cases ea
          rw [strsP_some hps] at rs1
          have hd1 := RepFs.dp _ rs1 (toDs_strs ts)
          have hd2 : Dp K H2 y (.str w) := RepO.dp po.r rfl
          have hlt : ts.idxOf w < ts.length := List.idxOf_lt_length_iff.mpr hmem
          refine ⟨_, y, .str w, ts.map PyData.str, ts.idxOf w, .str ts[ts.idxOf w], rfl, rfl, .lst (.inl (.inl ha1)) hd1, hd2, shaped_strs hok, shaped_str (List.all_eq_true.mp hok w hmem), ?_, ?_, fun m' z' hm hz' => ?_, ?_⟩
          · rw [List.getElem?_map, List.getElem?_eq_getElem hlt]; rfl
          · rw [List.getElem_idxOf hlt]
            simp [PyData.eqv]
          · rw [List.getElem?_map, List.getElem?_eq_getElem (show m' < ts.length by omega)] at hz'
            cases hz'
            have hne : ts[m'] ≠ w := fun e => idx_ltS (by omega) hm e
            simp [PyData.eqv, hne]
          · exact k _ H2 S2 F3 Emp (((New.sc (show RepF K H2 S2 (.int (ts.idxOf w : Nat)) (.int (ts.idxOf w : Nat)) from rfl) rfl).post po.m).after (po.st.weak fun a x => .inl x) po.m.dj)
        obtain ⟨a1, vs1, ea, ha1, rs1⟩ := rv'.flat hg
        cases ea
        have ep := prP_some hq
        subst ep
        rw [prsP_some hps] at rs1
        have hd1 := RepFs.dp _ rs1 (toDs_pairs ps)
        have hd2 : Dp K H2 y (PySem.W.Datum.toD q) := RepO.dp po.r rfl
        have hlt : ps.idxOf q < ps.length := List.idxOf_lt_length_iff.mpr hmem
        refine ⟨_, y, PySem.W.Datum.toD q, ps.map PySem.W.Datum.toD, ps.idxOf q, PySem.W.Datum.toD ps[ps.idxOf q], rfl, rfl, .lst (.inl (.inl ha1)) hd1, hd2, shaped_pairs ps, shaped_pair q, ?_, ?_, fun m' z' hm hz' => ?_, ?_⟩
        · rw [List.getElem?_map, List.getElem?_eq_getElem hlt]; rfl
        · rw [PySem.W.Datum.eqv, List.getElem_idxOf hlt]
          exact decide_eq_true rfl
        · rw [List.getElem?_map, List.getElem?_eq_getElem (show m' < ps.length by omega)] at hz'
          cases hz'
          rw [PySem.W.Datum.eqv]
          refine decide_eq_false fun e => ?_
          exact idx_lt (by omega) hm e
        · exact k _ H2 S2 F3 Emp (((New.sc (show RepF K H2 S2 (.int (ps.idxOf q : Nat)) (.int (ps.idxOf q : Nat)) from rfl) rfl).post po.m).after (po.st.weak fun a x => .inl x) po.m.dj)
      · cases he
    · cases he
  · cases he
end
end EL

set_option maxRecDepth 100000
/-! EL14f: a list of lists that is only looked at -/
namespace EL
open PySem PySem.Spec L2
section
variable {K : PySem.W.Frag} {H H' : Hp} {S S' F F' f : AS} {env env' : Env} {σ : St} {p : PV} {v : V}
theorem RepO.plain (h : RepO K H S p v F) (ho : isOwn p = false) : RepO K H S p v Emp := by
  match p, h, ho with
  | .non, h, _ => exact h
  | .bl _, h, _ => exact h
  | .int _, h, _ => exact h
  | .str _, h, _ => exact h
  | .tup _, h, _ => exact h
  | .ktp _, h, _ => exact h
  | .lst .frz _, h, _ => exact h
  | .lst .ro _, h, _ => exact h
  | .dic .frz _ _, h, _ => exact h
  | .dic .ro _ _, h, _ => exact h
theorem REnv.drop : ∀ {e : Env} {σ : St} {F : AS}, REnv K H S e σ F → REnv K H S (dropO e) σ Emp
  | [], _, _, h => h
  | none :: e, _, _, h => by
    obtain ⟨x, t, rfl, h1⟩ := h
    exact ⟨x, t, rfl, REnv.drop h1⟩
  | some q :: e, _, _, h => by
    obtain ⟨w, t, F1, F2, rfl, _, _, _, r, h1⟩ := h
    have ih := REnv.drop h1
    show REnv K H S ((if isOwn q then none else some q) :: dropO e) _ _
    cases ho : isOwn q with
    | true =>
      rw [if_pos rfl]
      exact ⟨_, t, rfl, ih⟩
    | false =>
      rw [if_neg (by decide)]
      exact ⟨w, t, Emp, Emp, rfl, fun a h => h, fun a h => h, fun a h => h.elim, r.plain ho, ih⟩
theorem M.drop (m : M K env σ H S F) : M K (dropO env) σ H S Emp := ⟨m.en.drop, fun a _ h => h.elim, fun a h => h.elim, m.st⟩
theorem RepFs.strs : ∀ {xs : List PV} {vs : List V}, (strsP xs).isSome = true → RepFs K H S xs vs → ∀ H2 S2, RepFs K H2 S2 xs vs
  | [], _, _, h, _, _ => h
  | x :: xs, _, hs, h, H2, S2 => by
    obtain ⟨w, ws, rfl, h1, h2⟩ := h
    cases x with
    | str z =>
      have hs : ((strsP xs).map (z :: ·)).isSome = true := hs
      rw [Option.isSome_map] at hs
      exact ⟨w, ws, rfl, h1, RepFs.strs hs h2 H2 S2⟩
    | _ => cases hs
theorem RepO.plainR (h : RepO K H S p v f) (hp : EL.plainR p = true) (S2 : AS) : RepO K H S2 p v Emp := by
  cases p with
  | non => exact h
  | bl b => exact h
  | int i => exact h
  | str z => exact h
  | tup xs =>
    obtain ⟨a, vs, e, h1, h2⟩ := (show RepF K H S (.tup xs) v from h)
    exact (show RepF K H S2 (.tup xs) v from ⟨a, vs, e, h1, RepFs.strs hp h2 H S2⟩)
  | ktp xs => exact absurd hp (by simp [EL.plainR])
  | lst g xs => exact absurd hp (by simp [EL.plainR])
  | dic g d xs => exact absurd hp (by simp [EL.plainR])
theorem rd_brw {j : Nat} {c : CE} {Q : VK} (h : rdE K (.brw j c) σ H Q) : rdE K c σ H Q := by
  obtain ⟨env, S, F, p, env', m, he, k⟩ := h
  unfold ev at he
  split at he
  · rename_i xs hs
    have hr : rdS env j = .ok (.lst .frz xs, env.set j (some (.lst .frz xs))) := by
      unfold rdS
      rw [hs]
      rfl
    obtain ⟨v0, S1, F1, _, po⟩ := m.rd hr
    obtain ⟨⟨p1, e1⟩, h1, he⟩ := R.bind_eq_ok he
    simp only at he
    split at he
    · rename_i hp
      injection he with he
      injection he with q1 q2
      subst q1; subst q2
      refine ⟨_, S1, Emp, p1, e1, po.m.drop, h1, fun v H2 S2 F2 f q => ?_⟩
      have fr : ∀ b o, H b = some o → H2 b = some o := fun b o e => q.st.fr b o e fun x => x.elim
      have kw : KeptW F H S H2 S := ⟨⟨fun a h => h, fun a o _ e => fr a o e, fun a o _ e => fr a o e⟩, fun a o _ e => fr a o e⟩
      have m2 : M K env σ H2 S F := ⟨m.en.keptW kw, m.dj, fun a h => Mu.keptW kw h (m.mu a h), fun a h e => by
        cases hh : H a with
        | none => exact m.st a h hh
        | some o => rw [fr a o hh] at e; cases e⟩
      exact k v H2 S F Emp ⟨m2, q.r.plainR hp S, fun a h => h.elim, fun a h => h.elim, fun a h => h.elim, ⟨fun a h => h, fun a h => by
        rcases h with h | h | h
        · exact .inl h
        · exact .inr (.inl h)
        · exact h.elim, fun b o e _ => fr b o e⟩⟩
    · cases he
  · cases he
end
end EL

set_option maxRecDepth 100000
/-! EL14g: sorted of pairs; a text's signs exchanged -/
namespace EL
open PySem PySem.Spec L2
theorem ltQ_iff {p q : Int × Int} : ltQ p q = true ↔ p.1 < q.1 ∨ (p.1 = q.1 ∧ p.2 < q.2) := SrtO.lexB_iff
theorem insQ_perm (p : Int × Int) : ∀ l, (insQ p l).Perm (p :: l)
  | [] => List.Perm.refl _
  | q :: r => by
    unfold insQ
    split
    · exact ((insQ_perm p r).cons q).trans (List.Perm.swap p q r)
    · exact List.Perm.refl _
theorem srtQ_perm : ∀ l, (srtQ l).Perm l
  | [] => List.Perm.refl _
  | p :: l => by
    show (insQ p (srtQ l)).Perm _
    exact (insQ_perm p _).trans ((srtQ_perm l).cons p)
abbrev AscQ (l : List (Int × Int)) : Prop := l.Pairwise fun x y => ltQ y x = false
theorem ltQ_no {p q : Int × Int} : ltQ p q = false ↔ ¬ (p.1 < q.1 ∨ (p.1 = q.1 ∧ p.2 < q.2)) := by
  rw [← ltQ_iff, Bool.not_eq_true]
theorem insQ_asc (p : Int × Int) : ∀ {l}, AscQ l → AscQ (insQ p l)
  | [], _ => List.pairwise_singleton _ _
  | q :: r, h => by
    have ⟨h1, h2⟩ := List.pairwise_cons.mp h
    unfold insQ
    split
    · rename_i e
      refine List.pairwise_cons.mpr ⟨fun y hy => ?_, insQ_asc p h2⟩
      rcases List.mem_cons.mp ((insQ_perm p r).mem_iff.mp hy) with rfl | hy
      · rw [ltQ_no]
        have := ltQ_iff.mp e
        omega
      · exact h1 y hy
    · rename_i e
      have e : ltQ q p = false := by simpa using e
      refine List.pairwise_cons.mpr ⟨fun y hy => ?_, h⟩
      rcases List.mem_cons.mp hy with rfl | hy
      · exact e
      · have a := ltQ_no.mp (h1 y hy)
        have b := ltQ_no.mp e
        rw [ltQ_no]
        omega
theorem srtQ_asc : ∀ l, AscQ (srtQ l)
  | [] => .nil
  | p :: l => insQ_asc p (srtQ_asc l)
theorem ascQ_uniq : ∀ {l m : List (Int × Int)}, AscQ l → AscQ m → l.Perm m → l = m
  | [], m, _, _, h => (List.Perm.nil_eq h)
  | x :: l, [], _, _, h => absurd h.length_eq (by simp)
  | x :: l, y :: m, hl, hm, h => by
    have ⟨a1, a2⟩ := List.pairwise_cons.mp hl
    have ⟨b1, b2⟩ := List.pairwise_cons.mp hm
    have e1 : x = y ∨ ltQ x y = false := by
      rcases List.mem_cons.mp (h.mem_iff.mp (List.mem_cons_self (a := x))) with e | q
      · exact .inl e
      · exact .inr (b1 x q)
    have e2 : x = y ∨ ltQ y x = false := by
      rcases List.mem_cons.mp (h.mem_iff.mpr (List.mem_cons_self (a := y))) with e | q
      · exact .inl e.symm
      · exact .inr (a1 y q)
    have e : x = y := by
      rcases e1 with e | e1
      · exact e
      rcases e2 with e | e2
      · exact e
      have := ltQ_no.mp e1
      have := ltQ_no.mp e2
      exact Prod.ext (by omega) (by omega)
    subst e
    rw [ascQ_uniq a2 b2 h.cons_inv]
theorem srtQ_of_perm {l m : List (Int × Int)} (h : l.Perm m) : srtQ l = srtQ m :=
  ascQ_uniq (srtQ_asc l) (srtQ_asc m) ((srtQ_perm l).trans (h.trans (srtQ_perm m).symm))
section
variable {K : PySem.W.Frag} {H : Hp} {S : AS}
def keyV (H : Hp) : V → Int × Int
  | .ref t => match H t with
    | some (.tup [.int a, .int b]) => (a, b)
    | _ => (0, 0)
  | _ => (0, 0)
theorem repF_sq {p : Int × Int} {x : V} (h : RepF K H S (sqP p) x) : ∃ t, x = .ref t ∧ H t = some (.tup [.int p.1, .int p.2]) := by
  obtain ⟨a, vs, rfl, h1, h2⟩ := (show RepF K H S (.tup [.int p.1, .int p.2]) x from h)
  obtain ⟨w, ws, rfl, h3, h4⟩ := h2
  obtain ⟨w2, ws2, rfl, h5, h6⟩ := h4
  cases (show w = .int p.1 from h3)
  cases (show w2 = .int p.2 from h5)
  cases (show ws2 = [] from h6)
  exact ⟨a, rfl, h1⟩
theorem keyV_sq {p : Int × Int} {x : V} (h : RepF K H S (sqP p) x) : keyV H x = p := by
  obtain ⟨t, rfl, e⟩ := repF_sq h
  unfold keyV
  simp only [e]
theorem repFs_keys : ∀ {ps : List (Int × Int)} {vs : List V}, RepFs K H S (ps.map sqP) vs → vs.map (keyV H) = ps ∧ ∀ x ∈ vs, RepF K H S (sqP (keyV H x)) x
  | [], _, h => by cases h; exact ⟨rfl, fun x hx => absurd hx (by simp)⟩
  | p :: ps, _, h => by
    obtain ⟨w, ws, rfl, h1, h2⟩ := h
    obtain ⟨a, b⟩ := repFs_keys h2
    refine ⟨by rw [List.map_cons, a, keyV_sq h1], fun x hx => ?_⟩
    rcases List.mem_cons.mp hx with rfl | hx
    · rw [keyV_sq h1]; exact h1
    · exact b x hx
theorem repFs_of_keys : ∀ {ys : List V}, (∀ y ∈ ys, RepF K H S (sqP (keyV H y)) y) → RepFs K H S ((ys.map (keyV H)).map sqP) ys
  | [], _ => rfl
  | y :: ys, h => ⟨y, ys, rfl, h y List.mem_cons_self, repFs_of_keys fun z hz => h z (List.mem_cons_of_mem _ hz)⟩
end
section
variable {X : Cx}
theorem call_sortedE : CallR X (.builtin "sorted") (rBl X.K (bltP .sorted)) := by
  intro pins s σ H xs us Q I r h
  obtain ⟨S, ps, p, hr, e, k⟩ := h
  match ps, e, hr with
  | [.lst fl ys], e, hr =>
    obtain ⟨v, f, rfl, hp⟩ := hr.one
    obtain ⟨e1, e2⟩ : flat fl = true ∧ (prsP ys).map (fun ps => PV.lst .own ((srtQ ps).map sqP)) = some p := by
      have e : (if flat fl then (prsP ys).map (fun ps => PV.lst .own ((srtQ ps).map sqP)) else none) = some p := e
      cases hf : flat fl with
      | true => rw [hf] at e; exact ⟨rfl, e⟩
      | false => rw [hf] at e; cases e
    obtain ⟨qs, hq, rfl⟩ := map_some e2
    obtain ⟨a, vs, rfl, ha, rs⟩ := hp.flat e1
    rw [prsP_some hq] at rs
    obtain ⟨hk, hm⟩ := repFs_keys rs
    refine cr_sortedPO pins s σ H _ us Q I r ⟨a, vs, keyV H, rfl, .inl (.inl ha), fun x hx => repF_sq (hm x hx), fun zs l hs hb hl => ?_⟩
    have e3 : zs.map (keyV H) = srtQ qs := ascQ_uniq (SrtO.srtd_map (f := keyV H) (lt := SrtO.lexB) hs) (srtQ_asc qs) ((hb.perm.map _).trans (by rw [hk]; exact (srtQ_perm qs).symm))
    have rs2 := repFs_of_keys (K := X.K) (H := H) (S := S) (ys := zs) fun y hy => hm y (hb.perm.mem_iff.mp hy)
    rw [e3] at rs2
    exact k _ _ _ (M.newL hl rs2)
end
section
variable {K : PySem.W.Frag} {H : Hp} {S : AS}
theorem rd_rpl {a : CE} {y z : Str} {σ : St} {H : Hp} {Q : VK} (h : rdE K (.rpl a y z) σ H Q) : CwR.tReplC (rdE K a) y z σ H Q := by
  obtain ⟨env, S, F, p, env', m, he, k⟩ := h
  unfold ev at he
  obtain ⟨⟨x, e1⟩, h1, hr⟩ := R.bind_eq_ok he
  refine ⟨env, S, F, x, e1, m, h1, fun v1 H1 S1 F1 f1 p1 => ?_⟩
  match x, hr, p1 with
  | .str x, hr, p1 =>
    simp only at hr
    split at hr
    · rename_i hb
      injection hr with hr
      injection hr with q1 q2
      subst q1; subst q2
      exact ⟨x, p1.r, of_decide_eq_true hb, k _ H1 S1 F1 Emp (((New.str _).post p1.m).after p1.weak p1.m.dj)⟩
    · cases hr
end
end EL

set_option maxRecDepth 100000
set_option maxHeartbeats 4000000
/-! EL14h: a comprehension whose element wants that a token is out -/
namespace EL
open PySem PySem.Spec L2
/-- what a run reaches, with the tokens -/
theorem tkF {α : Type} {M : Model} {A : Around} {E : Value → Shared → Prop} {t : Sem α} {s : Shared} {P Q : α → Shared → Prop} (hn : 1 ≤ s.toks) (h : wpAny M A t P (fun _ _ => False) s) (hq : ∀ a s', 1 ≤ s'.toks → P a s' → Q a s') : wpAny M A t Q E s :=
  wpAny_mono (wpAny_toks_of hn h) (fun a s' z => hq a s' z.1 z.2) fun _ _ z => z.2.elim
theorem tkE {α : Type} {M : Model} {A : Around} {E : Value → Shared → Prop} {t : Sem α} {s : Shared} {P Q : α → Shared → Prop} (hn : 1 ≤ s.toks) (h : wpAny M A t P E s) (hq : ∀ a s', 1 ≤ s'.toks → P a s' → Q a s') : wpAny M A t Q E s :=
  wpAny_mono (wpAny_toks_of hn h) (fun a s' z => hq a s' z.1 z.2) fun _ _ z => z.2
/-- the iterable gives a token out -/
def PIK (X : Cx) (tg it : Expr) (wi : TI) : Prop :=
  ∀ (ps : List (Addr × Obj)) (s0 : Shared) (sg : St) (h0 : Hp) (G : It → Hp → Prop), Inv X ps sg h0 s0 → wi sg h0 G →
    wpAny (model X.prog X.w) X.A (eval it X.env) (fun v z => 1 ≤ z.toks ∧ wpAny (model X.prog X.w) X.A (pyIter v) (PIE X ps sg tg G) X.xe z) X.xe s0
section
variable {X : Cx} {ps : List (Addr × Obj)} {s0 : Shared} {sg : St} {h0 : Hp} {G : VK} {el tg it : Expr} {fs : List Expr} {tt : TT} {sc : Scope} {ow : List (Str × Nat)} {po po' : Pos} {wi : TI} {g : TG} {te : TE} {us : Option (Value → Sem Unit)} {Z : Value → Shared → Prop}
theorem lcK_core (cm : X.calm = true) (nd : X.N.Nodup) (iv : Inv X ps sg h0 s0) (hi : PIK X tg it wi) (ok : BlkOk X.N X.env.scope sc ow)
    (hg : ∀ (u : Shared) (K1 : Hp) (C : Addr) (cl : List (Str × Addr)) (fp : List Addr), PG (X.blk u K1 sc (compEnvC sc cl C X.env) fp) tg g)
    (ht : ∀ (u : Shared) (K1 : Hp) (C : Addr) (cl : List (Str × Addr)) (fp : List Addr), PTs (X.blk u K1 sc (compEnvC sc cl C X.env) fp) fs tt)
    (hb : ∀ (u : Shared) (K1 : Hp) (C : Addr) (cl : List (Str × Addr)) (fp : List Addr), PET (X.blk u K1 sc (compEnvC sc cl C X.env) fp) el te) (fo : ∀ x, foldedSetIterable it X.env x = pure x)
    (h : tLc wi g tt te (ow.map (·.2)) sg h0 G)
    (fin : ∀ D C u m K1, Inv X ps sg K1 u → G (.ref D) K1 → u.heap.Ns C m → FpOk X ps K1 C → compPost (model X.prog X.w) X.A X.xe us Z (.ref D) C (.ok .next) u) :
    wpAny (model X.prog X.w) X.A (comprehension (.ListComp el [⟨tg, it, fs, 0⟩] sc po) sc X.env po' (newList []) false (eval it X.env) us) Z X.xe s0 := by
  have fr : ∀ y ∈ sc.names, y.2 = .free → ∃ c, X.env.cells.lookup y.1 = some c := fun y m e =>
    (ok.free y m e).elim (fun k => iv.ok.has _ (.inl k)) fun k => iv.ok.has _ (.inr k)
  refine wpAny_comprehension_free (use := us) rfl fo (closure_ok fr) ok.kind (fun y m e => by rw [ok.uniq y m, e]) (thn (hi ps s0 sg h0 _ iv h) fun xv z1 ⟨k1, hx⟩ => ?_)
  refine tkE k1 hx fun itv z2 k2 q0 => ?_
  obtain ⟨a, fp, tn, J, h2, e, iv2, T, t0, f2, q⟩ := q0
  subst e
  refine wpAny_newObj_type (newEnv_comp ?_) (by show 0 ≤ sizeLine; decide)
  generalize hD : z2.heap.objs.size = D
  obtain ⟨W, ⟨m0, w0⟩, turn⟩ := q D (iv2.hok.fresh (Nat.le_of_eq hD))
  generalize e3 : ({ z2 with heap := z2.heap.push { cls := .type "list", data := .seq ([] : List Value).toArray } } : Shared) = z3
  have p3 : z3.heap = z2.heap.push { cls := .type "list", data := .seq ([] : List Value).toArray } := by rw [← e3]
  have k3 : 1 ≤ z3.toks := by rw [← e3]; exact k2
  have iv3 : Inv X ps sg (upd h2 D (.lst [])) z3 := by
    rw [← e3]
    exact iv2.laid (t' := z2.toks) (fun b o x => Heap.get?_push_of_some _ x) (Nat.le_of_eq hD) ⟨Nat.zero_le _, [], 0, .nil, by rw [← hD]; exact Heap.get?_push_size _ rfl⟩
  have f3 : ∀ b ∈ fp, FpOk X ps (upd h2 D (.lst [])) b ∧ b < z3.heap.objs.size := fun b m => by
    obtain ⟨o, x, _⟩ := T.obj _ _ t0 b m
    have lt := Heap.lt_size x
    have ne : b ≠ D := by rw [← hD]; exact Nat.ne_of_lt lt
    exact ⟨⟨by rw [upd_ne ne]; exact (f2 b m).1, (f2 b m).2⟩, by rw [p3, Heap.size_push]; exact Nat.lt_succ_of_lt lt⟩
  have t3 : tn 0 z3.heap := T.keep _ _ _ t0 fun b _ o x => by rw [p3]; exact Heap.get?_push_of_some _ x
  have iv4 := block_start iv3 ok nd f3
  have pg := hg z3 (upd h2 D (.lst [])) z3.heap.objs.size (cellsFrom (z3.heap.objs.size + 1) sc.names (cloFrom X.env.cells sc.names [])) fp
  have pt := ht z3 (upd h2 D (.lst [])) z3.heap.objs.size (cellsFrom (z3.heap.objs.size + 1) sc.names (cloFrom X.env.cells sc.names [])) fp
  have pb := hb z3 (upd h2 D (.lst [])) z3.heap.objs.size (cellsFrom (z3.heap.objs.size + 1) sc.names (cloFrom X.env.cells sc.names [])) fp
  show codeAny _ _ (.compStart (.ListComp el [⟨tg, it, fs, 0⟩] sc po) 0 (.ref a) (.ref D) (compEnvC sc (cellsFrom (z3.heap.objs.size + 1) sc.names (cloFrom X.env.cells sc.names [])) z3.heap.objs.size X.env)) (compPost (model X.prog X.w) X.A X.xe us Z (.ref D) z3.heap.objs.size) { z3 with heap := pushCells (z3.heap.push { cls := .type "dict", data := .dict #[] }) sc.names }
  have nf : ∀ b ∈ fp, (upd h2 D (.lst [])) b = none := fun b m => (f3 b m).1.1
  generalize ec : compEnvC sc (cellsFrom (z3.heap.objs.size + 1) sc.names (cloFrom X.env.cells sc.names [])) z3.heap.objs.size X.env = ce at iv4 pg pt pb ⊢
  have cl : ce.locals = z3.heap.objs.size := by subst ec; rfl
  generalize e5 : upd h2 D (.lst []) = K3 at iv3 iv4 pg pt pb w0 nf f3
  generalize e4 : ({ z3 with heap := pushCells (z3.heap.push { cls := .type "dict", data := .dict #[] }) sc.names } : Shared) = z4 at iv4 ⊢
  have k4 : 1 ≤ z4.toks := by rw [← e4]; exact k3
  have t4 : tn 0 z4.heap := T.keep _ _ _ t3 fun b _ o x => by rw [← e4]; exact pushCells_keeps _ _ _ _ (Heap.get?_push_of_some _ x)
  let Y : Cx := X.blk z3 K3 sc ce fp
  have own : ∀ {sg' : St} {K' : Hp} {u : Shared}, Inv Y [] sg' K' u → (∀ b ∈ fp, K' b = none) → ∀ b ∈ fp, FpOk Y [] K' b := fun {sg' K' u} i' n b m =>
    ⟨n b m, (i'.ok.exf b m).1, i'.ok.exfs b m, .inl m, fun x c e => (i'.ok.exf b m).2 x c e, fun p hp => absurd (show p ∈ ([] : List (Addr × Obj)) ++ [] from hp) (by simp)⟩
  refine codeAny_compStart_list ?_ (T.self X.A 0 _ _ _ t4 ?_)
  all_goals
    refine compLoop_any (fun n u => 1 ≤ u.toks ∧ ∃ i K', Inv Y [] (wipe sg (ow.map (·.2))) K' u ∧ tn i u.heap ∧ (∀ b ∈ fp, K' b = none) ∧ W i n K') ?_ m0 ⟨k4, 0, K3, iv4, t4, nf, w0⟩
    rintro n z5 ⟨k5, i, K5, i5, t5, n5, w5⟩
    rcases turn i n K5 w5 with ⟨stop, gg⟩ | ⟨go, Nx, hNx, step⟩
    · refine thnF (T.done Y rfl rfl rfl cm i [] z5 _ K5 (fun _ _ => False) i5 (own i5 n5) t5 stop) fun r z6 ⟨hr, i6⟩ => ?_
      subst hr
      have i7 : Inv X ps sg K5 z6 := iv3.call' (ch := fp) i6.os i6.base i6.hok i6.bare fun b m => ⟨(f3 b m).1.2.2.2.1, (f3 b m).1.2.1, (f3 b m).1.2.2.2.2.1, (f3 b m).1.2.2.2.2.2⟩
      have nC : K5 z3.heap.objs.size = none := by
        have y : K5 ce.locals = none := i6.free
        rwa [cl] at y
      obtain ⟨m, hm, _⟩ := i6.loc
      have hm : z6.heap.Ns ce.locals m := hm
      rw [cl] at hm
      exact fin D z3.heap.objs.size z6 m K5 i7 gg hm (iv3.fpOk (Nat.le_refl _) nC)
    · refine tkF k5 (T.item Y rfl rfl rfl cm i [] z5 _ K5 (fun _ _ => False) i5 (own i5 n5) t5 go) fun r z6 k6 ⟨v, hr, h6⟩ => ?_
      subst hr
      refine tkF k6 h6 fun _ z7 k7 ⟨x, K7, i7, r7, y7, t7, n7⟩ => ?_
      have j7 := i7.pinned (own i7 n7) (T.obj _ _ t7)
      refine tkF k7 (pg.run _ z7 _ K7 x v _ j7 r7 (step x K7 y7)) fun _ z8 k8 ⟨s8, K8, i8, hw8, q8⟩ => ?_
      refine tkF k8 (pt.run _ z8 s8 K8 _ i8 q8) fun b z9 k9 ⟨K9, i9, q9⟩ => ?_
      have back : ∀ {u : Shared} {K' : Hp}, 1 ≤ u.toks → Inv Y ([] ++ pinsAt fp z7.heap) s8 K' u → Nx K' → ∃ m, m < n ∧ 1 ≤ u.toks ∧ ∃ i K', Inv Y [] (wipe sg (ow.map (·.2))) K' u ∧ tn i u.heap ∧ (∀ b ∈ fp, K' b = none) ∧ W i m K' := fun {u K'} ku i' nx => by
        obtain ⟨m', lt, w'⟩ := hNx K' nx
        have pin : ∀ b ∈ fp, ∀ o, z7.heap.get? b = some o → u.heap.get? b = some o ∧ K' b = none := fun b m o e =>
          have y := i'.pin (b, o) (List.mem_append_right _ (List.mem_append_right _ (mem_pinsAt m e)))
          ⟨y.1, y.2.1⟩
        refine ⟨m', lt, ku, i + 1, K', (i'.unpinned (pins := [])).weak (by rw [← hw8, wipe_length]) (fun j v e => ?_), T.keep _ _ _ t7 fun b m o e => (pin b m o e).1, fun b m => ?_, w'⟩
        · rw [← hw8] at e
          exact (wipe_some e).1
        · obtain ⟨o, e, _⟩ := T.obj _ _ t7 b m
          exact (pin b m o e).2
      cases b with
      | false =>
        simp only [Bool.false_eq_true, if_false] at q9 ⊢
        exact back k9 i9 q9
      | true =>
        simp only [if_true] at q9 ⊢
        refine tkF k9 (pb _ z9 s8 K9 _ k9 i9 q9) fun y z10 k10 ⟨yv, K10, i10, r10, acc, d10, l10, nx⟩ => ?_
        exact wpAny_with_toks k10 (L2.app_ok (X := Y) i10 d10 l10 r10 fun z11 i11 k11 => back k11 i11 nx)
theorem pe_lcK (cm : X.calm = true) (nd : X.N.Nodup) (hi : PIK X tg it wi) (ok : BlkOk X.N X.env.scope sc ow)
    (hg : ∀ (u : Shared) (K1 : Hp) (C : Addr) (cl : List (Str × Addr)) (fp : List Addr), PG (X.blk u K1 sc (compEnvC sc cl C X.env) fp) tg g)
    (ht : ∀ (u : Shared) (K1 : Hp) (C : Addr) (cl : List (Str × Addr)) (fp : List Addr), PTs (X.blk u K1 sc (compEnvC sc cl C X.env) fp) fs tt)
    (hb : ∀ (u : Shared) (K1 : Hp) (C : Addr) (cl : List (Str × Addr)) (fp : List Addr), PET (X.blk u K1 sc (compEnvC sc cl C X.env) fp) el te) (fo : ∀ x, foldedSetIterable it X.env x = pure x) :
    PE X (.ListComp el [⟨tg, it, fs, 0⟩] sc po) (tLc wi g tt te (ow.map (·.2))) := by
  refine ⟨fun pq s sg H G I h => ?_⟩
  rw [eval_ListComp]
  refine lcK_core cm nd I hi ok hg ht hb fo h fun D C u m K1 I' q hn f => ⟨m, hn, fun h'' sb => ?_⟩
  obtain ⟨a0, a1, a2, a3, a4, a5⟩ := f
  exact ⟨.ref D, K1, I'.turned (t' := u.toks) (fun b o hb e => (sb.2 b hb).trans e) a0 a1 a3 a4 a5, rfl, q⟩
theorem ps_setLcK {i : Nat} {y : Str} {py spo : Pos} (cm : X.calm = true) (nd : X.N.Nodup) (hy : X.N[i]? = some y) (yl : X.env.scope.names.lookup y = some .local)
    (sw : swapsWith (.ListComp el [⟨tg, it, fs, 0⟩] sc po) (some (.Name y py)) spo.line X.env = pure true) (hi : PIK X tg it wi) (ok : BlkOk X.N X.env.scope sc ow)
    (hg : ∀ (u : Shared) (K1 : Hp) (C : Addr) (cl : List (Str × Addr)) (fp : List Addr), PG (X.blk u K1 sc (compEnvC sc cl C X.env) fp) tg g)
    (ht : ∀ (u : Shared) (K1 : Hp) (C : Addr) (cl : List (Str × Addr)) (fp : List Addr), PTs (X.blk u K1 sc (compEnvC sc cl C X.env) fp) fs tt)
    (hb : ∀ (u : Shared) (K1 : Hp) (C : Addr) (cl : List (Str × Addr)) (fp : List Addr), PET (X.blk u K1 sc (compEnvC sc cl C X.env) fp) el te) (fo : ∀ x, foldedSetIterable it X.env x = pure x) :
    PS X (.Assign [.Name y py] (.ListComp el [⟨tg, it, fs, 0⟩] sc po) spo) (tAsg (tLc wi g tt te (ow.map (·.2))) (gName i)) := by
  refine ⟨fun pq s sg H D I h => ?_⟩
  rw [exec_Assign_Name_used _ _ _ _ sw]
  refine wpAny_bind (wpAny_standAt (wpAny_bind ?_))
  show wpAny _ X.A (do let _ ← comprehension (.ListComp el [⟨tg, it, fs, 0⟩] sc po) sc X.env (firstIterPos [⟨tg, it, fs, 0⟩] po) (newList []) false (eval it X.env) (some (assign (.Name y py) X.env))) _ _ s
  have h : tLc wi g tt te (ow.map (·.2)) sg H (fun x K1 => gName i x sg K1 D.nx) := h
  refine wpAny_bind (thn (lcK_core (Z := fun _ u => SP X pq D .next u) cm nd I hi ok hg ht hb fo h fun L C u m K1 I' q hn f => ?_) fun _ u hq => wpAny_pure (wpAny_pure hq))
  show wpAny _ _ (assign (.Name y py) X.env (.ref L)) _ _ _
  refine wpAny_assign_Name (store_ok2 (v := V.ref L) I' nd hy (.inl yl) rfl (fun u2 I2 ⟨a, sb, ha⟩ => ?_) (.inr yl))
  obtain ⟨a0, a1, a2, a3, a4, a5⟩ := f
  have ne : C ≠ a := ha.elim (fun z => by rw [z]; exact a1) fun z e => a4 y a z e.symm
  refine ⟨m, hn.sameBut sb ne, fun h3 sb3 => ?_⟩
  exact ⟨_, K1, I2.turned (t' := u2.toks) (fun b o hb e => (sb3.2 b hb).trans e) a0 a1 a3 a4 a5, q⟩
end
section
variable {X : Cx} {K : PySem.W.Frag}
theorem rdE_litI {n : Int} {σ : L2.St} {H : Hp} {Q : VK} (h : rdE K (.lit (.int n)) σ H Q) : Q (.int n) H := by
  obtain ⟨env, S, F, q, e2, m, he, k⟩ := h
  have hc : ev (.lit (.int n)) env = .ok (.int n, env) := by unfold ev; rfl
  rw [hc] at he
  injection he with he
  injection he with e1 e3
  subst e1; subst e3
  exact k (.int n) H S F Emp ((New.int n).post m)
/-- x[0] gives a token out -/
theorem pik_ix {tg o : Expr} {a : CE} {n : Int} {kd : Nat} {cp po : Pos} (hu : X.A.units + 66 < cLine) (ho : PE X o (rdA X.K a)) (hs : PlainIx (.Constant (.int n) kd cp)) :
    PIK X tg (.Subscript o (.Constant (.int n) kd cp) po) (rdI X.K (.val (.idx a (.lit (.int n))))) := by
  intro pq s sg H G I h
  have h := rd_idx (rd_val h)
  refine PyProof.Rows.Subscript_ (thn (ho.run pq s sg H _ I h) fun v s1 ⟨x, H1, I1, r1, q1⟩ => PySem.wpAny_Constant_int ?_)
  have w := ix_any hu o (.Constant (.int n) kd cp) pq { s1 with toks := s1.toks + 1 } sg H1 x (.int n) v (.int n s1.toks) _ (I1.tok _) r1 ⟨_, rfl⟩ (rdE_litI q1) (hs _ _)
  exact wpAny_mono (wpAny_toks_of (n := 1) (show 1 ≤ s1.toks + 1 by omega) w) (fun _ _ z => ⟨z.1, pi_step z.2⟩) fun _ _ z => z.2
end
end EL

set_option maxRecDepth 100000
/-! EL14i: dicts with tuple keys: a display of one pair, keys and items that are walked -/
namespace EL
open PySem PySem.Spec PySem.W PyProof.Rows PyProof.V PySem.Calls L2
section
variable {X : Cx} {pins : List (Addr × Obj)} {σ : L2.St} {H : Hp} {s : Shared} {d : Addr} {o : Obj}
/-- a locked dict with tuple keys: its entries -/
theorem frzT' {kvs : List (List L2.Key × V)} (I : Inv X pins σ H s) (h : H d = some (.frz o (.dT kvs))) :
    (d == sysModules) = false ∧ s.heap.get? d = some o ∧ o.ExactDict ∧ ∃ (es : Array DictEntry) (ep : Nat), o.data = .dict es ep ∧ es.size = kvs.length ∧
      ∀ (i : Nat) (k : List L2.Key) (v : V), kvs[i]? = some (k, v) → ∃ (en : DictEntry) (q : Addr), es[i]? = some en ∧ en.key = .ref q ∧ H q = some (.tup (k.map kV)) ∧ RelV v en.val := by
  obtain ⟨hd, z, hs, xs, pr, o', es, ep, ho, hx, hdt, he, _⟩ := I.hok d _ h
  rw [hd] at ho
  cases ho
  refine ⟨hs, hd, hx, es, ep, hdt, ?_, fun i k v e => ?_⟩
  · have l1 : es.size = xs.length := size_of_entries he
    have l2 : kvs.length = xs.length := Paired.length pr
    omega
  · obtain ⟨b, hb, e1, e2, e3⟩ := L2.paired_get pr e
    have q := entry_at he i
    rw [hb] at q
    exact ⟨_, b.2.1, q, rfl, e2, e3⟩
/-- the pairs of the locked dict at d, each a new tuple -/
def ItiT (d : Addr) (o : Obj) (kvs : List (List L2.Key × V)) : It :=
  ⟨fun i H => H d = some (.frz o (.dT kvs)) ∧ i < kvs.length, fun i H x H' => ∃ T k v q, kvs[i]? = some (k, v) ∧ x = .ref T ∧ H q = some (.tup (k.map kV)) ∧ H T = none ∧ H' = upd H T (.tup [.ref q, v]), fun i H => H d = some (.frz o (.dT kvs)) ∧ kvs.length ≤ i⟩
theorem turn_itemsT {P : Program} {w : World} {K : PySem.W.Frag} {es : Array DictEntry} {ep : Nat} {kvs : List (List L2.Key × V)} {elts : List Expr} {kk : Nat} {tpos : Pos} (it : Addr) (hod : o.data = .dict es ep) :
    Turn P w K (.Tuple elts kk tpos) (ItiT d o kvs) [it] it (fun i h => ∃ ok ov, IsItemIter h it d i kvs.length ep ok ov) where
  mem := by simp
  obj := fun i h st b hb => by
    have e : b = it := by simpa using hb
    subst e
    obtain ⟨ok, ov, e⟩ := st
    exact ⟨_, e, fun v z => nomatch z⟩
  keep := fun i h h' st k => let ⟨ok, ov, e⟩ := st; ⟨ok, ov, k it (by simp) _ e⟩
  item := by
    intro X hP hw hK hc i pins s σ H E I hf st hg
    subst hP hw hK
    obtain ⟨hd, hi⟩ := hg
    obtain ⟨hs, hgd, hx, es', ep', hdt, hsz, ent⟩ := frzT' I hd
    obtain ⟨rfl, rfl⟩ := L2.dict_ep hod hdt
    obtain ⟨⟨k, v⟩, hkv⟩ : ∃ p, kvs[i]? = some p := ⟨kvs[i], List.getElem?_eq_getElem hi⟩
    obtain ⟨en, q, hen, hkey, hq, hv⟩ := ent i k v hkv
    obtain ⟨ok, ov, he⟩ := st
    rw [← hsz] at he
    have hlt : it < s.heap.objs.size := Heap.lt_size he
    have hi' : i < es'.size := by omega
    have hen' : es'[i] = en := by rw [Array.getElem?_eq_getElem hi'] at hen; exact Option.some.inj hen
    refine DT.nextI he ⟨_, hgd, hx, hdt⟩ hi' fun h' ho hT hz hk => ?_
    rw [hen'] at ho hT
    refine ⟨_, rfl, wpAny_letOwnedTupleGo_items (s := { s with heap := h' }) ho fun h'' he' sb => ?_⟩
    have hT2 : h''.get? s.heap.objs.size = some { cls := .type "tuple", data := .seq #[en.key, en.val] } := (sb.2 _ (Nat.ne_of_gt hlt)).trans hT
    have new : ObjOk X.prog X.w (upd H s.heap.objs.size (.tup [.ref q, v])) h'' s.heap.objs.size (.tup [.ref q, v]) :=
      ⟨by show 2 ≤ sizeLine; decide, [en.key, en.val], .cons hkey (.cons hv .nil), ⟨_, hT2, rfl, _, rfl⟩⟩
    have I1 : Inv X pins σ (upd H s.heap.objs.size (.tup [.ref q, v])) { s with heap := h'' } :=
      I.turnedNew (t' := s.toks) (ch := [it]) (fun b ob hb e => (sb.2 b (by simpa using hb)).trans (hk b ob (by simpa using hb) e)) hf (Nat.le_refl _) new
    refine ⟨.ref s.heap.objs.size, _, I1, rfl, ⟨_, k, v, q, hkv, rfl, hq, I.hok.fresh (Nat.le_refl _), rfl⟩, ⟨en.key, en.val, ?_⟩, fun b hb => ?_⟩
    · rw [← hsz]; exact he'
    · have e : b = it := by simpa using hb
      rw [e, upd_ne (Nat.ne_of_lt hlt)]
      exact (hf it (by simp)).1
  done := by
    intro X hP hw hK hc i pins s σ H E I hf st hg
    subst hP hw hK
    obtain ⟨hd, hi⟩ := hg
    obtain ⟨f0, f1, f2, f3, f4, f5⟩ := hf it (by simp)
    obtain ⟨hs, hgd, hx, es', ep', hdt, hsz, ent⟩ := frzT' I hd
    obtain ⟨rfl, rfl⟩ := L2.dict_ep hod hdt
    obtain ⟨ok, ov, he⟩ := st
    rw [← hsz] at he
    exact DT.endI (I.ok.hd hc) he ⟨_, hgd, hx, hdt⟩ (by omega) fun h' eb => ⟨rfl, I.turned (t' := s.toks) (fun b ob hb e => eb b ob hb e) f0 f1 f3 f4 f5⟩
  self := fun A i s Q E st h => let ⟨_, _, e⟩ := st; PySem.W.kcp_self e h
end
section
variable {X : Cx} {tg e : Expr} {td : TE} {apos cpos : Pos}
/-- a dict that nobody walks: it is locked from here on -/
def iKeysL (td : TE) : TI := fun σ H R => td σ H fun x H1 => ∃ d kvs, x = .ref d ∧ H1 d = some (.dT kvs) ∧ ∀ od, R (Itkt d od kvs) (upd H1 d (.frz od (.dT kvs)))
def iItemsL (td : TE) : TI := fun σ H R => td σ H fun x H1 => ∃ d kvs, x = .ref d ∧ H1 d = some (.dT kvs) ∧ ∀ od, R (ItiT d od kvs) (upd H1 d (.frz od (.dT kvs)))
theorem pi_keysL (he : PE X e td) : PI X tg e (iKeysL td) := by
  refine ⟨fun pins s σ H R I h => ?_⟩
  refine thn (he.run pins s σ H _ I h) fun u s1 ⟨x, H1, I1, rx, d, kvs, ex, hd, q⟩ => ?_
  subst ex
  obtain rfl : u = Value.ref d := rx
  obtain ⟨od, I2⟩ := I1.lock hd trivial
  obtain ⟨hs, hgd, hx, es, ep, hdt, hsz, ent⟩ := I2.frzT upd_same
  refine iter_keys hs hgd hx hdt (pi_one (tk := s1.toks) I2 _ (turn_keysT _ hdt) ⟨_, Heap.get?_push_size _ rfl, rfl, ?_⟩ (q od))
  rw [hsz] <;> rfl
theorem pi_itemsL {elts : List Expr} {kk : Nat} {tpos : Pos} (he : PE X e td) (hbase : attributeBase e "items" X.env (eval e X.env) = eval e X.env) (hline : (apos.endLine == cpos.line) = true) :
    PI X (.Tuple elts kk tpos) (.Call (.Attribute e "items" apos) [] [] cpos) (iItemsL td) := by
  refine ⟨fun pins s σ H R I h => ?_⟩
  refine wpAny_Call_method (T := "dict") (id := "dict.items") hbase rfl hline F.plainAttrs_dict F.slot_dict_items F.type_dict_items (thn (he.run pins s σ H _ I h) fun u s1 ⟨x, H1, I1, rx, d, kvs, ex, hd, q⟩ => ?_)
  subst ex
  obtain rfl : u = Value.ref d := rx
  obtain ⟨od, I2⟩ := I1.lock hd trivial
  obtain ⟨hs, hgd, hx, es, ep, hdt, hsz, ent⟩ := I2.frzT upd_same
  obtain ⟨ty, nd⟩ := isD_at I1 (.inr ⟨kvs, .inl hd⟩)
  have raw : DT.Raw s1.heap d es ep := ⟨_, hgd, hx, hdt⟩
  refine ⟨ty, nd.1, ?_⟩
  have I3 : Inv X pins σ (upd H1 d (.frz od (.dT kvs))) { s1 with heap := s1.heap.push { cls := .type "dict_items", data := .fields #[.ref d] } } := I2.kept (t' := s1.toks) fun b ob q => Heap.get?_push_of_some _ q
  have fin : wpAny (model X.prog X.w) X.A (pyIter (.ref s1.heap.objs.size)) (PIE X pins σ (.Tuple elts kk tpos) R) X.xe { s1 with heap := s1.heap.push { cls := .type "dict_items", data := .fields #[.ref d] } } := by
    refine DT.iterI (d := d) (es := es) (ep := ep) ⟨_, Heap.get?_push_size _ rfl, rfl, rfl⟩ (raw.push _) (pi_one (tk := s1.toks) I3 _ (turn_itemsT _ hdt) ⟨.none, .none, ?_⟩ (q od))
    rw [← hsz]
    exact Heap.get?_push_size _ rfl
  show wpAny _ _ (callWith cpos (.builtin "dict.items") [.ref d] [] []) _ X.xe s1
  exact method_meetsIn F.slot_dict_items F.entry_dict_items rfl (PySem.evalArgs_none ⟨rfl, ty, F.args_dict_items_1 _, _, DT.meetsItems (es := es) (ep := ep) hs, raw, fin⟩)
/-- {k: v} with a tuple as key -/
def dPost (p : Addr) (Q : VK) : List (V × V) → Hp → Prop := fun ps H2 => H2 p = some (.dT []) ∧ ∃ (ks : List L2.Key) (b : Addr) (y : V), ps = [(.ref b, y)] ∧ H2 b = some (.tup (ks.map kV)) ∧ Q (.ref p) (upd H2 p (.dT [(ks, y)]))
def tDisp1 (tk tv : TE) : TE := fun σ H Q => ∀ p, H p = none → tk σ (upd H p (.dT [])) fun x H1 => tv σ H1 fun y H2 => dPost p Q [(x, y)] H2
theorem pe_disp1 {k v : Expr} {tk tv : TE} {pos : Pos} (hu : X.A.units + 1 < cLine) (hk : PE X k tk) (hv : PE X v tv) : PE X (.Dict [some k] [v] pos) (tDisp1 tk tv) := by
  refine ⟨fun pins s σ H Q I q => ?_⟩
  have hn := I.hok.fresh (Nat.le_refl s.heap.objs.size)
  have I1 := I.laid (a := s.heap.objs.size) (o := .dT []) (h' := s.heap.push { cls := .type "dict", data := .dict #[] }) (t' := s.toks) (fun _ _ q => Heap.get?_push_of_some _ q) (Nat.le_refl _) (dt_empty s.heap I.big)
  have hz := zip_pairTrees [some k] [v] X.env pos rfl rfl
  rw [arm_eval_Dict, hz, dictDisplay_pairs _ (by simp [pairTrees]) (by simp [pairTrees])]
  have hp : PPs X pos [some k] [v] [(tk, tv)] := pps_cons hk hv pps_nil
  refine wpAny_bind (wpAny_standAt (wpAny_bind (wpAny_subDictH (knd := tupleKind (mixKind X.prog X.w)) (Q := fun d s' => wpAny (model X.prog X.w) X.A (pure (Value.ref d)) _ X.xe s') (show X.A.units < cLine by omega) (by simp [pairTrees]) ?_)))
  refine thn (hp.run pins _ σ _ (dPost s.heap.objs.size Q) I1 (q _ hn)) fun ws s2 ⟨ps, H2, I2, rel, e, ks, b, y, eps, hb, q2⟩ => ?_
  subst eps
  cases rel with
  | @cons a p as ps r1 t =>
    cases t
    obtain ⟨u, r⟩ := p
    obtain ⟨ru, rr⟩ := r1
    obtain rfl : u = Value.ref b := ru
    obtain ⟨z, hd, xs, r0, dd⟩ := dt_of I2.hok e
    cases r0
    have es : storedAllH (K := List L2.Key) [] [(ks, b, r)] = [(ks, b, r)] := rfl
    refine ⟨[(ks, b, r)], ⟨rfl, rfl, key_of I2.hok hb, trivial⟩, dd, fun h' tk dd' hs => wpAny_pure ⟨.ref s.heap.objs.size, _, ?_, rfl, q2⟩⟩
    rw [es] at dd'
    obtain ⟨oo, es', ep, ho, h2, h3, h4, _, h5⟩ := dd'
    refine d_write I2 (by rw [e]; exact True.intro) hs ⟨oo, ho⟩ ⟨by show 1 ≤ sizeLine; decide, hd, [(ks, b, r)], .cons ⟨rfl, ?_, rr⟩ .nil, oo, es', ep, ho, h2, h3, h4, h5⟩
    rw [upd_ne (ne_of hb e (fun z => nomatch z))]
    exact hb
end
section
variable {K : PySem.W.Frag} {H H' : Hp} {S S' F F' f : AS} {env env' : EL.Env} {σ : L2.St}
theorem Mu.frzT {a : Addr} {od : Obj} {ks} : ¬ Mu (upd H a (.frz od (.dT ks))) a := by unfold Mu; rw [upd_same]; exact id
theorem ne_mem {G : AS} {a b : Addr} (h : ¬ G a) (x : G b) : b ≠ a := by intro q; subst q; exact h x
/-- behind a lock -/
structure Locked (K : PySem.W.Frag) (H : Hp) (S F : AS) (env : EL.Env) (σ : L2.St) (a : Addr) (ks : List (List L2.Key × V)) (kvs : List (List L2.Key × PV)) : Prop where
  lk : H a = some (.dT ks)
  rk : RepKs K H S kvs ks
  go : ∀ od, M K env σ (upd H a (.frz od (.dT ks))) (Uni S (One a)) F ∧ (∀ b o, H b = some o → b ≠ a → upd H a (.frz od (.dT ks)) b = some o) ∧ Kept H S (upd H a (.frz od (.dT ks))) (Uni S (One a))
theorem lock_kept {a : Addr} {ks} {od : Obj} (h : H a = some (.dT ks)) (hs : ¬ S a) : Kept H S (upd H a (.frz od (.dT ks))) (Uni S (One a)) :=
  ⟨fun b x => .inl x, fun b o x e => by rw [upd_ne (ne_mem hs x)]; exact e, fun b o x e => by
    rw [upd_ne (show b ≠ a from fun q => x (by rw [q]; exact Mu.dT h))]; exact e⟩
theorem lock_M {a : Addr} {ks} {od : Obj} (m : M K env σ H S F) (h : H a = some (.dT ks)) (hs : ¬ S a) (hf : ¬ F a) : M K env σ (upd H a (.frz od (.dT ks))) (Uni S (One a)) F := by
  have k := lock_kept (S := S) (od := od) h hs
  have kw : KeptW F H S (upd H a (.frz od (.dT ks))) (Uni S (One a)) := ⟨k, fun b o x e => by rw [upd_ne (ne_mem hf x)]; exact e⟩
  refine ⟨m.en.keptW kw, fun b x y => x.elim (fun x => m.dj b x y) (fun x => ne_mem hf y x), fun b x => (m.mu b x).keptW kw x, fun b x => ?_⟩
  rcases x with x | x
  · obtain ⟨o, e⟩ := Option.ne_none_iff_exists'.mp (m.st b x)
    rw [upd_ne (ne_mem hs x), e]; simp
  · cases x
    rw [upd_same]; simp
theorem owned {a : Arg} {v : V} {kvs : List (List L2.Key × PV)} {env2 : EL.Env} (p : PostA K H S F env σ H' S' F' a v f) (h : ownD a env = some (kvs, env2)) :
    ∃ (x : Addr) (ks : List (List L2.Key × V)) (F2 : AS), v = .ref x ∧ H' x = some (.dT ks) ∧ RepKs K H' S' kvs ks ∧ Sub F2 F' ∧ (F' x ∨ f x) ∧ ¬ S' x ∧
      ∀ od, M K env2 σ (upd H' x (.frz od (.dT ks))) (Uni S' (One x)) F2 := by
  unfold ownD at h
  split at h
  · cases h
    obtain ⟨x, ks, rfl, h1, h2, h3⟩ := (show RepO K H' S' (.dic .own .t kvs) v f from p.r)
    have hs : ¬ S' x := fun y => p.fs x h2 y
    have hf : ¬ F' x := fun y => p.fd x h2 y
    exact ⟨x, ks, F', rfl, h1, h3, fun _ y => y, .inr h2, hs, fun od => lock_M p.m h1 hs hf⟩
  · rename_i i
    split at h
    · rename_i hs
      cases h
      obtain ⟨w, F1, F2, hv, s1, s2, dj, r, he⟩ := p.m.en.take hs
      have hw : w = v := by
        have q : σ[i]? = some (some v) := p.r
        rw [q] at hv; cases hv; rfl
      subst hw
      obtain ⟨x, ks, rfl, h1, h2, h3⟩ := r
      have h1 : H' x = some (.dT ks) := h1
      have nS : ¬ S' x := fun y => p.m.dj x y (s1 x h2)
      have nF : ¬ F2 x := fun y => dj x h2 y
      refine ⟨x, ks, F2, rfl, h1, h3, s2, .inl (s1 x h2), nS, fun od => ?_⟩
      have k := lock_kept (S := S') (od := od) h1 nS
      have kw : KeptW F2 H' S' (upd H' x (.frz od (.dT ks))) (Uni S' (One x)) := ⟨k, fun b o y e => by rw [upd_ne (ne_mem nF y)]; exact e⟩
      have rf : RepF K (upd H' x (.frz od (.dT ks))) (Uni S' (One x)) (.dic .frz .t kvs) (.ref x) := ⟨x, ks, rfl, .inr rfl, .inr ⟨od, upd_same⟩, RepKs.kept k _ h3⟩
      refine ⟨?_, fun b y z => y.elim (fun y => p.m.dj b y (s2 b z)) (fun y => ne_mem nF z y), fun b y => (p.m.mu b (s2 b y)).keptW kw y, fun b y => ?_⟩
      · exact (REnv.putV (he.keptW kw) (slot_len hs) hv (RepO.of_frz (G := Emp) rfl rf) emp_dis).mono fun a h => h.elim False.elim id
      · rcases y with y | y
        · obtain ⟨o, e⟩ := Option.ne_none_iff_exists'.mp (p.m.st b y)
          rw [upd_ne (ne_mem nS y), e]; simp
        · cases y
          rw [upd_same]; simp
    · cases h
  · cases h
theorem lock_step {x : Addr} {ks} {od : Obj} {F2 : AS} (dj0 : Dis S F) (st : Step H S F H' S' (Uni F' f)) (h : H' x = some (.dT ks)) (hx : F' x ∨ f x) (nS : ¬ S' x) (s2 : Sub F2 F') : Step H S F (upd H' x (.frz od (.dT ks))) (Uni S' (One x)) F2 := by
  refine ⟨fun a y => .inl (st.sub a y), fun a y => ?_, fun b o e hb => ?_⟩
  · rcases y with (y | y) | y
    · exact st.new a (.inl y)
    · rw [show a = x from y]; exact st.new x (.inr hx)
    · exact st.new a (.inr (.inl (s2 a y)))
  · have hne : b ≠ x := fun q => by
      subst q
      rcases st.new b (.inr hx) with y | y | y
      · exact nS (st.sub b y)
      · exact hb y
      · rw [y] at e; cases e
    rw [upd_ne hne]
    exact st.fr b o e hb
theorem RepKs.at : ∀ {kvs : List (List L2.Key × PV)} {ks : List (List L2.Key × V)}, RepKs K H S kvs ks → ks.length = kvs.length ∧ ∀ (i : Nat) (k : List L2.Key) (p : PV), kvs[i]? = some (k, p) → ∃ v, ks[i]? = some (k, v) ∧ RepF K H S p v
  | [], _, h => by cases h; exact ⟨rfl, fun i k p e => by simp at e⟩
  | (k0, p0) :: kvs, _, h => by
    obtain ⟨v, ws, rfl, h1, h2⟩ := h
    obtain ⟨q1, q2⟩ := h2.at
    refine ⟨by simp [q1], fun i k p e => ?_⟩
    cases i with
    | zero =>
      simp at e
      obtain ⟨rfl, rfl⟩ := e
      exact ⟨v.2, by rw [← h1.1]; rfl, h1.2⟩
    | succ i => exact q2 i k p (by simpa using e)
theorem walks_keys {x : Addr} {ks} {kvs : List (List L2.Key × PV)} {od : Obj} (h : H x = some (.frz od (.dT ks))) (hs : S x) (rk : RepKs K H S kvs ks) : Walks K (Itkt x od ks) (kvs.map fun r => .tup (r.1.map ofK)) H S := by
  obtain ⟨l, g⟩ := rk.at
  refine ⟨fun H2 S2 kp => ⟨kp.st x _ hs h, by rw [List.length_map, l]; exact Nat.le_refl _⟩, fun H2 S2 kp i p hp => ?_⟩
  rw [List.getElem?_map] at hp
  cases hc : kvs[i]? with
  | none => rw [hc] at hp; cases hp
  | some r =>
    rw [hc] at hp
    cases hp
    have hi := (List.getElem?_eq_some_iff.mp hc).1
    refine ⟨⟨kp.st x _ hs h, by rw [l]; exact hi⟩, fun v H3 y => ?_⟩
    obtain ⟨rfl, k, w, q, hk, rfl, hq⟩ := y
    obtain ⟨w', e1, _⟩ := g i r.1 r.2 hc
    rw [e1] at hk
    cases hk
    exact ⟨fun _ _ e => e, ⟨q, _, rfl, hq, ofKs _⟩, rfl⟩
theorem walks_items {x : Addr} {ks} {kvs : List (List L2.Key × PV)} {od : Obj} (h : H x = some (.frz od (.dT ks))) (hs : S x) (rk : RepKs K H S kvs ks) : Walks K (ItiT x od ks) (kvs.map fun r => .tup [.tup (r.1.map ofK), frz r.2]) H S := by
  obtain ⟨l, g⟩ := rk.at
  refine ⟨fun H2 S2 kp => ⟨kp.st x _ hs h, by rw [List.length_map, l]; exact Nat.le_refl _⟩, fun H2 S2 kp i p hp => ?_⟩
  rw [List.getElem?_map] at hp
  cases hc : kvs[i]? with
  | none => rw [hc] at hp; cases hp
  | some r =>
    rw [hc] at hp
    cases hp
    have hi := (List.getElem?_eq_some_iff.mp hc).1
    refine ⟨⟨kp.st x _ hs h, by rw [l]; exact hi⟩, fun v H3 y => ?_⟩
    obtain ⟨T, k, w, q, hk, rfl, hq, hT, rfl⟩ := y
    obtain ⟨w', e1, rf⟩ := g i r.1 r.2 hc
    rw [e1] at hk
    obtain ⟨rfl, rfl⟩ := Prod.mk.inj (Option.some.inj hk)
    have kk : Kept H2 S2 (upd H2 T (.tup [.ref q, w'])) S2 := Kept.new hT fun _ h => h
    refine ⟨fun b o e => by rw [upd_ne (ne_of_none e hT)]; exact e, ⟨T, _, rfl, upd_same, .ref q, [w'], rfl, ⟨q, _, rfl, ?_, ofKs _⟩, w', [], rfl, (RepF.kept kk _ (RepF.kept kp _ rf)).frz, rfl⟩, rfl⟩
    rw [upd_ne (ne_of_none hq hT)]; exact hq
theorem rd_keys {e : CE} {σ : L2.St} {H : Hp} {R' : It → Hp → Prop} (h : rdI K (.keys e) σ H R') : iKeysL (rdA K e) σ H R' := by
  obtain ⟨env, S, F, xs, env', m, he, k⟩ := h
  unfold evI at he
  obtain ⟨⟨a, e1⟩, h1, he⟩ := R.bind_eq_ok he
  obtain ⟨⟨kvs, e2⟩, h2, he⟩ := R.bind_eq_ok he
  have h2 := R.of_eq_ok h2
  cases he
  refine ⟨env, S, F, a, e1, m, h1, fun v H1 S1 F1 f1 p1 => ?_⟩
  obtain ⟨x, ks, F2, rfl, hx, rk, s2, hf, nS, go⟩ := owned p1 h2
  refine ⟨x, ks, rfl, hx, fun od => k _ _ (Uni S1 (One x)) F2 (go od) (lock_step m.dj p1.st hx hf nS s2) (walks_keys upd_same (.inr rfl) (RepKs.kept (lock_kept hx nS) _ rk))⟩
theorem rd_items {e : CE} {σ : L2.St} {H : Hp} {R' : It → Hp → Prop} (h : rdI K (.items e) σ H R') : iItemsL (rdA K e) σ H R' := by
  obtain ⟨env, S, F, xs, env', m, he, k⟩ := h
  unfold evI at he
  obtain ⟨⟨a, e1⟩, h1, he⟩ := R.bind_eq_ok he
  obtain ⟨⟨kvs, e2⟩, h2, he⟩ := R.bind_eq_ok he
  have h2 := R.of_eq_ok h2
  cases he
  refine ⟨env, S, F, a, e1, m, h1, fun v H1 S1 F1 f1 p1 => ?_⟩
  obtain ⟨x, ks, F2, rfl, hx, rk, s2, hf, nS, go⟩ := owned p1 h2
  refine ⟨x, ks, rfl, hx, fun od => k _ _ (Uni S1 (One x)) F2 (go od) (lock_step m.dj p1.st hx hf nS s2) (walks_items upd_same (.inr rfl) (RepKs.kept (lock_kept hx nS) _ rk))⟩
/-- {k: v} -/
theorem rd_dic1 {k v : CE} {σ : L2.St} {H : Hp} {Q : VK} (h : rdE K (.dic1 k v) σ H Q) : tDisp1 (rdE K k) (rdE K v) σ H Q := by
  obtain ⟨env, S, F, p, env', m, he, kk⟩ := h
  unfold ev at he
  obtain ⟨⟨x, e1⟩, h1, he⟩ := R.bind_eq_ok he
  obtain ⟨⟨y, e2⟩, h2, he⟩ := R.bind_eq_ok he
  obtain ⟨ks, h3, he⟩ := R.bind_eq_ok he
  have h3 := R.of_eq_ok h3
  cases he
  intro a hn
  -- a is kept apart as an own dict
  have n : New K H S (.dic .own .t []) (.ref a) (upd H a (.dT [])) (One a) :=
    ⟨⟨a, [], rfl, upd_same, rfl, rfl⟩, fun b e => by rw [e]; exact hn, fun b e => by rw [e]; exact Mu.dT upd_same, fun b o e => by rw [upd_ne (ne_of_none e hn)]; exact e⟩
  have p0 := n.post m
  refine ⟨env, S, F, x, e1, p0.m, h1, fun v1 H1 S1 F1 f1 p1 => ⟨e1, S1, F1, y, _, p1.m, h2, fun v2 H2 S2 F2 f2 p2 => ?_⟩⟩
  -- a is neither stable nor owned
  have a1 : ¬ S1 a ∧ ¬ (Uni F1 f1) a := by
    constructor <;> intro q
    · rcases p1.st.new a (.inl q) with z | z | z
      · exact m.st a z hn
      · obtain ⟨o, e⟩ := (m.mu a z).ex; rw [hn] at e; cases e
      · rw [upd_same] at z; cases z
    · rcases p1.st.new a (.inr q) with z | z | z
      · exact m.st a z hn
      · obtain ⟨o, e⟩ := (m.mu a z).ex; rw [hn] at e; cases e
      · rw [upd_same] at z; cases z
  have ha1 : H1 a = some (.dT []) := p1.st.fr a _ upd_same fun z => by obtain ⟨o, e⟩ := (m.mu a z).ex; rw [hn] at e; cases e
  have a2 : ¬ S2 a ∧ ¬ (Uni F2 f2) a := by
    constructor <;> intro q
    · rcases p2.st.new a (.inl q) with z | z | z
      · exact a1.1 z
      · exact a1.2 (.inl z)
      · rw [ha1] at z; cases z
    · rcases p2.st.new a (.inr q) with z | z | z
      · exact a1.1 z
      · exact a1.2 (.inl z)
      · rw [ha1] at z; cases z
  have ha2 : H2 a = some (.dT []) := p2.st.fr a _ ha1 fun z => a1.2 (.inl z)
  -- the key
  match x, h3, p1 with
  | .tup xs, h3, p1 =>
    obtain ⟨b, vs, rfl, hb, rs⟩ := p1.r.tup
    have e := toKs_kV h3 rs
    subst e
    have kw := p1.m.keptW_of p2.st p1.fd
    have hb2 : H2 b = some (.tup (ks.map kV)) := kw.k.im b _ (Mu.not_tup hb) hb
    refine ⟨ha2, ks, b, v2, rfl, hb2, ?_⟩
    have nf2 : ¬ (Uni S2 f2) a := fun z => z.elim a2.1 fun z => a2.2 (.inr z)
    have nF2 : ¬ F2 a := fun z => a2.2 (.inl z)
    have kp : Kept H2 (Uni S2 f2) (upd H2 a (.dT [(ks, v2)])) (Uni S2 f2) := ⟨fun b x => x, fun b o x e => by rw [upd_ne (ne_mem nf2 x)]; exact e, fun b o x e => by rw [upd_ne (show b ≠ a from fun q => x (by rw [q]; exact Mu.dT ha2))]; exact e⟩
    have m2 := p2.m.absorb p2.fd p2.fm
    have kw2 : KeptW F2 H2 (Uni S2 f2) (upd H2 a (.dT [(ks, v2)])) (Uni S2 f2) := ⟨kp, fun b o x e => by rw [upd_ne (ne_mem nF2 x)]; exact e⟩
    have rf : RepF K (upd H2 a (.dT [(ks, v2)])) (Uni S2 f2) (frz y) v2 := RepF.kept kp _ (p2.r.freeze (fun a h => .inl h) fun a h => .inr h)
    have st0 : Step H S F H2 S2 (Uni F2 f2) := ((p0.st.weak (F2 := F) fun a h => .inl h).trans (p1.st.weak (F2 := F1) fun a h => .inl h) m.dj).trans p2.st p1.m.dj |> fun q => q
    refine kk _ _ (Uni S2 f2) F2 (One a) ⟨⟨m2.en.keptW kw2, m2.dj, fun b x => (m2.mu b x).keptW kw2 x, fun b x => ?_⟩, ⟨a, [(ks, v2)], rfl, upd_same, rfl, (ks, v2), [], rfl, ⟨rfl, rf⟩, rfl⟩, fun b x z => nF2 (x ▸ z), fun b x z => nf2 (x ▸ z), fun b x => by rw [x]; exact Mu.dT upd_same, ⟨fun b x => .inl (st0.sub b x), fun b x => ?_, fun b o e hb => ?_⟩⟩
    · obtain ⟨o, e⟩ := Option.ne_none_iff_exists'.mp (m2.st b x)
      rw [kp.st b o x e]; simp
    · rcases x with (x | x) | x | x
      · exact st0.new b (.inl x)
      · exact st0.new b (.inr (.inr x))
      · exact st0.new b (.inr (.inl x))
      · cases x; exact .inr (.inr hn)
    · rw [upd_ne (ne_of_none e hn)]
      exact st0.fr b o e hb
end
end EL

set_option maxRecDepth 100000
/-! EL14j: a walk over a dict that is frozen: it is locked for the time of the walk -/
namespace EL
open PySem PySem.Spec PySem.W PyProof.Rows PyProof.V PySem.Calls L2
structure Lk (H H' : Hp) (a : Addr) : Prop where
  ne : ∀ b, b ≠ a → H' b = H b
  at_ : ∃ ks od, (H a = some (.dT ks) ∧ H' a = some (.frz od (.dT ks))) ∨ (H a = some (.frz od (.dT ks)) ∧ H' a = some (.dT ks))
section
variable {K : PySem.W.Frag} {H H' : Hp} {S S' F F' f G : AS} {env env' : EL.Env} {σ σ' : L2.St} {a : Addr} {p : PV} {v : V}
theorem Lk.tup (l : Lk H H' a) {x : Addr} {vs} (h : H x = some (.tup vs)) : H' x = some (.tup vs) := by
  rw [l.ne x ?_]; exact h
  rintro rfl
  obtain ⟨ks, od, h1 | h1⟩ := l.at_ <;> (rw [h1.1] at h; cases h)
theorem Lk.lst (l : Lk H H' a) {x : Addr} {vs} (h : H x = some (.lst vs)) : H' x = some (.lst vs) := by
  rw [l.ne x ?_]; exact h
  rintro rfl
  obtain ⟨ks, od, h1 | h1⟩ := l.at_ <;> (rw [h1.1] at h; cases h)
theorem Lk.frzT (l : Lk H H' a) {x : Addr} {o vs} (h : H x = some (.frz o (.tup vs))) : H' x = some (.frz o (.tup vs)) := by
  rw [l.ne x ?_]; exact h
  rintro rfl
  obtain ⟨ks, od, h1 | h1⟩ := l.at_ <;> (rw [h1.1] at h; cases h)
theorem Lk.frzL (l : Lk H H' a) {x : Addr} {o vs} (h : H x = some (.frz o (.lst vs))) : H' x = some (.frz o (.lst vs)) := by
  rw [l.ne x ?_]; exact h
  rintro rfl
  obtain ⟨ks, od, h1 | h1⟩ := l.at_ <;> (rw [h1.1] at h; cases h)
theorem Lk.dK (l : Lk H H' a) {x : Addr} {vs} (h : Rd H x (.dK vs)) : Rd H' x (.dK vs) := by
  have hne : x ≠ a := by
    rintro rfl
    obtain ⟨ks, od, h1 | h1⟩ := l.at_ <;> rcases h with h | ⟨o, h⟩ <;> (rw [h1.1] at h; cases h)
  unfold Rd at *
  rw [l.ne x hne]; exact h
theorem Lk.dT (l : Lk H H' a) {x : Addr} {vs} (h : Rd H x (.dT vs)) : Rd H' x (.dT vs) := by
  by_cases hne : x = a
  · subst hne
    obtain ⟨ks, od, h1 | h1⟩ := l.at_
    · rcases h with h | ⟨o, h⟩
      · rw [h1.1] at h; cases h; exact .inr ⟨od, h1.2⟩
      · rw [h1.1] at h; cases h
    · rcases h with h | ⟨o, h⟩
      · rw [h1.1] at h; cases h
      · rw [h1.1] at h; cases h; exact .inl h1.2
  · unfold Rd at *
    rw [l.ne x hne]; exact h
theorem SqT.lk (l : Lk H H' a) {x : Addr} {vs : List V} (h : SqT K H x vs) : SqT K H' x vs := by
  rcases h with (h | ⟨o, h⟩) | h
  · exact .inl (.inl (l.tup h))
  · exact .inl (.inr ⟨o, l.frzT h⟩)
  · exact .inr h
theorem LsF.lk (l : Lk H H' a) {fl : Fl} {x : Addr} {vs : List V} (h : LsF K H S fl x vs) : LsF K H' S fl x vs := by
  unfold LsF at h ⊢
  split at h
  · rename_i e
    rw [if_pos e]
    rcases h with ⟨o, h⟩ | h
    · exact .inl ⟨o, l.frzL h⟩
    · exact .inr h
  · rename_i e
    rw [if_neg e]
    exact ⟨l.lst h.1, h.2⟩
theorem DAt.lk (l : Lk H H' a) {d : DK} {x : Addr} {ks} (h : DAt H d x ks) : DAt H' d x ks := by
  cases d with
  | t => exact l.dT h
  | k => obtain ⟨kk, h1, h2⟩ := h; exact ⟨kk, l.dK h1, h2⟩
mutual
theorem RepF.lk (l : Lk H H' a) : ∀ (p : PV) {v : V}, RepF K H S p v → RepF K H' S p v
  | .non, _, h => h
  | .bl _, _, h => h
  | .int _, _, h => h
  | .str _, _, h => h
  | .tup xs, _, h => by
    obtain ⟨a, vs, e, h1, h2⟩ := h
    exact ⟨a, vs, e, l.tup h1, RepFs.lk l xs h2⟩
  | .ktp xs, _, h => by
    obtain ⟨a, vs, e, h1, h2⟩ := h
    exact ⟨a, vs, e, SqT.lk l h1, RepFs.lk l xs h2⟩
  | .lst f xs, _, h => by
    obtain ⟨a, vs, e, h1, h2⟩ := h
    exact ⟨a, vs, e, LsF.lk l h1, RepFs.lk l xs h2⟩
  | .dic f d kvs, _, h => by
    obtain ⟨a, vs, e, hs, h1, h2⟩ := h
    exact ⟨a, vs, e, hs, DAt.lk l h1, RepKs.lk l kvs h2⟩
theorem RepFs.lk (l : Lk H H' a) : ∀ (p : List PV) {v : List V}, RepFs K H S p v → RepFs K H' S p v
  | [], _, h => h
  | x :: xs, _, h => by
    obtain ⟨v, ws, e, h1, h2⟩ := h
    exact ⟨v, ws, e, RepF.lk l x h1, RepFs.lk l xs h2⟩
theorem RepP.lk (l : Lk H H' a) : ∀ (p : List L2.Key × PV) {v : List L2.Key × V}, RepP K H S p v → RepP K H' S p v
  | (_, p), _, h => ⟨h.1, RepF.lk l p h.2⟩
theorem RepKs.lk (l : Lk H H' a) : ∀ (p : List (List L2.Key × PV)) {v : List (List L2.Key × V)}, RepKs K H S p v → RepKs K H' S p v
  | [], _, h => h
  | x :: xs, _, h => by
    obtain ⟨v, ws, e, h1, h2⟩ := h
    exact ⟨v, ws, e, RepP.lk l x h1, RepKs.lk l xs h2⟩
end
theorem Rep1.lk (l : Lk H H' a) {p : PV} {v : V} (h : Rep1 K H S p v G) : Rep1 K H' S p v G := by
  unfold Rep1 at h ⊢
  split
  · obtain ⟨a, vs, e, h1, h2, h3⟩ := h
    exact ⟨a, vs, e, l.lst h1, h2, RepFs.lk l _ h3⟩
  · rename_i hne
    split at h
    · rename_i xs
      exact absurd rfl (hne xs)
    · exact ⟨h.1, RepF.lk l _ h.2⟩
theorem Rep1s.lk (l : Lk H H' a) : ∀ {p : List PV} {v : List V} {G : AS}, Rep1s K H S p v G → Rep1s K H' S p v G
  | [], _, _, h => h
  | x :: xs, _, G, h => by
    obtain ⟨v, ws, F1, F2, e, s1, s2, dj, h1, h2⟩ := h
    exact ⟨v, ws, F1, F2, e, s1, s2, dj, h1.lk l, Rep1s.lk l h2⟩
theorem DOw.lk (l : Lk H H' a) {d : DK} {x : Addr} {ks} (hne : x ≠ a) (h : DOw H d x ks) : DOw H' d x ks := by
  cases d with
  | t => show H' x = _; rw [l.ne x hne]; exact h
  | k => obtain ⟨kk, h1, h2⟩ := h; exact ⟨kk, by rw [l.ne x hne]; exact h1, h2⟩
theorem RepO.lk (l : Lk H H' a) {p : PV} {v : V} (hG : ¬ G a) (h : RepO K H S p v G) : RepO K H' S p v G := by
  match p, h with
  | .lst .own xs, h =>
    obtain ⟨a, vs, e, h1, h2, h3⟩ := h
    exact ⟨a, vs, e, l.lst h1, h2, RepFs.lk l _ h3⟩
  | .lst .deep xs, h =>
    obtain ⟨a, vs, F1, e, h1, h2, s1, n1, h3⟩ := h
    exact ⟨a, vs, F1, e, l.lst h1, h2, s1, n1, h3.lk l⟩
  | .dic .own d kvs, h =>
    obtain ⟨x, ks, e, h1, h2, h3⟩ := h
    exact ⟨x, ks, e, h1.lk l (ne_mem hG h2), h2, RepKs.lk l _ h3⟩
  | .lst .frz xs, h => exact RepF.lk l _ h
  | .lst .ro xs, h => exact RepF.lk l _ h
  | .dic .frz _ xs, h => exact RepF.lk l _ h
  | .dic .ro _ xs, h => exact RepF.lk l _ h
  | .non, h => exact RepF.lk l _ h
  | .bl _, h => exact RepF.lk l _ h
  | .int _, h => exact RepF.lk l _ h
  | .str _, h => exact RepF.lk l _ h
  | .tup _, h => exact RepF.lk l _ h
  | .ktp _, h => exact RepF.lk l _ h
theorem REnv.lk (l : Lk H H' a) : ∀ {e : EL.Env} {σ : L2.St} {G : AS}, ¬ G a → REnv K H S e σ G → REnv K H' S e σ G
  | [], _, _, _, h => h
  | none :: e, _, _, hG, h => by
    obtain ⟨x, t, e1, h1⟩ := h
    exact ⟨x, t, e1, REnv.lk l hG h1⟩
  | some p :: e, _, _, hG, h => by
    obtain ⟨v, t, F1, F2, e1, s1, s2, dj, h1, h2⟩ := h
    exact ⟨v, t, F1, F2, e1, s1, s2, dj, h1.lk l fun x => hG (s1 a x), REnv.lk l (fun x => hG (s2 a x)) h2⟩
theorem Lk.some (l : Lk H H' a) : ∃ o, H' a = some o := by
  obtain ⟨ks, od, h1 | h1⟩ := l.at_ <;> exact ⟨_, h1.2⟩
theorem M.lk (l : Lk H H' a) (m : M K env σ H S F) (hs : S a) : M K env σ H' S F := by
  have hf : ¬ F a := fun x => m.dj a hs x
  refine ⟨m.en.lk l hf, m.dj, fun b x => ?_, fun b x => ?_⟩
  · unfold Mu
    rw [l.ne b (ne_mem hf x)]; exact m.mu b x
  · by_cases h : b = a
    · rw [h]; obtain ⟨o, e⟩ := l.some; rw [e]; simp
    · rw [l.ne b h]; exact m.st b x
theorem lk_on {ks} (od : Obj) (h : H a = some (.dT ks)) : Lk H (upd H a (.frz od (.dT ks))) a := ⟨fun b hb => upd_ne hb, ks, od, .inl ⟨h, upd_same⟩⟩
theorem lk_off {ks} {od : Obj} (h : H a = some (.frz od (.dT ks))) : Lk H (upd H a (.dT ks)) a := ⟨fun b hb => upd_ne hb, ks, od, .inr ⟨h, upd_same⟩⟩
theorem step_off {ks} {od : Obj} (h : H a = some (.dT ks)) (hf : ¬ F a) (st : Step (upd H a (.frz od (.dT ks))) S F H' S' F') : H' a = some (.frz od (.dT ks)) ∧ Step H S F (upd H' a (.dT ks)) S' F' := by
  have e := st.fr a _ upd_same hf
  refine ⟨e, st.sub, fun b x => ?_, fun b o eb hb => ?_⟩
  · rcases st.new b x with y | y | y
    · exact .inl y
    · exact .inr (.inl y)
    · by_cases hba : b = a
      · subst hba; rw [upd_same] at y; cases y
      · rw [upd_ne hba] at y; exact .inr (.inr y)
  · by_cases hba : b = a
    · subst hba
      rw [h] at eb; cases eb
      exact upd_same
    · rw [upd_ne hba]
      exact st.fr b o (by rw [upd_ne hba]; exact eb) hb
theorem Post.off {ks} {od : Obj} (h : H a = some (.dT ks)) (hs : S a) (hf : ¬ F a) (p : Post K (upd H a (.frz od (.dT ks))) S F env σ H' S' F' q v f) : H' a = some (.frz od (.dT ks)) ∧ Post K H S F env σ (upd H' a (.dT ks)) S' F' q v f := by
  obtain ⟨e, st⟩ := step_off h hf p.st
  have sa : S' a := st.sub a hs
  have na : ¬ f a := fun x => p.fs a x sa
  exact ⟨e, p.m.lk (lk_off e) sa, p.r.lk (lk_off e) na, p.fd, p.fs, fun b x => by
    unfold Mu
    rw [upd_ne (ne_mem na x)]; exact p.fm b x, st⟩
/-- the ends of a walk under a lock -/
def unlk (a : Addr) (ks : List (List L2.Key × V)) (od : Obj) (D : Ends) : Ends := ⟨fun σ' H' => H' a = some (.frz od (.dT ks)) ∧ D.nx σ' (upd H' a (.dT ks)), fun v H' => H' a = some (.frz od (.dT ks)) ∧ D.rt v (upd H' a (.dT ks)), fun σ' H' => H' a = some (.frz od (.dT ks)) ∧ D.bk σ' (upd H' a (.dT ks)), fun σ' H' => H' a = some (.frz od (.dT ks)) ∧ D.ct σ' (upd H' a (.dT ks))⟩
theorem PostS.off {D : Ends} {A : List Nat} {fl : EL.Flow} {ks} {od : Obj} (h : H a = some (.dT ks)) (hs : S a) (hf : ¬ F a) (k : PostS K D σ H S F A fl env') : PostS K (unlk a ks od D) σ (upd H a (.frz od (.dT ks))) S F A fl env' := by
  cases fl with
  | nxt =>
      intro σ2 H2 S2 F2 m s eq
      obtain ⟨e, st⟩ := step_off h hf s
      exact ⟨e, k σ2 _ S2 F2 (m.lk (lk_off e) (st.sub a hs)) st eq⟩
  | brk =>
      intro σ2 H2 S2 F2 m s eq
      obtain ⟨e, st⟩ := step_off h hf s
      exact ⟨e, k σ2 _ S2 F2 (m.lk (lk_off e) (st.sub a hs)) st eq⟩
  | cnt =>
      intro σ2 H2 S2 F2 m s eq
      obtain ⟨e, st⟩ := step_off h hf s
      exact ⟨e, k σ2 _ S2 F2 (m.lk (lk_off e) (st.sub a hs)) st eq⟩
  | ret p =>
      intro v σ2 H2 S2 F2 f po eq
      obtain ⟨e, po'⟩ := Post.off h hs hf po
      exact ⟨e, k v σ2 _ S2 F2 f po' eq⟩
/-- the dict in the slot j is locked -/
def IsLk (j : Nat) (σ : L2.St) (H : Hp) : Prop := ∃ a o ks, σ[j]? = some (some (.ref a)) ∧ H a = some (.frz o (.dT ks))
def iF (K : PySem.W.Frag) (j : Nat) (it : CI) : TI := fun σ H R => IsLk j σ H ∧ rdI K it σ H R
theorem frzD_at {j : Nat} {kvs} (m : M K env σ H S F) (h : frzD env j = some kvs) : ∃ a ks, σ[j]? = some (some (.ref a)) ∧ S a ∧ Rd H a (.dT ks) ∧ RepKs K H S kvs ks := by
  unfold frzD at h
  split at h
  · rename_i hs
    cases h
    obtain ⟨w, F1, F2, hv, s1, s2, dj, r, he⟩ := m.en.take hs
    obtain ⟨a, ks, rfl, sa, h1, h2⟩ := (show RepF K H S (.dic .frz .t _) w from r)
    exact ⟨a, ks, hv, sa, h1, h2⟩
  · rename_i hs
    cases h
    obtain ⟨w, F1, F2, hv, s1, s2, dj, r, he⟩ := m.en.take hs
    obtain ⟨a, ks, rfl, sa, h1, h2⟩ := (show RepF K H S (.dic .ro .t _) w from r)
    exact ⟨a, ks, hv, sa, h1, h2⟩
  · cases h
/-- .. or it is locked now -/
theorem lock_or {j : Nat} {D : Ends} {c : CS} {t : TS} (h : rdST K c D σ H) (hc : ∀ env fl env', ex c env = .ok (fl, env') → ∃ kvs, frzD env j = some kvs) (ht : ∀ D σ H, IsLk j σ H → rdST K c D σ H → t D σ H) : tLock t D σ H ∨ t D σ H := by
  obtain ⟨env, S, F, fl, env', m, he, k⟩ := id h
  obtain ⟨kvs, hk⟩ := hc _ _ _ he
  obtain ⟨a, ks, hv, sa, hr, rk⟩ := frzD_at m hk
  rcases hr with hr | ⟨o, hr⟩
  · refine .inl ⟨a, .dT ks, hr, trivial, fun od => ht _ _ _ ⟨a, od, ks, hv, upd_same⟩ ⟨env, S, F, fl, env', m.lk (lk_on od hr) sa, he, PostS.off hr sa (fun x => m.dj a sa x) k⟩⟩
  · exact .inr (ht _ _ _ ⟨a, o, ks, hv, hr⟩ h)
theorem lockE_or {j : Nat} {c : CE} {t : TE} {Q : VK} (h : rdE K c σ H Q) (hc : ∀ env p env', ev c env = .ok (p, env') → ∃ kvs, frzD env j = some kvs) (ht : ∀ σ H Q, IsLk j σ H → rdE K c σ H Q → t σ H Q) : tLockE t σ H Q ∨ t σ H Q := by
  obtain ⟨env, S, F, p, env', m, he, k⟩ := id h
  obtain ⟨kvs, hk⟩ := hc _ _ _ he
  obtain ⟨a, ks, hv, sa, hr, rk⟩ := frzD_at m hk
  rcases hr with hr | ⟨o, hr⟩
  · refine .inl ⟨a, .dT ks, hr, trivial, fun od => ht _ _ _ ⟨a, od, ks, hv, upd_same⟩ ⟨env, S, F, p, env', m.lk (lk_on od hr) sa, he, fun v H' S' F' f po => ?_⟩⟩
    obtain ⟨e, po'⟩ := Post.off hr sa (fun x => m.dj a sa x) po
    exact ⟨e, k v _ S' F' f po'⟩
  · exact .inr (ht _ _ _ ⟨a, o, ks, hv, hr⟩ h)
theorem ps_lkor {X : Cx} {st : Stmt} {t : TS} (h : PS X st t) : PS X st (fun D σ H => tLock t D σ H ∨ t D σ H) :=
  ⟨fun pins s σ H D I q => q.elim (fun q => (ps_lock h).run pins s σ H D I q) fun q => h.run pins s σ H D I q⟩
theorem pe_lkor {X : Cx} {e : Expr} {t : TE} (h : PE X e t) : PE X e (fun σ H Q => tLockE t σ H Q ∨ t σ H Q) :=
  ⟨fun pins s σ H Q I q => q.elim (fun q => (pe_lock h).run pins s σ H Q I q) fun q => h.run pins s σ H Q I q⟩
end
section
variable {X : Cx} {tg e : Expr} {td : TE} {apos cpos : Pos}
def iItemsK (td : TE) : TI := fun σ H R => td σ H fun x H1 => ∃ d o kvs, x = .ref d ∧ H1 d = some (.frz o (.dT kvs)) ∧ R (ItiT d o kvs) H1
theorem pi_itemsK {elts : List Expr} {kk : Nat} {tpos : Pos} (he : PE X e td) (hbase : attributeBase e "items" X.env (eval e X.env) = eval e X.env) (hline : (apos.endLine == cpos.line) = true) :
    PI X (.Tuple elts kk tpos) (.Call (.Attribute e "items" apos) [] [] cpos) (iItemsK td) := by
  refine ⟨fun pins s σ H R I h => ?_⟩
  refine wpAny_Call_method (T := "dict") (id := "dict.items") hbase rfl hline F.plainAttrs_dict F.slot_dict_items F.type_dict_items (thn (he.run pins s σ H _ I h) fun u s1 ⟨x, H1, I2, rx, d, od, kvs, ex, hd, q⟩ => ?_)
  subst ex
  obtain rfl : u = Value.ref d := rx
  obtain ⟨hs, hgd, hx, es, ep, hdt, hsz, ent⟩ := I2.frzT hd
  obtain ⟨ty, nd⟩ := isD_at I2 (.inr ⟨kvs, .inr ⟨od, hd⟩⟩)
  have raw : DT.Raw s1.heap d es ep := ⟨_, hgd, hx, hdt⟩
  refine ⟨ty, nd.1, ?_⟩
  have I3 : Inv X pins σ H1 { s1 with heap := s1.heap.push { cls := .type "dict_items", data := .fields #[.ref d] } } := I2.kept (t' := s1.toks) fun b ob q => Heap.get?_push_of_some _ q
  have fin : wpAny (model X.prog X.w) X.A (pyIter (.ref s1.heap.objs.size)) (PIE X pins σ (.Tuple elts kk tpos) R) X.xe { s1 with heap := s1.heap.push { cls := .type "dict_items", data := .fields #[.ref d] } } := by
    refine DT.iterI (d := d) (es := es) (ep := ep) ⟨_, Heap.get?_push_size _ rfl, rfl, rfl⟩ (raw.push _) (pi_one (tk := s1.toks) I3 _ (turn_itemsT _ hdt) ⟨.none, .none, ?_⟩ q)
    rw [← hsz]
    exact Heap.get?_push_size _ rfl
  show wpAny _ _ (callWith cpos (.builtin "dict.items") [.ref d] [] []) _ X.xe s1
  exact method_meetsIn F.slot_dict_items F.entry_dict_items rfl (PySem.evalArgs_none ⟨rfl, ty, F.args_dict_items_1 _, _, DT.meetsItems (es := es) (ep := ep) hs, raw, fin⟩)
end
section
variable {K : PySem.W.Frag} {H : Hp} {σ : L2.St} {R' : It → Hp → Prop}
theorem lkd_at {j : Nat} {S F : AS} {env : EL.Env} {kvs} (m : M K env σ H S F) (hl : IsLk j σ H) (h : frzD env j = some kvs) : ∃ a o ks, σ[j]? = some (some (.ref a)) ∧ H a = some (.frz o (.dT ks)) ∧ S a ∧ RepKs K H S kvs ks := by
  obtain ⟨a, o, ks, h1, h2⟩ := hl
  obtain ⟨a', ks', h3, sa, hr, rk⟩ := frzD_at m h
  rw [h1] at h3
  cases h3
  rcases hr with hr | ⟨o', hr⟩
  · rw [h2] at hr; cases hr
  · rw [h2] at hr; cases hr
    exact ⟨a, o, ks, h1, h2, sa, rk⟩
theorem rd_keysF {j : Nat} (h : iF K j (.keysF j) σ H R') : iKeys (tVar j) σ H R' := by
  obtain ⟨hl, env, S, F, xs, env', m, he, k⟩ := h
  unfold evI at he
  obtain ⟨kvs, h2, he⟩ := R.bind_eq_ok he
  have h2 := R.of_eq_ok h2
  cases he
  obtain ⟨a, o, ks, h1, hd, sa, rk⟩ := lkd_at m hl h2
  exact ⟨.ref a, h1, a, o, rfl, .inr ⟨ks, hd, k _ H S F m Step.refl (walks_keys hd sa rk)⟩⟩
theorem rd_itemsF {j : Nat} (h : iF K j (.itemsF j) σ H R') : iItemsK (tVar j) σ H R' := by
  obtain ⟨hl, env, S, F, xs, env', m, he, k⟩ := h
  unfold evI at he
  obtain ⟨kvs, h2, he⟩ := R.bind_eq_ok he
  have h2 := R.of_eq_ok h2
  cases he
  obtain ⟨a, o, ks, h1, hd, sa, rk⟩ := lkd_at m hl h2
  exact ⟨.ref a, h1, a, o, ks, rfl, hd, k _ H S F m Step.refl (walks_items hd sa rk)⟩
end
end EL

set_option maxRecDepth 100000
/-! EL14k: d.get(k), d.get(k, default), s.index(t), raise -/
namespace EL
open PySem PySem.Spec L2
section
variable {K : PySem.W.Frag} {H : Hp} {S F f : AS}
theorem dic_isD {fl : Fl} {d : DK} {kvs} {v : V} (h : RepO K H S (.dic fl d kvs) v f) : ∃ a, v = .ref a ∧ IsD H a := by
  obtain ⟨a, ks, rfl, hd, _⟩ := h.dic
  refine ⟨a, rfl, ?_⟩
  cases d with
  | t => exact .inr ⟨_, hd⟩
  | k => obtain ⟨kk, h1, _⟩ := hd; exact .inl ⟨kk, h1⟩
/-- what stands at a key, or the other value -/
def getV (kvs : List (List L2.Key × PV)) (q : List L2.Key) (d : Option PV) : PV := match getP kvs q with
  | some v => EL.frz v
  | none => EL.frz (d.getD .non)
theorem rd_getX {i : Nat} {k : CE} {d : Option PV} {σ : St} {H : Hp} {Q : VK} {Zz : Option V → Hp → Prop} (hR : ∀ o H2, (∀ z, (o = none → ∀ G T, RepF K G T (EL.frz (d.getD .non)) z) → Q (o.getD z) H2) → Zz o H2) (h : rdE K (.get i k d) σ H Q) :
    ∃ a, σ[i]? = some (some (.ref a)) ∧ IsD H a ∧ rdE K k σ H fun y H2 => ∃ o, DGet H2 a y o ∧ Zz o H2 := by
  obtain ⟨env, S, F, p, env', m, he, kk⟩ := h
  unfold ev at he
  split at he
  · rename_i fl dk kvs hs
    obtain ⟨⟨p1, e1⟩, h1, he⟩ := R.bind_eq_ok he
    simp only at he
    split at he
    · rename_i fl2 dk2 kvs2 hx
      obtain ⟨q, hq, hr⟩ := R.bind_eq_ok he
      have hq := R.of_eq_ok hq
      injection hr with hr
      injection hr with q1 q2
      subst q2
      obtain ⟨v, F1, F2, hv, _, _, _, rv, _⟩ := m.en.take hs
      obtain ⟨a, rfl, hD⟩ := dic_isD rv
      refine ⟨a, hv, hD, env, S, F, p1, e1, m, h1, fun y H2 S2 F3 f2 po => ?_⟩
      obtain ⟨v', G1, G2, hv', _, _, _, rv', _⟩ := po.m.en.take hx
      rw [hv] at hv'
      cases hv'
      obtain ⟨a', ks, ea, hd, rk⟩ := rv'.dic
      cases ea
      refine ⟨valV ks q, hd.get hq po.r, hR _ _ fun z hz => ?_⟩
      have st := po.st.weak fun a x => Or.inl x
      cases hg : getP kvs2 q with
      | some pv =>
        obtain ⟨w, hw, rw_⟩ := (rk.get q).1 pv hg
        rw [hw]
        rw [hg] at q1
        subst q1
        exact kk _ H2 S2 F3 Emp (((New.sc rw_.frz (isOwn_frz pv)).post po.m).after st po.m.dj)
      | none =>
        have hn := (rk.get q).2 hg
        rw [hn]
        rw [hg] at q1
        subst q1
        exact kk _ H2 S2 F3 Emp (((New.sc (hz hn H2 S2) (isOwn_frz _)).post po.m).after st po.m.dj)
    · cases he
  · cases he
theorem rd_get1 {i : Nat} {k : CE} {σ : St} {H : Hp} {Q : VK} (h : rdE K (.get i k none) σ H Q) : tDGet1 (tVar i) (rdE K k) σ H Q := by
  obtain ⟨a, hv, hD, h⟩ := rd_getX (d := none) (Zz := fun o H2 => Q (o.getD .non) H2) (fun o H2 h => h .non fun _ _ _ => rfl) h
  exact ⟨_, hv, a, rfl, hD, h⟩
theorem rd_get2 {i : Nat} {k : CE} {d : PV} {u : V} (hu : ∀ G T, RepF K G T d u) {σ : St} {H : Hp} {Q : VK} (h : rdE K (.get i k (some d)) σ H Q) : tDGet2 (tVar i) (rdE K k) (tC u) σ H Q := by
  obtain ⟨a, hv, hD, h⟩ := rd_getX (d := some d) (Zz := fun o H2 => Q (o.getD u) H2) (fun o H2 h => h u fun _ G T => (hu G T).frz) h
  exact ⟨_, hv, a, rfl, hD, h⟩
/-- s.index(t), found -/
theorem rd_sidx {o e : CE} {σ : St} {H : Hp} {Q : VK} (h : rdE K (.sidx o e) σ H Q) : tBMS K "str" (rIndexX fun _ _ _ _ => False) (rdA K o) (tCons (rdE K e) tNil) σ H Q := by
  obtain ⟨env, S, F, p, env', m, he, kk⟩ := h
  unfold ev at he
  obtain ⟨⟨a1, e1⟩, h1, he⟩ := R.bind_eq_ok he
  simp only at he
  split at he
  · rename_i x hx
    obtain ⟨⟨q, e2⟩, h2, he⟩ := R.bind_eq_ok he
    simp only at he
    split at he
    · rename_i y
      obtain ⟨k, hk, hr⟩ := R.bind_eq_ok he
      have hk := R.of_eq_ok hk
      injection hr with hr
      injection hr with q1 q2
      subst q1; subst q2
      refine ⟨env, S, F, a1, e1, m, h1, fun v1 H1 S1 F1 f1 p1 => ?_⟩
      obtain ⟨f1', r1'⟩ := RepO.repA p1.m p1.r hx
      have ev1 : v1 = .str x := r1'
      subst ev1
      refine ⟨rfl, e1, S1, F1, .str y, e2, p1.m, h2, fun v2 H2 S2 F2 f2 p2 => ?_⟩
      obtain ⟨m2, r1, r2, st⟩ := p1.oneE p2
      have ev2 : v2 = .str y := r2
      subst ev2
      refine ⟨x, y, rfl, rfl, fun k' hk' => ?_, fun hn => ?_⟩
      · rw [hk] at hk'
        cases hk'
        exact kk _ H2 S2 F2 Emp (((New.int _).post m2).after st m2.dj)
      · rw [hk] at hn; cases hn
    · cases he
  · cases he
theorem rd_rais {D : Ends} {σ : St} {H : Hp} (h : rdST K .rais D σ H) : False := by
  obtain ⟨env, S, F, fl, env', m, he, _⟩ := h
  unfold ex at he
  cases he
end
end EL

set_option maxRecDepth 100000
/-! EL15: the checker of core terms against the text -/
namespace EL
open PySem PySem.Spec L2
/-! ### shapes of expressions -/
def nS : Expr → Bool
  | .Starred .. => false | .Slice .. => false | .Set .. => false | _ => true
def nC : Expr → Bool
  | .ListComp .. => false | .SetComp .. => false | .DictComp .. => false | _ => true
def nT : Expr → Bool
  | .Tuple .. => false | _ => true
def plT : Expr → Bool
  | .Name .. => true | .Call .. => true | .Subscript .. => true | .Constant .. => true | _ => false
def nSs : List Expr → Bool
  | [] => true
  | e :: r => nS e && nSs r
theorem star_cons {e : Expr} {es : List Expr} {env : PySem.Env} (h : nS e = true) : starEach (e :: es) env = (false, eval e env) :: starEach es env := by
  cases e <;> first | rfl | cases h
theorem assign_cons {e : Expr} {es : List Expr} {env : PySem.Env} (h : nS e = true) : assignEach (e :: es) env = (false, assign e env) :: assignEach es env := by
  cases e <;> first | rfl | cases h
theorem star_any {pos : Pos} {env : PySem.Env} : ∀ {es : List Expr}, nSs es = true → (backTo pos (starEach es env)).any (·.1) = false
  | [], _ => rfl
  | e :: r, h => by
    unfold nSs at h
    rw [Bool.and_eq_true] at h
    rw [star_cons h.1]
    show (false || (backTo pos (starEach r env)).any (·.1)) = false
    rw [star_any h.2]; rfl
theorem star_all {pos : Pos} {env : PySem.Env} : ∀ {es : List Expr}, nSs es = true → (backTo pos (starEach es env)).all (fun x => !x.1) = true
  | [], _ => rfl
  | e :: r, h => by
    unfold nSs at h
    rw [Bool.and_eq_true] at h
    rw [star_cons h.1]
    show (true && (backTo pos (starEach r env)).all (fun x => !x.1)) = true
    rw [star_all h.2]; rfl
theorem plainIx {b : Expr} (h : nS b = true) : PlainIx b := by
  intro o i
  cases b <;> first | rfl | cases h
theorem behind_nS {op : CmpOp} {b : Expr} (h : nS b = true) : behindInMarks op b = false := by
  cases b <;> first | rfl | cases h
theorem folded_nS {b : Expr} {env : PySem.Env} (h : nS b = true) : ∀ x, foldedSetIterable b env x = pure x := by
  intro x
  cases b <;> first | rfl | cases h
theorem swaps_nC {e : Expr} {t : Option Expr} {l : Nat} {env : PySem.Env} (h : nC e = true) : swapsWith e t l env = pure false := by
  cases e <;> first | rfl | cases h
theorem swaps_sub {e o i : Expr} {p : Pos} {l : Nat} {env : PySem.Env} : swapsWith e (some (.Subscript o i p)) l env = pure false := by
  cases e <;> rfl
theorem stores_name {e : Expr} {x : Str} {p : Pos} {env : PySem.Env} : swappedStores [.Name x p] e env = pure none := by
  cases e <;> rfl
theorem stores_sub {e o i : Expr} {p : Pos} {env : PySem.Env} : swappedStores [.Subscript o i p] e env = pure none := by
  cases e <;> rfl
theorem stores_tup {e : Expr} {es : List Expr} {k : Nat} {p : Pos} {env : PySem.Env} (h : nT e = true) : swappedStores [.Tuple es k p] e env = pure none := by
  cases e <;> first | rfl | cases h
theorem stores_len {es vs : List Expr} {k k2 : Nat} {p p2 : Pos} {env : PySem.Env} (h : 3 < es.length) : swappedStores [.Tuple es k p] (.Tuple vs k2 p2) env = pure none := by
  unfold swappedStores
  have h1 : (es.length == 2) = false := by simp; omega
  have h2 : (es.length == 3) = false := by simp; omega
  simp [h1, h2]
theorem stores_two {x y : Str} {a b : Expr} {px py pt pt2 : Pos} {kt k2 : Nat} {env : PySem.Env} (hk : env.scope.kind = .function) (hx : env.scope.names.lookup x = some .local) (hy : env.scope.names.lookup y = some .local)
    (hl : (py.line == px.line) = true) (hxy : (x == y) = false) (ha : nS a = true) (hb : nS b = true) (hf : ([a, b].all (foldedForSure 8)) = false) (hc : ([a, b].all (constantsAlone 8)) = false) :
    swappedStores [.Tuple [.Name x px, .Name y py] kt pt] (.Tuple [a, b] k2 pt2) env = pure (some [x, y]) := by
  have kx : env.kindOf x = some .local := hx
  have ky : env.kindOf y = some .local := hy
  have hbk : env.blockKind = .function := by unfold Env.blockKind; rw [hk]; rfl
  have hyx : (y == x) = false := by
    cases e : (y == x) with
    | false => rfl
    | true => rw [beq_iff_eq] at e; subst e; simp at hxy
  have hl2 : py.line = px.line := by simpa using hl
  unfold swappedStores
  simp [hbk, kx, ky, hl2, hf, hc, hxy, hyx, Expr.pos, List.eraseDups, List.eraseDupsBy, List.eraseDupsBy.loop]
  rintro (h | h)
  · clear hf hc hb
    cases a <;> first | (simp at h; done) | cases ha
  · clear hf hc ha
    cases b <;> first | (simp at h; done) | cases hb
end EL

set_option maxRecDepth 100000
/-! EL16: the checker -/
namespace EL
open PySem PySem.Spec L2
structure SC where
  N : List Str
  sc : Scope
  fn : Bool
  B : List Str
def SC.blk (C : SC) (scope : Scope) : SC := { C with sc := relS scope C.sc, fn := false }
def visB (sc : Scope) (x : Str) : Bool := match sc.names.lookup x with
  | some .local => true
  | some .cell => true
  | some .free => true
  | _ => false
def locB (C : SC) (x : Str) : Bool := match C.sc.names.lookup x with
  | some .local => true
  | some .cell => C.fn
  | _ => false
def isLoc (C : SC) (x : Str) : Bool := match C.sc.names.lookup x with
  | some .local => true
  | _ => false
def nm (C : SC) (i : Nat) (e : Expr) : Bool := match e with
  | .Name x _ => decide (C.N[i]? = some x) && visB C.sc x && !(x == ("__debug__" : Str)) && !(x == ("__classdict__" : Str))
  | _ => false
def glB (C : SC) (x : Str) : Bool := decide (C.sc.names.lookup x = some .globalImplicit) && !(x == ("__debug__" : Str))
def litB (v : PV) (e : Expr) : Bool := match e with
  | .Constant (.int j) _ _ => match v with | .int i => decide (i = j) | _ => false
  | .Constant (.bool j) _ _ => match v with | .bl i => decide (i = j) | _ => false
  | .Constant (.str j) _ _ => match v with | .str i => decide (i = j) | _ => false
  | .Constant .none _ _ => match v with | .non => true | _ => false
  | _ => false
def opB : Bin → Operator
  | .add => .Add | .sub => .Sub | .mul => .Mult | .mod => .Mod | .fdiv => .FloorDiv | .pow => .Pow
def opC : Cmp → CmpOp
  | .eq => .Eq | .ne => .NotEq | .lt => .Lt | .le => .LtE | .gt => .Gt | .ge => .GtE | .is => .Is | .isNot => .IsNot | .in_ => .In | .notIn => .NotIn
def tOk : Expr → Bool
  | .BoolOp .. => true | .UnaryOp .Not _ _ => true | .Compare .. => true | .Name .. => true | .Call .. => true | .Subscript .. => true | .Constant .. => true | _ => false
def bo : Expr → Bool
  | .BoolOp .. => true | _ => false
def isLc : Expr → Bool
  | .ListComp .. => true | _ => false
def bltN : Blt → String
  | .len => "len" | .abs => "abs" | .min2 => "min" | .max2 => "max" | .sum => "sum" | .all => "all" | .tuple => "tuple" | .list => "list" | .int => "int"
  | .min1 => "min" | .max1 => "max" | .sorted => "sorted" | .str => "str" | .lenset => "len" | .isi _ => "isinstance"
def bltOk : Blt → Bool
  | .len | .abs | .min2 | .max2 | .min1 | .max1 | .sum | .all | .tuple | .list | .int | .sorted => true
  | _ => false
def ownOf (N : List Str) (vs : List Nat) : List (Str × Nat) := vs.filterMap fun v => (N[v]?).map fun x => (x, v)
def chkK (k : IK) (C : SC) (e : Expr) : Bool := match k with
  | .lit i => litB (.int i) e
  | .var i => nm C i e
  | .at_ i j => match e with
    | .Subscript o x _ => nm C i o && litB (.int j) x && nS x
    | _ => false
/-- a target -/
def chkN (C : SC) (i : Nat) (e : Expr) : Bool := match e with
  | .Name x _ => decide (C.N[i]? = some x) && locB C x
  | _ => false
def chkNs (C : SC) : List Nat → List Expr → Bool
  | [], [] => true
  | i :: is, e :: es => chkN C i e && chkNs C is es
  | _, _ => false
def chkT (t : CT) (C : SC) (e : Expr) : Bool := match t with
  | .var i => chkN C i e
  | .tup is => match e with
    | .Tuple es _ _ => chkNs C is es
    | _ => false
/-- x = [..] on one line -/
def swB (C : SC) (tg e : Expr) : Bool := match tg, e with
  | .Name y py, .ListComp _ _ scope pos => isLoc C y && (py.line == pos.line) && !(scope.names.any fun (n, k) => n == y && (k == .local || k == .cell))
  | _, _ => false
def storeB (tg e : Expr) : Bool := match tg with
  | .Name .. => true
  | .Tuple es _ _ => nT e || (decide (3 < es.length))
  | _ => false
def bsN : Expr → Bool
  | .Name .. => true | _ => false
theorem bsN_base {e : Expr} {env : PySem.Env} {w : Sem Value} {x : Str} (h : bsN e = true) : attributeBase e x env w = w := by
  unfold bsN at h
  split at h
  · rfl
  · cases h
def isR : CE → Bool
  | .rpl .. => true | _ => false
def bsR : Expr → Bool
  | .Name .. => true | .Call (.Attribute _ _ _) _ _ _ => true | _ => false
theorem bsR_base {e : Expr} {env : PySem.Env} {w : Sem Value} {x : Str} (h : bsR e = true) : attributeBase e x env w = w := by
  unfold bsR at h
  split at h
  · rfl
  · rfl
  · cases h
/-- a name's text, signs exchanged one after another -/
def chkR : CE → SC → Expr → Bool
  | .rpl a y z, C, e => match e with
    | .Call (.Attribute q n ap) [.Constant (.str y') _ _, .Constant (.str z') _ _] [] cp => decide (n = ("replace" : Str)) && decide (y = y') && decide (z = z') && !(y == z) && (ap.endLine == cp.line) && bsR q && chkR a C q
    | _ => false
  | .var i, C, e => nm C i e
  | _, _, _ => false
def chkIR (it : CI) (C : SC) (e : Expr) : Bool := match it, e with
  | .val (.idx (.var i) (.lit (.int n))), .Subscript o (.Constant (.int m) _ _) _ => decide (m = n) && nm C i o
  | _, _ => false
def itB : Expr → Bool
  | .Name .. => true
  | .Call _ (_ :: _) _ _ => true
  | _ => false
def tupB : Expr → Bool
  | .Tuple .. => true
  | _ => false
/-- a walk over a frozen dict -/
def chkIF (it : CI) (C : SC) (tg e : Expr) : Bool := match it with
  | .keysF j => nm C j e
  | .itemsF j => tupB tg && match e with
    | .Call (.Attribute o n ap) [] [] cp => decide (n = ("items" : Str)) && (ap.endLine == cp.line) && nm C j o
    | _ => false
  | _ => false
mutual
def chkE : CE → SC → Expr → Bool
  | .var i, C, e => nm C i e
  | .mv i, C, e => nm C i e
  | .lit v, _, e => litB v e
  | .glb x v, C, e => match e with
    | .Name y _ => decide (y = Str.ofString x) && glB C y && !isOwn v
    | _ => false
  | .bin op a b, C, e => match e with
    | .BinOp l o r _ => decide (o = opB op) && chkE a C l && chkE b C r
    | _ => false
  | .neg a, C, e => match e with
    | .UnaryOp .USub x _ => chkE a C x
    | _ => false
  | .cmp op a b, C, e => match e with
    | .Compare l [o] [r] _ => decide (o = opC op) && nS r && chkE a C l && chkE b C r
    | _ => false
  | .chn o1 o2 a b c, C, e => match e with
    | .Compare l [p, q] [r, s] _ => decide (p = opC o1) && decide (q = opC o2) && nS s && chkE a C l && chkE b C r && chkE c C s
    | _ => false
  | .and a b, C, e => match e with
    | .BoolOp .And (x :: y :: r) p => chkE a C x && tOk x && (match r with
      | [] => chkE b C y && tOk y
      | _ :: _ => chkE b C (.BoolOp .And (y :: r) p))
    | _ => false
  | .or a b, C, e => match e with
    | .BoolOp .Or (x :: y :: r) p => chkE a C x && tOk x && (match r with
      | [] => chkE b C y && tOk y
      | _ :: _ => chkE b C (.BoolOp .Or (y :: r) p))
    | _ => false
  | .not a, C, e => match e with
    | .UnaryOp .Not x _ => chkE a C x && tOk x
    | _ => false
  | .ite c a b, C, e => match e with
    | .IfExp t x y _ => chkE c C t && tOk t && chkE a C x && chkE b C y
    | _ => false
  | .tup es, C, e => match e with
    | .Tuple xs _ _ => chkEs es C xs && nSs xs
    | _ => false
  | .lst _ es, C, e => match e with
    | .List xs _ => chkEs es C xs && nSs xs
    | _ => false
  | .dic _ ps, _, e => match e with
    | .Dict [] [] _ => (match ps with
      | .nil => true
      | _ => false)
    | _ => false
  | .dic1 k v, C, e => match e with
    | .Dict [some x] [y] _ => chkE k C x && chkE v C y
    | _ => false
  | .idx a i, C, e => match e with
    | .Subscript x y _ => nS y && chkE a C x && chkE i C y
    | _ => false
  | .idx2 j a b, C, e => match e with
    | .Subscript (.Subscript o x _) y _ => nm C j o && chkK a C x && nS x && chkK b C y && nS y
    | _ => false
  | .slc a lo hi, C, e => match e with
    | .Subscript x (.Slice l h none _) _ => chkE a C x && chkO lo C l && chkO hi C h
    | _ => false
  | .rev a, C, e => match e with
    | .Subscript x (.Slice none none (some (.UnaryOp .USub (.Constant (.int j) _ _) _)) _) _ => decide (j = 1) && chkE a C x
    | _ => false
  | .call f _ es, C, e => match e with
    | .Call (.Name x _) xs [] _ => decide (x = Str.ofString f) && glB C x && nSs xs && chkAs es C xs
    | _ => false
  | .prm f _ es, C, e => match e with
    | .Call (.Name x _) xs [] _ => decide (x = Str.ofString f) && glB C x && nSs xs && chkAs es C xs
    | _ => false
  | .blt b es, C, e => match e with
    | .Call (.Name x _) xs [] _ => (match b with
      | .isi t => isTs.contains t && decide (x = ("isinstance" : Str)) && glB C x && C.B.contains x && (match xs with
        | [a, .Name y _] => decide (y = Str.ofString t) && glB C y && C.B.contains y && nS a && (match es with
          | .cons c .nil => chkE c C a
          | _ => false)
        | _ => false)
      | b => bltOk b && decide (x = Str.ofString (bltN b)) && glB C x && C.B.contains x && !xs.isEmpty && nSs xs && chkAs es C xs)
    | _ => false
  | .mth m o es, C, e => match e with
    | .Call (.Attribute q n ap) [a] [] cp => (match m, o, es with
      | .join, .lit (.str z), .cons c .nil => decide (n = ("join" : Str)) && (ap.endLine == cp.line) && litB (.str z) q && nS a && chkE c C a
      | _, _, _ => false)
    | _ => false
  | .rpl _ _ _, C, e => false
  | .brw _ c, C, e => plT e && chkE c C e
  | .ixl i c, C, e => match e with
    | .Call (.Attribute q n ap) [a] [] cp => decide (n = ("index" : Str)) && (ap.endLine == cp.line) && nm C i q && nS a && chkE c C a
    | _ => false
  | .get i k d, C, e => match e with
    | .Call (.Attribute q n ap) [a] [] cp => decide (n = ("get" : Str)) && (ap.endLine == cp.line) && nm C i q && nS a && chkE k C a && d.isNone
    | .Call (.Attribute q n ap) [a, b] [] cp => decide (n = ("get" : Str)) && (ap.endLine == cp.line) && nm C i q && nS a && nS b && chkE k C a && (match d with
      | some v => litB v b
      | none => false)
    | _ => false
  | .sidx o c, C, e => match e with
    | .Call (.Attribute q n ap) [a] [] cp => decide (n = ("index" : Str)) && (ap.endLine == cp.line) && bsN q && chkE o C q && nS a && chkE c C a
    | _ => false
  | .lc _ vs t it c e1, C, e => match e with
    | .ListComp elt [⟨tg, iter, ifs, n⟩] scope _ => decide (n = 0) && decide ((ownOf C.N vs).map (·.2) = vs) && blkC C.N C.sc scope (ownOf C.N vs) && chkT t (C.blk scope) tg && nS iter && chkC c (C.blk scope) ifs && (if isR e1 then chkIR it C iter && chkR e1 (C.blk scope) elt else (chkI it C tg iter || chkIF it C tg iter) && chkE e1 (C.blk scope) elt)
    | _ => false
  | .lc2 vs vs1 t it c t1 it1 c1 e1, C, e => match e with
    | .ListComp elt [⟨tg, iter, ifs, n⟩, ⟨tg1, iter1, ifs1, n1⟩] scope _ => decide (n = 0) && decide (n1 = 0) && decide ((ownOf C.N vs).map (·.2) = vs) && vs1.all (fun i => vs.contains i) && blkC C.N C.sc scope (ownOf C.N vs) && chkT t (C.blk scope) tg && nS iter && chkI it C tg iter && chkC c (C.blk scope) ifs &&
      chkT t1 (C.blk scope) tg1 && nS iter1 && chkI it1 (C.blk scope) tg1 iter1 && chkC c1 (C.blk scope) ifs1 && chkE e1 (C.blk scope) elt
    | _ => false
def chkEs : CEs → SC → List Expr → Bool
  | .nil, _, es => es.isEmpty
  | .cons c r, C, es => match es with
    | e :: es => chkE c C e && chkEs r C es
    | [] => false
def chkAs : CEs → SC → List Expr → Bool
  | .nil, _, es => es.isEmpty
  | .cons c r, C, es => match es with
    | e :: es => chkE c C e && chkAs r C es
    | [] => false
def chkO : CO → SC → Option Expr → Bool
  | .no, _, e => e.isNone
  | .yes c, C, e => match e with
    | some e => chkE c C e
    | none => false
def chkC : CO → SC → List Expr → Bool
  | .no, _, es => es.isEmpty
  | .yes c, C, es => match es with
    | [e] => chkE c C e && tOk e
    | _ => false
def chkI : CI → SC → Expr → Expr → Bool
  | .rng1 a, C, _, e => match e with
    | .Call (.Name x _) [y] [] _ => decide (x = ("range" : Str)) && glB C x && C.B.contains x && nS y && chkE a C y
    | _ => false
  | .rng2 a b, C, _, e => match e with
    | .Call (.Name x _) [y, z] [] _ => decide (x = ("range" : Str)) && glB C x && C.B.contains x && nS y && nS z && chkE a C y && chkE b C z
    | _ => false
  | .val c, C, _, e => chkE c C e
  | .keys c, C, _, e => chkE c C e
  | .items c, C, tg, e => tupB tg && match e with
    | .Call (.Attribute o n ap) [] [] cp => decide (n = ("items" : Str)) && (ap.endLine == cp.line) && itB o && chkE c C o
    | _ => false
  | .values _, _, _, _ => false
  | .keysF _, _, _, _ => false
  | .itemsF _, _, _, _ => false
end
/-- l = g[a]; l[b] = x if i else y -/
def aliB (s : CS) (C : SC) (ss : List Stmt) : Bool := match s, ss with
  | .ali l g a b i x y, s1 :: s2 :: _ => (match s1, s2 with
    | .Assign [.Name ln p] (.Subscript q u _) _, .Assign [.Subscript q2 u2 _] (.IfExp c v w _) _ => chkN C l (.Name ln p) && nm C g q && chkK a C u && nS u && nm C l q2 && chkK b C u2 && nS u2 && nm C i c && litB (.str x) v && litB (.str y) w && decide (l ≠ g) && decide (l ≠ i) && decide (ikS b ≠ some l)
    | _, _ => false)
  | _, _ => false
mutual
def chkS : CS → SC → Stmt → Bool
  | .expr c, C, s => match s with
    | .Expr e _ => nC e && chkE c C e
    | _ => false
  | .asg t c, C, s => match s with
    | .Assign [tg] e _ => chkE c C e && chkT t C tg && (nC e && storeB tg e || swB C tg e || tupB tg && storeB tg e)
    | _ => false
  | .par i j a b, C, s => match s with
    | .Assign [.Tuple [.Name x px, .Name y py] _ _] (.Tuple [l, r] _ _) _ => decide (C.N[i]? = some x) && decide (C.N[j]? = some y) && isLoc C x && isLoc C y && (py.line == px.line) && !(x == y) && nS l && nS r &&
      !([l, r].all (foldedForSure 8)) && !([l, r].all (constantsAlone 8)) && chkE a C l && chkE b C r
    | _ => false
  | .sti i k c, C, s => match s with
    | .Assign [.Subscript o x _] e _ => nm C i o && nS x && chkE k C x && chkE c C e
    | _ => false
  | .sti2 i a b c, C, s => match s with
    | .Assign [.Subscript (.Subscript o x _) y _] e _ => nm C i o && chkK a C x && nS x && chkK b C y && nS y && chkE c C e
    | _ => false
  | .app i c, C, s => match s with
    | .Expr (.Call (.Attribute o n ap) [e] [] cp) _ => decide (n = ("append" : Str)) && (ap.endLine == cp.line) && nm C i o && nS e && chkE c C e
    | _ => false
  | .ext i c, C, s => match s with
    | .Expr (.Call (.Attribute o n ap) [e] [] cp) _ => decide (n = ("extend" : Str)) && (ap.endLine == cp.line) && nm C i o && nS e && chkE c C e
    | _ => false
  | .del _ _, _, _ => false
  | .ret c, C, s => match s with
    | .Return e _ => chkO c C e
    | _ => false
  | .ite c a b, C, s => match s with
    | .If e x y _ => tOk e && chkE c C e && chkB a C x && chkB b C y
    | _ => false
  | .whl c b, C, s => match s with
    | .While e x [] _ => tOk e && chkE c C e && chkB b C x
    | _ => false
  | .for_ t it b, C, s => match s with
    | .For tg e x [] _ => chkT t C tg && nS e && (chkI it C tg e || chkIF it C tg e) && chkB b C x
    | _ => false
  | .ali _ _ _ _ _ _ _, _, _ => false
  | .brk, _, s => match s with
    | .Break _ => true
    | _ => false
  | .cnt, _, s => match s with
    | .Continue _ => true
    | _ => false
  | .pass, _, s => match s with
    | .Pass _ => true
    | _ => false
  | .rais, _, s => match s with
    | .Raise _ _ _ => true
    | _ => false
def chkB : CSs → SC → List Stmt → Bool
  | .nil, _, ss => ss.isEmpty
  | .cons s r, C, ss => match ss with
    | x :: xs => chkS s C x && chkB r C xs || aliB s C (x :: xs) && chkB r C (xs.drop 1)
    | [] => false
end
/-! ### what is used of the module -/
inductive Use where
  | fn (f : String) (cf : CF) | pr (f : String) (p : List PV → Option PV) | gl (x : String) (v : PV)
mutual
def usE : CE → List Use
  | .glb x v => [.gl x v]
  | .bin _ a b => usE a ++ usE b
  | .neg a => usE a
  | .cmp _ a b => usE a ++ usE b
  | .chn _ _ a b c => usE a ++ (usE b ++ usE c)
  | .and a b => usE a ++ usE b
  | .or a b => usE a ++ usE b
  | .not a => usE a
  | .ite c a b => usE c ++ (usE a ++ usE b)
  | .tup es => usEs es
  | .lst _ es => usEs es
  | .dic1 k v => usE k ++ usE v
  | .idx a i => usE a ++ usE i
  | .slc a lo hi => usE a ++ (usO lo ++ usO hi)
  | .rev a => usE a
  | .call f cf es => .fn f cf :: usEs es
  | .prm f p es => .pr f p :: usEs es
  | .blt _ es => usEs es
  | .lc _ _ _ it c e => usI it ++ (usO c ++ usE e)
  | .lc2 _ _ _ it c _ it1 c1 e => usI it ++ (usO c ++ (usI it1 ++ (usO c1 ++ usE e)))
  | .mth _ _ es => usEs es
  | .ixl _ c => usE c
  | .get _ k _ => usE k
  | .sidx o c => usE o ++ usE c
  | .brw _ c => usE c
  | _ => []
def usEs : CEs → List Use
  | .nil => []
  | .cons c r => usE c ++ usEs r
def usO : CO → List Use
  | .no => []
  | .yes c => usE c
def usI : CI → List Use
  | .rng1 a => usE a
  | .rng2 a b => usE a ++ usE b
  | .val e => usE e
  | .keys e => usE e
  | .items e => usE e
  | _ => []
end
mutual
def usS : CS → List Use
  | .expr c => usE c
  | .asg _ c => usE c
  | .par _ _ a b => usE a ++ usE b
  | .sti _ k c => usE k ++ usE c
  | .sti2 _ _ _ c => usE c
  | .app _ c => usE c
  | .ext _ c => usE c
  | .ret c => usO c
  | .ite c a b => usE c ++ (usB a ++ usB b)
  | .whl c b => usE c ++ usB b
  | .for_ _ it b => usI it ++ usB b
  | _ => []
def usB : CSs → List Use
  | .nil => []
  | .cons s r => usS s ++ usB r
end
section
variable (P : Program) (w : World) (K : PySem.W.Frag) (mg : Str → Option Value) (base : Heap) (k : Nat)
def LkF (f : String) (sp : Sp) : Prop := ∃ fa fd ps, FnOk P w K mg base CX0 k fa fd ps sp ∧ mg (Str.ofString f) = some (.ref fa) ∧ PySem.W.keepIn K (.ref fa) = true ∧ Binds K fd ps []
def LkU : Use → Prop
  | .fn f cf => LkF P w K mg base k f (spOf K cf)
  | .pr f p => LkF P w K mg base k f (spPr K p)
  | .gl x v => ∃ u vv, mg (Str.ofString x) = some u ∧ RelV vv u ∧ ∀ H S, RepF K H S v vv
def AllU : List Use → Prop
  | [] => True
  | u :: r => LkU P w K mg base k u ∧ AllU r
end
abbrev Lks (X : Cx) (k : Nat) (us : List Use) : Prop := AllU X.prog X.w X.K X.mg X.base k us
theorem AllU.app {P : Program} {w : World} {K : PySem.W.Frag} {mg : Str → Option Value} {base : Heap} {k : Nat} : ∀ {a b : List Use}, AllU P w K mg base k (a ++ b) → AllU P w K mg base k a ∧ AllU P w K mg base k b
  | [], _, h => ⟨trivial, h⟩
  | u :: r, b, h => by
    obtain ⟨h1, h2⟩ := h
    obtain ⟨h3, h4⟩ := AllU.app (a := r) h2
    exact ⟨⟨h1, h3⟩, h4⟩
structure Ct (C : SC) (k : Nat) (X : Cx) : Prop where
  hN : X.N = C.N
  sc : X.env.scope = C.sc
  kind : C.sc.kind = .function
  calm : X.calm = true
  nd : C.N.Nodup
  room : Room k X.A
  fn : C.fn = true → ∀ x, X.fn x = true
  bl : ∀ x ∈ C.B, X.mg x = none
  xe : X.xe = fun _ _ => False
end EL

set_option maxRecDepth 100000
/-! EL17: the checker is sound -/
namespace EL
open PySem PySem.Spec L2
section
variable {C : SC} {k : Nat} {X : Cx}
theorem Ct.un (c : Ct C k X) : X.A.units + 66 < cLine := by
  have h := c.room.un
  omega
theorem Ct.nd' (c : Ct C k X) : X.N.Nodup := by rw [c.hN]; exact c.nd
theorem vis_of {sc : Scope} {x : Str} (h : visB sc x = true) : Vis sc x := by
  unfold visB at h
  split at h
  · exact .inl (by assumption)
  · exact .inr (.inl (by assumption))
  · exact .inr (.inr (by assumption))
  · cases h
theorem nm_ok (c : Ct C k X) {i : Nat} {e : Expr} (h : nm C i e = true) : PE X e (tVar i) := by
  unfold nm at h
  split at h
  · rename_i x pos
    simp only [Bool.and_eq_true, decide_eq_true_eq, Bool.not_eq_true'] at h
    obtain ⟨⟨⟨h1, h2⟩, h3⟩, h4⟩ := h
    exact pe_var (by rw [c.hN]; exact h1) (by rw [c.sc]; exact vis_of h2) h3 h4
  · cases h
theorem gl_of (c : Ct C k X) {x : Str} (h : glB C x = true) : Gl X x ∧ (x == ("__debug__" : Str)) = false := by
  unfold glB at h
  simp only [Bool.and_eq_true, decide_eq_true_eq, Bool.not_eq_true'] at h
  exact ⟨by show X.env.scope.names.lookup x = _; rw [c.sc]; exact h.1, h.2⟩
theorem bl_of (c : Ct C k X) {x : Str} (h : C.B.contains x = true) : X.mg x = none := c.bl x (by simpa using h)
structure Snd (X : Cx) (c : CE) (e : Expr) : Prop where
  pe : PE X e (rdE X.K c)
  pa : PE X e (rdA X.K c)
  pt : tOk e = true → PT X e (rdT X.K c)
  pw : bo e = true → PW X e (rdT X.K c)
  pl : isLc e = true → ∀ i y py spos, X.N[i]? = some y → X.env.scope.names.lookup y = some .local → swapsWith e (some (.Name y py)) spos.line X.env = pure true → PS X (.Assign [.Name y py] e spos) (tAsg (rdE X.K c) (gName i))
theorem pt_pl {e : Expr} {c : CE} (h : PE X e (rdE X.K c)) (hp : plT e = true) : PT X e (rdT X.K c) := by
  refine rdT_val (pt_val h ?_)
  intro w
  cases e <;> first | rfl | cases hp
theorem pl_bo {e : Expr} (h : plT e = true) : EL.bo e = false := by
  cases e <;> first | rfl | cases h
theorem pl_lc {e : Expr} (h : plT e = true) : isLc e = false := by
  cases e <;> first | rfl | cases h
theorem no_bo {e : Expr} (h : tOk e = false) : EL.bo e = false := by
  cases e <;> first | rfl | cases h
/-- an expression that is no test of its own kind -/
theorem Snd.ofPl {e : Expr} {c : CE} (hc : ∀ i, c ≠ .var i) (hp : plT e = true) (h : PE X e (rdE X.K c)) : Snd X c e :=
  ⟨h, rdA_of hc h, fun _ => pt_pl h hp, fun z => (by rw [pl_bo hp] at z; cases z), fun z => (by rw [pl_lc hp] at z; cases z)⟩
theorem Snd.ofNo {e : Expr} {c : CE} (hc : ∀ i, c ≠ .var i) (hp : tOk e = false) (hl : isLc e = false) (h : PE X e (rdE X.K c)) : Snd X c e :=
  ⟨h, rdA_of hc h, fun z => (by rw [hp] at z; cases z), fun z => (by rw [no_bo hp] at z; cases z), fun z => (by rw [hl] at z; cases z)⟩
theorem Snd.ofTs {e : Expr} {c : CE} (hc : ∀ i, c ≠ .var i) (h : PE X e (rdE X.K c)) (t : PT X e (rdT X.K c)) (hb : bo e = false) (hl : isLc e = false) : Snd X c e :=
  ⟨h, rdA_of hc h, fun _ => t, fun z => (by rw [hb] at z; cases z), fun z => (by rw [hl] at z; cases z)⟩
theorem Snd.ofBo {e : Expr} {c : CE} (hc : ∀ i, c ≠ .var i) (h : PE X e (rdE X.K c)) (t : PW X e (rdT X.K c)) (hl : isLc e = false) : Snd X c e :=
  ⟨h, rdA_of hc h, fun _ => t.pt, fun _ => t, fun z => (by rw [hl] at z; cases z)⟩
theorem lit_ok {v : PV} {e : Expr} (h : litB v e = true) : ∃ u, PE X e (tC u) ∧ plT e = true ∧ (∀ H S, RepF X.K H S v u) ∧ isOwn v = false := by
  unfold litB at h
  split at h
  · rename_i j a b
    split at h
    · rename_i i
      have := of_decide_eq_true h
      subst this
      exact ⟨.int i, pe_int, rfl, fun _ _ => rfl, rfl⟩
    · cases h
  · rename_i j a b
    split at h
    · rename_i i
      have := of_decide_eq_true h
      subst this
      exact ⟨.bl i, pe_bl, rfl, fun _ _ => rfl, rfl⟩
    · cases h
  · rename_i j a b
    split at h
    · rename_i i
      have := of_decide_eq_true h
      subst this
      exact ⟨.str i, pe_str, rfl, fun _ _ => rfl, rfl⟩
    · cases h
  · rename_i a b
    split at h
    · exact ⟨.non, pe_non, rfl, fun _ _ => rfl, rfl⟩
    · cases h
  · cases h
theorem rdT_chn {o1 o2 : Cmp} {a b c : CE} {σ : St} {H : Hp} {Q : Bool → Hp → Prop} {K : PySem.W.Frag} (hE : ∀ {σ H Q}, rdE K (.chn o1 o2 a b c) σ H Q → tChain (rC K (cmpP o1)) (rC K (cmpP o2)) (rdA K a) (rdE K b) (rdA K c) σ H Q)
    (h : rdT K (.chn o1 o2 a b c) σ H Q) : tTest (tChain (rC K (cmpP o1)) (rC K (cmpP o2)) (rdA K a) (rdE K b) (rdA K c)) σ H Q := by
  obtain ⟨env, S, F, b, env', m, he, k⟩ := h
  exact hE ⟨env, S, F, .bl b, env', m, he, fun v H' S' F' f h => ⟨b, h.r.bl, k H' S' F' h.m h.weak⟩⟩
theorem pl_nm {i : Nat} {e : Expr} (h : nm C i e = true) : plT e = true := by
  unfold nm at h
  split at h
  · rfl
  · cases h
theorem cmp_ok {op : Cmp} (hu : X.A.units + 66 < cLine) : OpR X (compareOp (opC op)) (rC X.K (cmpP op)) := by
  by_cases h1 : op = .in_
  · subst h1
    rw [rC_in (op := .in_) (neg := false) rfl]
    exact op_in hu rfl
  · by_cases h2 : op = .notIn
    · subst h2
      rw [rC_in (op := .notIn) (neg := true) rfl]
      exact op_in hu rfl
    · refine op_cmp hu ?_ h1 h2
      cases op <;> rfl
theorem bin_ok {op : Bin} : OpR X (binaryOp (opB op)) (rB X.K (binP op)) := by
  refine op_bin ?_
  cases op <;> rfl
theorem chkK_ok (c : Ct C k X) {a : IK} {e : Expr} (h : chkK a C e = true) : PE X e (rdK X.K a) := by
  cases a with
  | lit i =>
    obtain ⟨u, h1, _, h2, _⟩ := lit_ok (X := X) (v := .int i) h
    have : u = .int i := h2 (fun _ => none) (fun _ => False)
    subst this
    exact h1.imp fun σ H Q q => rdK_lit q
  | var i => exact (nm_ok c h).imp fun σ H Q q => rdK_var q
  | at_ i j =>
    unfold chkK at h
    simp only at h
    split at h
    · simp only [Bool.and_eq_true] at h
      obtain ⟨⟨h1, h2⟩, h3⟩ := h
      obtain ⟨u, h4, _, h5, _⟩ := lit_ok (X := X) h2
      have : u = .int j := h5 (fun _ => none) (fun _ => False)
      subst this
      exact (pe_ix (ix_any c.un) (nm_ok c h1) h4 (plainIx h3)).imp fun σ H Q q => rdK_at q
    · cases h
/-- the functions of the model -/
theorem blt_ok (c : Ct C k X) {b : Blt} (h : bltOk b = true) : (CallR X (.builtin (bltN b)) (rBl X.K (bltP b)) ∧ bootBuiltins (Str.ofString (bltN b)) = some (.builtin (bltN b))) ∨ (CallR X (.type (bltN b)) (rBl X.K (bltP b)) ∧ bootBuiltins (Str.ofString (bltN b)) = some (.type (bltN b))) := by
  cases b with
  | len => exact .inl ⟨call_lenE, PySem.boot_len⟩
  | abs => exact .inl ⟨call_absE, by decide +kernel⟩
  | min2 => exact .inl ⟨call_min2E c.calm, by decide +kernel⟩
  | max2 => exact .inl ⟨call_max2E c.calm, by decide +kernel⟩
  | min1 => exact .inl ⟨ext_call true c.calm c.un, by decide +kernel⟩
  | max1 => exact .inl ⟨ext_call false c.calm c.un, by decide +kernel⟩
  | sum => exact .inl ⟨call_sumE c.calm, by decide +kernel⟩
  | all => exact .inl ⟨call_allE c.calm, by decide +kernel⟩
  | sorted => exact .inl ⟨call_sortedE, by decide +kernel⟩
  | tuple => exact .inr ⟨call_tupleE, by decide +kernel⟩
  | list => exact .inr ⟨call_listE c.calm, by decide +kernel⟩
  | int => exact .inr ⟨call_intE, by decide +kernel⟩
  | _ => cases h
theorem bltN_ne {b : Blt} : Str.ofString (bltN b) ≠ ("__name__" : Str) := by
  cases b with
  | isi t => show Str.ofString "isinstance" ≠ _; decide
  | _ => decide
theorem own_of_mem {N : List Str} {vs : List Nat} : ∀ p ∈ ownOf N vs, N[p.2]? = some p.1 := by
  intro p hp
  unfold ownOf at hp
  obtain ⟨v, _, e⟩ := List.mem_filterMap.mp hp
  cases h : N[v]? with
  | none => rw [h] at e; cases e
  | some x =>
    rw [h] at e
    cases e
    exact h
theorem Ct.blk (c : Ct C k X) {scope : Scope} {own : List (Str × Nat)} (hb : blkC C.N C.sc scope own = true) (s : Shared) (H : Hp) (D : Addr) (cl : List (Str × Addr)) (fp : List Addr) : Ct (C.blk scope) k (X.blk s H scope (compEnvC scope cl D X.env) fp) := by
  refine ⟨c.hN, ?_, ?_, c.calm, c.nd, c.room, fun h => (by cases h), c.bl, rfl⟩
  · show relS scope X.env.scope = relS scope C.sc
    rw [c.sc]
  · have := (blkOk_by hb).kind
    exact this
theorem loc_of (c : Ct C k X) {x : Str} (h : locB C x = true) : Loc X.env.scope x ∧ (X.fn x = true ∨ X.env.scope.names.lookup x = some .local) := by
  unfold locB at h
  rw [c.sc]
  split at h
  · exact ⟨.inl (by assumption), .inr (by assumption)⟩
  · exact ⟨.inr (by assumption), .inl (c.fn h x)⟩
  · cases h
theorem chkN_ok (c : Ct C k X) {i : Nat} {e : Expr} (h : chkN C i e = true) : PG X e (gName i) ∧ nS e = true := by
  unfold chkN at h
  split at h
  · rename_i x pos
    simp only [Bool.and_eq_true, decide_eq_true_eq] at h
    obtain ⟨h1, h2⟩ := loc_of c h.2
    exact ⟨pg_name c.nd' (by rw [c.hN]; exact h.1) h1 h2, rfl⟩
  · cases h
theorem chkNs_ok (c : Ct C k X) : ∀ {is : List Nat} {es : List Expr}, chkNs C is es = true → PGs X es (is.foldr (fun i u => gCons (gName i) u) gNil) ∧ es.length = is.length ∧ (assignEach es X.env).length = is.length ∧ (assignEach es X.env).findIdx? (·.1) = none
  | [], [], _ => ⟨pgs_nil, rfl, rfl, rfl⟩
  | i :: is, e :: es, h => by
    unfold chkNs at h
    rw [Bool.and_eq_true] at h
    obtain ⟨h1, h2⟩ := chkN_ok c h.1
    obtain ⟨h3, h4, h5, h6⟩ := chkNs_ok c h.2
    refine ⟨pgs_cons h1 h3 (by rw [assign_cons h2]; rfl), by simp [h4], by rw [assign_cons h2]; simp [h5], ?_⟩
    rw [assign_cons h2, List.findIdx?_cons]
    simp [h6]
  | [], _ :: _, h => by cases h
  | _ :: _, [], h => by cases h
theorem chkT_ok (c : Ct C k X) {t : CT} {e : Expr} (h : chkT t C e = true) : PG X e (gT X.K t) ∧ (assignEach [e] X.env).map (·.2) = [assign e X.env] := by
  cases t with
  | var i =>
    obtain ⟨h1, h2⟩ := chkN_ok c h
    exact ⟨h1, by rw [assign_cons h2]; rfl⟩
  | tup is =>
    unfold chkT at h
    simp only at h
    split at h
    · obtain ⟨h1, h2, h3, h4⟩ := chkNs_ok c h
      exact ⟨⟨fun pins s σ H v u Q I r hw => hw.elim ((pg_tup c.calm h1 h3 h4).run pins s σ H v u Q I r) ((pg_unl c.calm h1 h3 h4).run pins s σ H v u Q I r)⟩, rfl⟩
    · cases h
theorem own_ok (c : Ct C k X) : PassesOwn (model X.prog X.w) X.A X.env X.xe := by
  rw [c.xe]
  exact PassesOwn.never
end
end EL

set_option maxRecDepth 100000
/-! EL17b: texts with signs exchanged -/
namespace EL
open PySem PySem.Spec L2
section
variable {k : Nat}
theorem sndR : ∀ (c : CE) {C : SC} {X : Cx} {e : Expr}, Ct C k X → chkR c C e = true → PET X e (rdE X.K c)
  | .rpl a y z, C, X, e, ct, h => by
    unfold chkR at h
    split at h
    · rename_i q n ap y' j c0 z' l c1 cp
      simp only [Bool.and_eq_true, decide_eq_true_eq, Bool.not_eq_true'] at h
      obtain ⟨⟨⟨⟨⟨⟨rfl, rfl⟩, rfl⟩, hyz⟩, h1⟩, h2⟩, h3⟩ := h
      have hb : attributeBase q "replace" X.env (eval q X.env) = eval q X.env := bsR_base h2
      have p := CwR.pet_replT (sndR a ct h3) (j := j) (k := l) (c0 := c0) (c1 := c1) (pos := cp) hyz rfl hb h1
      exact fun ps s σ H Q h0 I q => p ps s σ H Q h0 I (rd_rpl q)
    · cases h
  | .var i, C, X, e, ct, h => CwR.PET.of (rdE_var (nm_ok ct (by unfold chkR at h; exact h)))
  | .mv _, _, _, _, _, h => by unfold chkR at h; cases h
  | .lit _, _, _, _, _, h => by unfold chkR at h; cases h
  | .glb _ _, _, _, _, _, h => by unfold chkR at h; cases h
  | .bin _ _ _, _, _, _, _, h => by unfold chkR at h; cases h
  | .neg _, _, _, _, _, h => by unfold chkR at h; cases h
  | .cmp _ _ _, _, _, _, _, h => by unfold chkR at h; cases h
  | .chn _ _ _ _ _, _, _, _, _, h => by unfold chkR at h; cases h
  | .and _ _, _, _, _, _, h => by unfold chkR at h; cases h
  | .or _ _, _, _, _, _, h => by unfold chkR at h; cases h
  | .not _, _, _, _, _, h => by unfold chkR at h; cases h
  | .ite _ _ _, _, _, _, _, h => by unfold chkR at h; cases h
  | .tup _, _, _, _, _, h => by unfold chkR at h; cases h
  | .lst _ _, _, _, _, _, h => by unfold chkR at h; cases h
  | .dic _ _, _, _, _, _, h => by unfold chkR at h; cases h
  | .dic1 _ _, _, _, _, _, h => by unfold chkR at h; cases h
  | .idx _ _, _, _, _, _, h => by unfold chkR at h; cases h
  | .idx2 _ _ _, _, _, _, _, h => by unfold chkR at h; cases h
  | .slc _ _ _, _, _, _, _, h => by unfold chkR at h; cases h
  | .rev _, _, _, _, _, h => by unfold chkR at h; cases h
  | .call _ _ _, _, _, _, _, h => by unfold chkR at h; cases h
  | .prm _ _ _, _, _, _, _, h => by unfold chkR at h; cases h
  | .blt _ _, _, _, _, _, h => by unfold chkR at h; cases h
  | .mth _ _ _, _, _, _, _, h => by unfold chkR at h; cases h
  | .ixl _ _, _, _, _, _, h => by unfold chkR at h; cases h
  | .get _ _ _, _, _, _, _, h => by unfold chkR at h; cases h
  | .sidx _ _, _, _, _, _, h => by unfold chkR at h; cases h
  | .brw _ _, _, _, _, _, h => by unfold chkR at h; cases h
  | .lc _ _ _ _ _ _, _, _, _, _, h => by unfold chkR at h; cases h
  | .lc2 _ _ _ _ _ _ _ _ _, _, _, _, _, h => by unfold chkR at h; cases h
theorem sndIR {it : CI} {C : SC} {X : Cx} {e tg : Expr} (ct : Ct C k X) (h : chkIR it C e = true) : PIK X tg e (rdI X.K it) := by
  unfold chkIR at h
  split at h
  · rename_i i n o m kd cp po
    simp only [Bool.and_eq_true, decide_eq_true_eq] at h
    obtain ⟨rfl, h⟩ := h
    exact pik_ix ct.un (rdA_var (nm_ok ct h)) (plainIx rfl)
  · cases h
end
end EL

set_option maxRecDepth 100000
set_option maxHeartbeats 8000000
/-! EL18: expressions -/
namespace EL
open PySem PySem.Spec L2
theorem rd_chn {K : PySem.W.Frag} {o1 o2 : Cmp} {a b c : CE} {σ : St} {H : Hp} {Q : VK} (h : rdE K (.chn o1 o2 a b c) σ H Q) : tChain (rC K (cmpP o1)) (rC K (cmpP o2)) (rdA K a) (rdE K b) (rdA K c) σ H Q := by
  obtain ⟨env, S, F, p, env', m, he, k⟩ := h
  unfold ev at he
  obtain ⟨⟨a1, e1⟩, h1, he⟩ := R.bind_eq_ok he
  obtain ⟨⟨b1, e2⟩, h2, he⟩ := R.bind_eq_ok he
  simp only at he h2
  cases hx : getA e2 a1 with
  | none => rw [hx] at he; cases he
  | some x =>
    rw [hx] at he
    obtain ⟨z, hz, hr⟩ := R.bind_eq_ok he
    have hz := R.of_eq_ok hz
    refine ⟨env, S, F, a1, e1, m, h1, fun v1 H1 S1 F1 f1 p1 => ⟨e1, S1, F1, b1, e2, p1.m, h2, fun v2 H2 S2 F2 f2 p2 => ?_⟩⟩
    have k1 := p1.m.keptW_of p2.st p1.fd
    have r1 : RepA K H2 S2 σ a1 v1 f1 := p1.r.keptW k1
    obtain ⟨f1', r1'⟩ := RepO.repA p2.m r1 hx
    have st : Step H S F H2 S2 F2 := ((p1.st.weak fun a x => .inl x).trans p2.st p1.m.dj).weak fun a x => .inl x
    refine ⟨S2, x, b1, z, f1', f2, r1', p2.r, hz, z, rfl, ?_⟩
    cases z with
    | false =>
      rw [if_neg (by simp)]
      cases hr
      exact k _ H2 S2 F2 Emp (((New.bl _).post p2.m).after st p2.m.dj)
    | true =>
      rw [if_pos rfl]
      simp only at hr
      obtain ⟨⟨c1, e3⟩, h3, hr⟩ := R.bind_eq_ok hr
      simp only at hr
      cases hw : getA e3 c1 with
      | none => rw [hw] at hr; cases hr
      | some w =>
        rw [hw] at hr
        obtain ⟨z2, hz2, hr⟩ := R.bind_eq_ok hr
        have hz2 := R.of_eq_ok hz2
        cases hr
        refine ⟨e2, S2, F2, c1, _, p2.m, h3, fun v3 H3 S3 F3 f3 p3 => ?_⟩
        have k2 := p2.m.keptW_of p3.st p2.fd
        have r2 := RepO.keptW k2 p2.r
        obtain ⟨f3', r3'⟩ := RepO.repA p3.m p3.r hw
        have st3 : Step H S F H3 S3 F3 := (st.trans p3.st p2.m.dj).weak fun a x => .inl x
        exact ⟨S3, b1, w, z2, f2, f3', r2, r3', hz2, k _ H3 S3 F3 Emp (((New.bl _).post p3.m).after st3 p3.m.dj)⟩
theorem sndIF {k : Nat} {it : CI} {C : SC} {X : Cx} {tg e : Expr} (ct : Ct C k X) (h : chkIF it C tg e = true) : ∃ j, PI X tg e (iF X.K j it) ∧ ∀ env xs env', evI it env = .ok (xs, env') → ∃ kvs, frzD env j = some kvs := by
  have fz : ∀ {α : Type} {env : EL.Env} {j : Nat} {g : List (List L2.Key × PV) → EL.R α} {r : α}, (R.of (frzD env j)).bind g = .ok r → ∃ kvs, frzD env j = some kvs := fun {α env j g r} he => by
    obtain ⟨kvs, h2, _⟩ := R.bind_eq_ok he
    exact ⟨kvs, R.of_eq_ok h2⟩
  unfold chkIF at h
  split at h
  · rename_i j
    exact ⟨j, (pi_keys (nm_ok ct h)).imp fun σ H Q q => rd_keysF q, fun env xs env' he => by unfold evI at he; exact fz he⟩
  · rename_i j
    rw [Bool.and_eq_true] at h
    obtain ⟨ht, h⟩ := h
    split at h
    · rename_i o n ap cp
      simp only [Bool.and_eq_true, decide_eq_true_eq] at h
      obtain ⟨⟨rfl, h1⟩, h2⟩ := h
      cases tg with
      | Tuple elts kk tpos =>
        have hb : attributeBase o "items" X.env (eval o X.env) = eval o X.env := by
          cases o <;> first | rfl | cases h2
        exact ⟨j, (pi_itemsK (nm_ok ct h2) hb h1).imp fun σ H Q q => rd_itemsF q, fun env xs env' he => by unfold evI at he; exact fz he⟩
      | _ => cases ht
    · cases h
  · cases h
section
variable {C : SC} {k : Nat} {X : Cx}
theorem takes0F {X : Cx} : Takes X (fun _ _ _ _ => False) := fun _ _ x => by
  obtain ⟨_, _, _, _, _, _, _, _, _, _, _, _, _, _, _, _, z⟩ := x
  exact z.elim
theorem last_nS {o p : CmpOp} {r s : Expr} (h : nS s = true) : lastMarks [o, p] [r, s] = false := by
  show behindInMarks p s = false
  exact behind_nS h
mutual
theorem sndE : ∀ (c : CE) {C : SC} {X : Cx} {e : Expr}, Ct C k X → chkE c C e = true → Lks X k (usE c) → Snd X c e
  | .var i, C, X, e, ct, h, us => by
    unfold chkE at h
    have hv := nm_ok ct h
    have hp := pl_nm h
    exact ⟨rdE_var hv, rdA_var hv, fun _ => pt_pl (rdE_var hv) hp, fun z => (by rw [pl_bo hp] at z; cases z), fun z => (by rw [pl_lc hp] at z; cases z)⟩
  | .mv i, C, X, e, ct, h, us => by
    unfold chkE at h
    exact .ofPl (fun _ z => by cases z) (pl_nm h) (rdE_mv (nm_ok ct h))
  | .lit v, C, X, e, ct, h, us => by
    unfold chkE at h
    obtain ⟨u, h1, h2, h3, h4⟩ := lit_ok (X := X) h
    exact .ofPl (fun _ z => by cases z) h2 (rdE_const (fun env => by unfold ev; rfl) h3 h4 h1)
  | .glb x v, C, X, e, ct, h, us => by
    unfold chkE at h
    split at h
    · rename_i y pos
      simp only [Bool.and_eq_true, decide_eq_true_eq, Bool.not_eq_true'] at h
      obtain ⟨⟨rfl, h2⟩, h3⟩ := h
      obtain ⟨hg, hd⟩ := gl_of ct h2
      unfold usE at us
      obtain ⟨⟨u, vv, hm, hr, hf⟩, _⟩ := us
      exact .ofPl (fun _ z => by cases z) rfl (rdE_const (fun env => by unfold ev; rfl) hf h3 (pe_glob hg hm hr hd))
    · cases h
  | .bin op a b, C, X, e, ct, h, us => by
    unfold chkE at h
    split at h
    · simp only [Bool.and_eq_true, decide_eq_true_eq] at h
      obtain ⟨⟨rfl, h1⟩, h2⟩ := h
      unfold usE at us
      obtain ⟨u1, u2⟩ := AllU.app us
      exact .ofNo (fun _ z => by cases z) rfl rfl ((pe_op bin_ok (sndE a ct h1 u1).pa (sndE b ct h2 u2).pa).imp fun σ H Q q => rd_bin q)
    · cases h
  | .neg a, C, X, e, ct, h, us => by
    unfold chkE at h
    split at h
    · unfold usE at us
      exact .ofNo (fun _ z => by cases z) rfl rfl ((pe_un un_neg (sndE a ct h us).pe).imp fun σ H Q q => rd_neg q)
    · cases h
  | .cmp op a b, C, X, e, ct, h, us => by
    unfold chkE at h
    split at h
    · simp only [Bool.and_eq_true, decide_eq_true_eq] at h
      obtain ⟨⟨⟨rfl, h0⟩, h1⟩, h2⟩ := h
      unfold usE at us
      obtain ⟨u1, u2⟩ := AllU.app us
      exact .ofTs (fun _ z => by cases z) ((pe_cmpR (cmp_ok ct.un) (sndE a ct h1 u1).pa (sndE b ct h2 u2).pa (behind_nS h0)).imp fun σ H Q q => rd_cmp q)
        ((pt_cmpR (cmp_ok ct.un) (sndE a ct h1 u1).pa (sndE b ct h2 u2).pa (behind_nS h0)).imp fun σ H Q q => rdT_cmp q) rfl rfl
    · cases h
  | .chn o1 o2 a b c, C, X, e, ct, h, us => by
    unfold chkE at h
    split at h
    · simp only [Bool.and_eq_true, decide_eq_true_eq] at h
      obtain ⟨⟨⟨⟨⟨rfl, rfl⟩, h0⟩, h1⟩, h2⟩, h3⟩ := h
      unfold usE at us
      obtain ⟨u1, us⟩ := AllU.app us
      obtain ⟨u2, u3⟩ := AllU.app us
      exact .ofTs (fun _ z => by cases z) ((pe_chain (cmp_ok ct.un) (cmp_ok ct.un) (sndE a ct h1 u1).pa (sndE b ct h2 u2).pe (sndE c ct h3 u3).pa (last_nS h0)).imp fun σ H Q q => rd_chn q)
        ((pt_chain (cmp_ok ct.un) (cmp_ok ct.un) (sndE a ct h1 u1).pa (sndE b ct h2 u2).pe (sndE c ct h3 u3).pa (last_nS h0)).imp fun σ H Q q => rdT_chn rd_chn q) rfl rfl
    · cases h
  | .and a b, C, X, e, ct, h, us => by
    unfold chkE at h
    split at h
    · rename_i x y r p
      simp only [Bool.and_eq_true] at h
      obtain ⟨⟨h1, h2⟩, h3⟩ := h
      unfold usE at us
      obtain ⟨u1, u2⟩ := AllU.app us
      have sa := sndE a ct h1 u1
      cases r with
      | nil =>
        simp only [Bool.and_eq_true] at h3
        have sb := sndE b ct h3.1 u2
        exact .ofBo (fun _ z => by cases z) ((pe_and sa.pe (pe_one sb.pe)).imp fun σ H Q q => rd_and q) ((pw_and (sa.pt h2) (pw_and1 (sb.pt h3.2))).imp fun σ H Q q => rdT_and q) rfl
      | cons z r =>
        have sb := sndE b ct h3 u2
        exact .ofBo (fun _ z => by cases z) ((pe_and sa.pe sb.pe).imp fun σ H Q q => rd_and q) ((pw_and (sa.pt h2) (sb.pw rfl)).imp fun σ H Q q => rdT_and q) rfl
    · cases h
  | .or a b, C, X, e, ct, h, us => by
    unfold chkE at h
    split at h
    · rename_i x y r p
      simp only [Bool.and_eq_true] at h
      obtain ⟨⟨h1, h2⟩, h3⟩ := h
      unfold usE at us
      obtain ⟨u1, u2⟩ := AllU.app us
      have sa := sndE a ct h1 u1
      cases r with
      | nil =>
        simp only [Bool.and_eq_true] at h3
        have sb := sndE b ct h3.1 u2
        exact .ofBo (fun _ z => by cases z) ((pe_or sa.pe (pe_one sb.pe)).imp fun σ H Q q => rd_or q) ((pw_or (sa.pt h2) (pw_or1 (sb.pt h3.2))).imp fun σ H Q q => rdT_or q) rfl
      | cons z r =>
        have sb := sndE b ct h3 u2
        exact .ofBo (fun _ z => by cases z) ((pe_or sa.pe sb.pe).imp fun σ H Q q => rd_or q) ((pw_or (sa.pt h2) (sb.pw rfl)).imp fun σ H Q q => rdT_or q) rfl
    · cases h
  | .not a, C, X, e, ct, h, us => by
    unfold chkE at h
    split at h
    · simp only [Bool.and_eq_true] at h
      unfold usE at us
      have sa := sndE a ct h.1 us
      exact .ofTs (fun _ z => by cases z) ((pe_not sa.pe).imp fun σ H Q q => rd_not q) ((pt_not (sa.pt h.2)).imp fun σ H Q q => rdT_not q) rfl rfl
    · cases h
  | .ite c a b, C, X, e, ct, h, us => by
    unfold chkE at h
    split at h
    · simp only [Bool.and_eq_true] at h
      obtain ⟨⟨⟨h1, h2⟩, h3⟩, h4⟩ := h
      unfold usE at us
      obtain ⟨u1, us⟩ := AllU.app us
      obtain ⟨u2, u3⟩ := AllU.app us
      exact .ofNo (fun _ z => by cases z) rfl rfl ((pe_ifExp ((sndE c ct h1 u1).pt h2) (sndE a ct h3 u2).pe (sndE b ct h4 u3).pe).imp fun σ H Q q => rd_ite q)
    · cases h
  | .tup es, C, X, e, ct, h, us => by
    unfold chkE at h
    split at h
    · simp only [Bool.and_eq_true] at h
      unfold usE at us
      exact .ofNo (fun _ z => by cases z) rfl rfl ((pe_tup (sndEs es ct h.1 h.2 us)).imp fun σ H Q q => rd_tup q)
    · cases h
  | .lst _ es, C, X, e, ct, h, us => by
    unfold chkE at h
    split at h
    · simp only [Bool.and_eq_true] at h
      unfold usE at us
      exact .ofNo (fun _ z => by cases z) rfl rfl ((pe_lst (sndEs es ct h.1 h.2 us)).imp fun σ H Q q => rd_lst q)
    · cases h
  | .dic d ps, C, X, e, ct, h, us => by
    unfold chkE at h
    split at h
    · split at h
      · cases d with
        | k => exact .ofNo (fun _ z => by cases z) rfl rfl (pe_dnewK.imp fun σ H Q q => rd_dnK q)
        | t => exact .ofNo (fun _ z => by cases z) rfl rfl (pe_dnewT.imp fun σ H Q q => rd_dnT q)
      · cases h
    · cases h
  | .dic1 k v, C, X, e, ct, h, us => by
    unfold chkE at h
    split at h
    · simp only [Bool.and_eq_true] at h
      unfold usE at us
      obtain ⟨u1, u2⟩ := AllU.app us
      exact .ofNo (fun _ z => by cases z) rfl rfl ((pe_disp1 (by have := ct.un; omega) (sndE k ct h.1 u1).pe (sndE v ct h.2 u2).pe).imp fun σ H Q q => rd_dic1 q)
    · cases h
  | .idx a i, C, X, e, ct, h, us => by
    unfold chkE at h
    split at h
    · simp only [Bool.and_eq_true] at h
      obtain ⟨⟨h1, h2⟩, h3⟩ := h
      unfold usE at us
      obtain ⟨u1, u2⟩ := AllU.app us
      exact .ofPl (fun _ z => by cases z) rfl ((pe_ix (ix_any ct.un) (sndE a ct h2 u1).pa (sndE i ct h3 u2).pe (plainIx h1)).imp fun σ H Q q => rd_idx q)
    · cases h
  | .idx2 j a b, C, X, e, ct, h, us => by
    unfold chkE at h
    split at h
    · simp only [Bool.and_eq_true] at h
      obtain ⟨⟨⟨⟨h1, h2⟩, h3⟩, h4⟩, h5⟩ := h
      exact .ofPl (fun _ z => by cases z) rfl ((pe_ix ix_list (pe_ix ix_list (nm_ok ct h1) (chkK_ok ct h2) (plainIx h3)) (chkK_ok ct h4) (plainIx h5)).imp fun σ H Q q => rd_idx2 q)
    · cases h
  | .slc a lo hi, C, X, e, ct, h, us => by
    unfold chkE at h
    split at h
    · simp only [Bool.and_eq_true] at h
      obtain ⟨⟨h1, h2⟩, h3⟩ := h
      unfold usE at us
      obtain ⟨u1, us⟩ := AllU.app us
      obtain ⟨u2, u3⟩ := AllU.app us
      exact .ofPl (fun _ z => by cases z) rfl ((pe_slice sl_any (sndE a ct h1 u1).pa (sndO lo ct h2 u2) (sndO hi ct h3 u3)).imp fun σ H Q q => rd_slc q)
    · cases h
  | .rev a, C, X, e, ct, h, us => by
    unfold chkE at h
    split at h
    · simp only [Bool.and_eq_true, decide_eq_true_eq] at h
      obtain ⟨rfl, h1⟩ := h
      unfold usE at us
      exact .ofPl (fun _ z => by cases z) rfl ((pe_revL (sndE a ct h1 us).pa).imp fun σ H Q q => rd_rev q)
    · cases h
  | .call f cf es, C, X, e, ct, h, us => by
    unfold chkE at h
    split at h
    · rename_i x p xs pos
      simp only [Bool.and_eq_true, decide_eq_true_eq] at h
      obtain ⟨⟨⟨rfl, h1⟩, h2⟩, h3⟩ := h
      unfold usE at us
      obtain ⟨⟨fa, fd, ps, hf, hm, hk, hb⟩, us⟩ := us
      obtain ⟨hg, hd⟩ := gl_of ct h1
      refine .ofPl (fun _ z => by cases z) rfl ?_
      cases xs with
      | nil =>
        cases es with
        | nil =>
          refine (pe_call0 (E := fun _ _ _ => False) hf ct.room hg hm hk hb .nil pass0 hd).imp fun σ H Q q => ?_
          have q := rd_call (E := fun _ _ _ => False) q
          exact rd_as_nil q
        | cons c r => unfold chkAs at h3; cases h3
      | cons e1 xs =>
        have h2' := h2
        unfold nSs at h2'
        rw [Bool.and_eq_true] at h2'
        exact (pe_call hf ct.room hg hm hk hb .nil pass0 (sndAs es ct h3 h2 us) hd (star_cons h2'.1) (star_any h2'.2)).imp fun σ H Q q => rd_call (E := fun _ _ _ => False) q
    · cases h
  | .prm f p es, C, X, e, ct, h, us => by
    unfold chkE at h
    split at h
    · rename_i x p0 xs pos
      simp only [Bool.and_eq_true, decide_eq_true_eq] at h
      obtain ⟨⟨⟨rfl, h1⟩, h2⟩, h3⟩ := h
      unfold usE at us
      obtain ⟨⟨fa, fd, ps, hf, hm, hk, hb⟩, us⟩ := us
      obtain ⟨hg, hd⟩ := gl_of ct h1
      refine .ofPl (fun _ z => by cases z) rfl ?_
      cases xs with
      | nil =>
        cases es with
        | nil =>
          refine (pe_call0 (E := fun _ _ _ => False) hf ct.room hg hm hk hb .nil pass0 hd).imp fun σ H Q q => ?_
          have q := rd_prm (E := fun _ _ _ => False) q
          exact rd_as_nil q
        | cons c r => unfold chkAs at h3; cases h3
      | cons e1 xs =>
        have h2' := h2
        unfold nSs at h2'
        rw [Bool.and_eq_true] at h2'
        exact (pe_call hf ct.room hg hm hk hb .nil pass0 (sndAs es ct h3 h2 us) hd (star_cons h2'.1) (star_any h2'.2)).imp fun σ H Q q => rd_prm (E := fun _ _ _ => False) q
    · cases h
  | .blt b es, C, X, e, ct, h, us => by
    unfold chkE at h
    split at h
    · rename_i x p0 xs pos
      split at h
      · rename_i t
        simp only [Bool.and_eq_true, decide_eq_true_eq] at h
        obtain ⟨⟨⟨⟨ht, rfl⟩, h1⟩, hB⟩, h2⟩ := h
        split at h2
        · rename_i a y py
          simp only [Bool.and_eq_true, decide_eq_true_eq] at h2
          obtain ⟨⟨⟨⟨rfl, h3⟩, hB2⟩, h4⟩, h5⟩ := h2
          split at h5
          · rename_i c
            unfold usE usEs usEs at us
            obtain ⟨us, _⟩ := AllU.app us
            have ht : t ∈ isTs := by simpa using ht
            obtain ⟨hg, hd⟩ := gl_of ct h1
            obtain ⟨hg2, hd2⟩ := gl_of ct h3
            have bt : bootBuiltins (Str.ofString t) = some (.type t) ∧ Str.ofString t ≠ ("__name__" : Str) := by
              have ht := ht
              unfold isTs at ht
              simp only [List.mem_cons, List.mem_nil_iff, or_false] at ht
              rcases ht with rfl | rfl | rfl | rfl | rfl | rfl <;> exact ⟨by decide +kernel, by decide⟩
            refine .ofPl (fun _ z => by cases z) rfl ?_
            have pt : PE X (.Name (Str.ofString t) py) (tC (.ty t)) := pe_bltn hg2 (bl_of ct hB2) bt.1 rfl bt.2 hd2
            exact (pe_callB call_isi hg (bl_of ct hB) PyProof.Rows.boot_isinstance (pa_cons (sndE c ct h5 us).pa (pa_cons pt pa_nil rfl) (star_cons h4)) (by decide) hd (star_cons h4) rfl).imp fun σ H Q q => rd_isi ht q
          · cases h5
        · cases h2
      · rename_i b hb
        simp only [Bool.and_eq_true, decide_eq_true_eq] at h
        obtain ⟨⟨⟨⟨⟨⟨h0, rfl⟩, h1⟩, hB⟩, hne⟩, h2⟩, h3⟩ := h
        unfold usE at us
        obtain ⟨hg, hd⟩ := gl_of ct h1
        refine .ofPl (fun _ z => by cases z) rfl ?_
        cases xs with
        | nil => cases hne
        | cons e1 xs =>
          have h2' := h2
          unfold nSs at h2'
          rw [Bool.and_eq_true] at h2'
          rcases blt_ok ct h0 with ⟨hc, hv⟩ | ⟨hc, hv⟩
          · exact (pe_callB hc hg (bl_of ct hB) hv (sndAs es ct h3 h2 us) bltN_ne hd (star_cons h2'.1) (star_any h2'.2)).imp fun σ H Q q => rd_blt q
          · exact (pe_callTy hc hg (bl_of ct hB) hv (sndAs es ct h3 h2 us) bltN_ne hd (star_cons h2'.1) (star_any h2'.2)).imp fun σ H Q q => rd_blt q
    · cases h
  | .rpl _ _ _, C, X, e, ct, h, us => by unfold chkE at h; cases h
  | .brw j c, C, X, e, ct, h, us => by
    unfold chkE at h
    rw [Bool.and_eq_true] at h
    unfold usE at us
    exact .ofPl (fun _ z => by cases z) h.1 ((sndE c ct h.2 us).pe.imp fun σ H Q q => rd_brw q)
  | .ixl i c, C, X, e, ct, h, us => by
    unfold chkE at h
    split at h
    · rename_i q n ap a cp
      simp only [Bool.and_eq_true, decide_eq_true_eq] at h
      obtain ⟨⟨⟨⟨rfl, h1⟩, h2⟩, h3⟩, h4⟩ := h
      unfold usE at us
      have hb : attributeBase q "index" X.env (eval q X.env) = eval q X.env := by
        cases q <;> first | rfl | cases h2
      exact .ofPl (fun _ z => by cases z) rfl ((pe_bm (r := rIndexD X.K) PySem.F.plainAttrs_list PySem.F.slot_list_index PySem.F.type_list_index (mt_indexD (by have := ct.un; omega)) (nm_ok ct h2) (pa_cons (sndE c ct h4 us).pe pa_nil (star_cons h3)) hb (by rw [star_cons h3]; rfl) h1 (star_cons h3) rfl).imp fun σ H Q q => rd_ixl q)
    · cases h
  | .get i k d, C, X, e, ct, h, us => by
    unfold chkE at h
    unfold usE at us
    split at h
    · rename_i q n ap a cp
      simp only [Bool.and_eq_true, decide_eq_true_eq] at h
      obtain ⟨⟨⟨⟨⟨rfl, h1⟩, h2⟩, h3⟩, h4⟩, h5⟩ := h
      have hb : attributeBase q "get" X.env (eval q X.env) = eval q X.env := by
        cases q <;> first | rfl | cases h2
      cases d with
      | some v => cases h5
      | none =>
        exact .ofPl (fun _ z => by cases z) rfl ((pe_dget1 (by have := ct.un; omega) (nm_ok ct h2) (sndE k ct h4 us).pe ⟨hb, by rw [star_cons h3]; rfl, h1, by rw [star_cons h3]; rfl⟩).imp fun σ H Q q => rd_get1 q)
    · rename_i q n ap a b cp
      simp only [Bool.and_eq_true, decide_eq_true_eq] at h
      obtain ⟨⟨⟨⟨⟨⟨rfl, h1⟩, h2⟩, h3⟩, h3b⟩, h4⟩, h5⟩ := h
      have hb : attributeBase q "get" X.env (eval q X.env) = eval q X.env := by
        cases q <;> first | rfl | cases h2
      cases d with
      | none => cases h5
      | some v =>
        obtain ⟨u, l1, l2, l3, l4⟩ := lit_ok (X := X) h5
        exact .ofPl (fun _ z => by cases z) rfl ((pe_dget2 (by have := ct.un; omega) (nm_ok ct h2) (sndE k ct h4 us).pe l1 ⟨hb, by rw [star_cons h3, star_cons h3b]; rfl, h1, by rw [star_cons h3, star_cons h3b]; rfl⟩).imp fun σ H Q q => rd_get2 l3 q)
    · cases h
  | .sidx o c, C, X, e, ct, h, us => by
    unfold chkE at h
    unfold usE at us
    obtain ⟨u1, u2⟩ := AllU.app us
    split at h
    · rename_i q n ap a cp
      simp only [Bool.and_eq_true, decide_eq_true_eq] at h
      obtain ⟨⟨⟨⟨⟨rfl, h1⟩, h2⟩, h3⟩, h4⟩, h5⟩ := h
      exact .ofPl (fun _ z => by cases z) rfl ((pe_bmS PySem.F.plainAttrs_str PySem.F.slot_str_index PySem.F.type_str_index (mt_indexX ct.calm takes0F) (sndE o ct h3 u1).pa (pa_cons (sndE c ct h5 u2).pe pa_nil (star_cons h4)) (bsN_base h2) (by rw [star_cons h4]; rfl) h1 (star_cons h4) rfl).imp fun σ H Q q => rd_sidx q)
    · cases h
  | .mth m o es, C, X, e, ct, h, us => by
    unfold chkE at h
    split at h
    · rename_i q n ap a cp
      split at h
      · rename_i z c
        simp only [Bool.and_eq_true, decide_eq_true_eq] at h
        obtain ⟨⟨⟨⟨rfl, h1⟩, h2⟩, h3⟩, h4⟩ := h
        unfold usE usEs usEs at us
        obtain ⟨us, _⟩ := AllU.app us
        obtain ⟨u, l1, l2, l3, l4⟩ := lit_ok (X := X) h2
        have pq : PE X q (rdA X.K (.lit (.str z))) := rdA_of (fun _ z => by cases z) (rdE_const (fun env => by unfold ev; rfl) l3 l4 l1)
        have hb : attributeBase q "join" X.env (eval q X.env) = eval q X.env := by
          cases q <;> first | rfl | cases h2
        refine .ofPl (fun _ z => by cases z) rfl ((pe_join pq (sndE c ct h4 us).pa (star_cons h3) hb h1).imp fun σ H Q q => rd_join (z0 := z) (fun env => by unfold asA ev; rfl) q)
      · cases h
    · cases h
  | .lc dp vs t it c e1, C, X, e, ct, h, us => by
    unfold chkE at h
    split at h
    · rename_i elt tg iter ifs n scope pos
      simp only [Bool.and_eq_true, decide_eq_true_eq] at h
      obtain ⟨⟨⟨⟨⟨⟨rfl, hv⟩, hb⟩, h1⟩, h2⟩, h4⟩, h3⟩ := h
      unfold usE at us
      obtain ⟨u1, us⟩ := AllU.app us
      obtain ⟨u2, u3⟩ := AllU.app us
      have ok : BlkOk X.N X.env.scope scope (ownOf C.N vs) := by rw [ct.hN, ct.sc]; exact blkOk_by hb
      have hg : ∀ (s : Shared) (H : Hp) (D : Addr) (cl : List (Str × Addr)) (fp : List Addr), PG (X.blk s H scope (compEnvC scope cl D X.env) fp) tg (gT X.K t) := fun s H D cl fp => (chkT_ok (ct.blk hb s H D cl fp) h1).1
      have hc : ∀ (s : Shared) (H : Hp) (D : Addr) (cl : List (Str × Addr)) (fp : List Addr), PTs (X.blk s H scope (compEnvC scope cl D X.env) fp) ifs (rdC X.K c) := fun s H D cl fp => sndC c (ct.blk hb s H D cl fp) h4 u2
      cases hR : isR e1 with
      | true =>
        rw [hR, if_pos rfl, Bool.and_eq_true] at h3
        have hi := sndIR ct h3.1 (tg := tg)
        have he : ∀ (s : Shared) (H : Hp) (D : Addr) (cl : List (Str × Addr)) (fp : List Addr), PET (X.blk s H scope (compEnvC scope cl D X.env) fp) elt (rdE X.K e1) := fun s H D cl fp => sndR e1 (ct.blk hb s H D cl fp) h3.2
        have p := (pe_lcK ct.calm ct.nd' hi ok hg hc he (folded_nS h2) (po := pos)).imp (t' := rdE X.K (.lc dp vs t it c e1)) fun σ H Q q => by
          rw [hv]
          exact rd_lc q
        refine ⟨p, rdA_of (fun _ z => by cases z) p, fun z => (by cases z), fun z => (by cases z), fun _ i y py spos hy hyl hsw => ?_⟩
        refine (ps_setLcK ct.calm ct.nd' hy hyl hsw hi ok hg hc he (folded_nS h2)).imp fun D σ H q => ?_
        rw [hv]
        exact rd_lc q
      | false =>
      rw [hR, if_neg Bool.false_ne_true, Bool.and_eq_true] at h3
      obtain ⟨h3, h5⟩ := h3
      have he : ∀ (s : Shared) (H : Hp) (D : Addr) (cl : List (Str × Addr)) (fp : List Addr), PE (X.blk s H scope (compEnvC scope cl D X.env) fp) elt (rdE X.K e1) := fun s H D cl fp => (sndE e1 (ct.blk hb s H D cl fp) h5 u3).pe
      rw [Bool.or_eq_true] at h3
      rcases h3 with h3 | h3
      rotate_left
      · obtain ⟨j, hi, hj⟩ := sndIF ct h3
        have lk : ∀ {σ : L2.St} {H : Hp} {Q : VK}, IsLk j σ H → rdE X.K (.lc dp vs t it c e1) σ H Q → tLc (iF X.K j it) (gT X.K t) (rdC X.K c) (rdE X.K e1) ((ownOf C.N vs).map (·.2)) σ H Q := fun {σ H Q} hl q => by
          rw [hv]
          exact ⟨hl, rd_lc q⟩
        have hc2 : ∀ env p env', ev (.lc dp vs t it c e1) env = .ok (p, env') → ∃ kvs, frzD env j = some kvs := fun env p env' he2 => by
          unfold ev at he2
          obtain ⟨q, h1, _⟩ := R.bind_eq_ok he2
          exact hj env q.1 q.2 h1
        have p := (pe_lkor (pe_lc ct.calm ct.nd' hi ok hg hc he (folded_nS h2) (pos := pos))).imp (t' := rdE X.K (.lc dp vs t it c e1)) fun σ H Q q => lockE_or q hc2 fun σ H Q hl q => lk hl q
        refine ⟨p, rdA_of (fun _ z => by cases z) p, fun z => (by cases z), fun z => (by cases z), fun _ i y py spos hy hyl hsw => ?_⟩
        refine (ps_lkor (ps_setLc ct.calm ct.nd' hy hyl hsw hi ok hg hc he (folded_nS h2))).imp fun D σ H q => ?_
        rcases lockE_or (t := fun σ H Q => IsLk j σ H ∧ rdE X.K (.lc dp vs t it c e1) σ H Q) q hc2 (fun σ H Q hl q => ⟨hl, q⟩) with ⟨a, u, h1, h2, h3⟩ | ⟨hl, q⟩
        · exact .inl ⟨a, u, h1, h2, fun od => lk (h3 od).1 (h3 od).2⟩
        · exact .inr (lk hl q)
      have hi := sndI it ct h3 u1 (tg := tg)
      have p := (pe_lc ct.calm ct.nd' hi ok hg hc he (folded_nS h2) (pos := pos)).imp (t' := rdE X.K (.lc dp vs t it c e1)) fun σ H Q q => by
        rw [hv]
        exact rd_lc q
      refine ⟨p, rdA_of (fun _ z => by cases z) p, fun z => (by cases z), fun z => (by cases z), fun _ i y py spos hy hyl hsw => ?_⟩
      refine (ps_setLc ct.calm ct.nd' hy hyl hsw hi ok hg hc he (folded_nS h2)).imp fun D σ H q => ?_
      rw [hv]
      exact rd_lc q
    · cases h
  | .lc2 vs vs1 t it c t1 it1 c1 e1, C, X, e, ct, h, us => by
    unfold chkE at h
    split at h
    · rename_i elt tg iter ifs n tg1 iter1 ifs1 n1 scope pos
      simp only [Bool.and_eq_true, decide_eq_true_eq] at h
      obtain ⟨⟨⟨⟨⟨⟨⟨⟨⟨⟨⟨⟨⟨rfl, rfl⟩, hv⟩, hv1⟩, hb⟩, h1⟩, h2⟩, h3⟩, h4⟩, h5⟩, h6⟩, h7⟩, h8⟩, h9⟩ := h
      unfold usE at us
      obtain ⟨u1, us⟩ := AllU.app us
      obtain ⟨u2, us⟩ := AllU.app us
      obtain ⟨u3, us⟩ := AllU.app us
      obtain ⟨u4, u5⟩ := AllU.app us
      have ok : BlkOk X.N X.env.scope scope (ownOf C.N vs) := by rw [ct.hN, ct.sc]; exact blkOk_by hb
      have hs1 : ∀ i ∈ vs1, i ∈ (ownOf C.N vs).map (·.2) := fun i hi => by
        rw [hv]
        have := List.all_eq_true.mp hv1 i hi
        simpa using this
      have hi := sndI it ct h3 u1 (tg := tg)
      have hg : ∀ (s : Shared) (H : Hp) (D : Addr) (cl : List (Str × Addr)) (fp : List Addr), PG (X.blk s H scope (compEnvC scope cl D X.env) fp) tg (gT X.K t) := fun s H D cl fp => (chkT_ok (ct.blk hb s H D cl fp) h1).1
      have hc : ∀ (s : Shared) (H : Hp) (D : Addr) (cl : List (Str × Addr)) (fp : List Addr), PTs (X.blk s H scope (compEnvC scope cl D X.env) fp) ifs (rdC X.K c) := fun s H D cl fp => sndC c (ct.blk hb s H D cl fp) h4 u2
      have hi1 : ∀ (s : Shared) (H : Hp) (D : Addr) (cl : List (Str × Addr)) (fp : List Addr), PI (X.blk s H scope (compEnvC scope cl D X.env) fp) tg1 iter1 (rdI X.K it1) := fun s H D cl fp => sndI it1 (ct.blk hb s H D cl fp) h7 u3
      have hg1 : ∀ (s : Shared) (H : Hp) (D : Addr) (cl : List (Str × Addr)) (fp : List Addr), PG (X.blk s H scope (compEnvC scope cl D X.env) fp) tg1 (gT X.K t1) := fun s H D cl fp => (chkT_ok (ct.blk hb s H D cl fp) h5).1
      have hc1 : ∀ (s : Shared) (H : Hp) (D : Addr) (cl : List (Str × Addr)) (fp : List Addr), PTs (X.blk s H scope (compEnvC scope cl D X.env) fp) ifs1 (rdC X.K c1) := fun s H D cl fp => sndC c1 (ct.blk hb s H D cl fp) h8 u4
      have he : ∀ (s : Shared) (H : Hp) (D : Addr) (cl : List (Str × Addr)) (fp : List Addr), PE (X.blk s H scope (compEnvC scope cl D X.env) fp) elt (rdE X.K e1) := fun s H D cl fp => (sndE e1 (ct.blk hb s H D cl fp) h9 u5).pe
      have p := (pe_lc2 ct.calm ct.nd' hi ok hs1 hg hc hi1 hg1 hc1 he (folded_nS h2) (fun _ => folded_nS h6) (pos := pos)).imp (t' := rdE X.K (.lc2 vs vs1 t it c t1 it1 c1 e1)) fun σ H Q q => by
        rw [hv]
        exact rd_lc2 q
      refine ⟨p, rdA_of (fun _ z => by cases z) p, fun z => (by cases z), fun z => (by cases z), fun _ i y py spos hy hyl hsw => ?_⟩
      refine (ps_setLc2 ct.calm ct.nd' hy hyl hsw hi ok hs1 hg hc hi1 hg1 hc1 he (folded_nS h2) (fun _ => folded_nS h6)).imp fun D σ H q => ?_
      rw [hv]
      exact rd_lc2 q
    · cases h
theorem sndEs : ∀ (c : CEs) {C : SC} {X : Cx} {es : List Expr}, Ct C k X → chkEs c C es = true → nSs es = true → Lks X k (usEs c) → PA X es (rdEs X.K c)
  | .nil, C, X, es, ct, h, hs, us => by
    unfold chkEs at h
    cases es with
    | nil => exact pa_nil.imp fun σ H Q q => rd_es_nil q
    | cons e es => cases h
  | .cons c r, C, X, es, ct, h, hs, us => by
    unfold chkEs at h
    cases es with
    | nil => cases h
    | cons e es =>
      simp only [Bool.and_eq_true] at h
      unfold nSs at hs
      rw [Bool.and_eq_true] at hs
      unfold usEs at us
      obtain ⟨u1, u2⟩ := AllU.app us
      exact (pa_cons (sndE c ct h.1 u1).pe (sndEs r ct h.2 hs.2 u2) (star_cons hs.1)).imp fun σ H Q q => rd_es_cons q
theorem sndAs : ∀ (c : CEs) {C : SC} {X : Cx} {es : List Expr}, Ct C k X → chkAs c C es = true → nSs es = true → Lks X k (usEs c) → PA X es (rdAs X.K c)
  | .nil, C, X, es, ct, h, hs, us => by
    unfold chkAs at h
    cases es with
    | nil => exact pa_nil.imp fun σ H Q q => rd_as_nil q
    | cons e es => cases h
  | .cons c r, C, X, es, ct, h, hs, us => by
    unfold chkAs at h
    cases es with
    | nil => cases h
    | cons e es =>
      simp only [Bool.and_eq_true] at h
      unfold nSs at hs
      rw [Bool.and_eq_true] at hs
      unfold usEs at us
      obtain ⟨u1, u2⟩ := AllU.app us
      exact (pa_cons (sndE c ct h.1 u1).pa (sndAs r ct h.2 hs.2 u2) (star_cons hs.1)).imp fun σ H Q q => rd_as_cons q
theorem sndO : ∀ (c : CO) {C : SC} {X : Cx} {e : Option Expr}, Ct C k X → chkO c C e = true → Lks X k (usO c) → PO X e (rdO X.K c)
  | .no, C, X, e, ct, h, us => by
    unfold chkO at h
    cases e with
    | none => exact ⟨fun pins s σ H Q I q => po_none.run pins s σ H Q I (rd_no q)⟩
    | some e => cases h
  | .yes c, C, X, e, ct, h, us => by
    unfold chkO at h
    cases e with
    | none => cases h
    | some e =>
      unfold usO at us
      exact ⟨fun pins s σ H Q I q => (po_some (sndE c ct h us).pe).run pins s σ H Q I (rd_yes q)⟩
theorem sndC : ∀ (c : CO) {C : SC} {X : Cx} {es : List Expr}, Ct C k X → chkC c C es = true → Lks X k (usO c) → PTs X es (rdC X.K c)
  | .no, C, X, es, ct, h, us => by
    unfold chkC at h
    cases es with
    | nil => exact ⟨fun pins s σ H Q I q => pts_nil.run pins s σ H Q I (rdC_no q)⟩
    | cons e es => cases h
  | .yes c, C, X, es, ct, h, us => by
    unfold chkC at h
    split at h
    · simp only [Bool.and_eq_true] at h
      unfold usO at us
      exact ⟨fun pins s σ H Q I q => (pts_one ((sndE c ct h.1 us).pt h.2)).run pins s σ H Q I (rdC_yes q)⟩
    · cases h
theorem sndI : ∀ (c : CI) {C : SC} {X : Cx} {e tg : Expr}, Ct C k X → chkI c C tg e = true → Lks X k (usI c) → PI X tg e (rdI X.K c)
  | .rng1 a, C, X, e, tg, ct, h, us => by
    unfold chkI at h
    split at h
    · simp only [Bool.and_eq_true, decide_eq_true_eq] at h
      obtain ⟨⟨⟨⟨rfl, h1⟩, hB⟩, h2⟩, h3⟩ := h
      unfold usI at us
      exact (pi_range1 (gl_of ct h1).1 (bl_of ct hB) (pa_cons (sndE a ct h3 us).pe pa_nil (star_cons h2)) (star_cons h2)).imp fun σ H Q q => rd_rng1 q
    · cases h
  | .rng2 a b, C, X, e, tg, ct, h, us => by
    unfold chkI at h
    split at h
    · simp only [Bool.and_eq_true, decide_eq_true_eq] at h
      obtain ⟨⟨⟨⟨⟨⟨rfl, h1⟩, hB⟩, h2⟩, h3⟩, h4⟩, h5⟩ := h
      unfold usI at us
      obtain ⟨u1, u2⟩ := AllU.app us
      exact (pi_range2 (gl_of ct h1).1 (bl_of ct hB) (pa_cons (sndE a ct h4 u1).pe (pa_cons (sndE b ct h5 u2).pe pa_nil (star_cons h3)) (star_cons h2)) (by rw [star_cons h2, star_cons h3]; rfl) (star_cons h3)).imp fun σ H Q q => rd_rng2 q
    · cases h
  | .val c, C, X, e, tg, ct, h, us => by
    unfold chkI at h
    unfold usI at us
    exact (pi_any (sndE c ct h us).pe).imp fun σ H Q q => rd_val q
  | .keys c, C, X, e, tg, ct, h, us => by
    unfold chkI at h
    unfold usI at us
    exact (pi_keysL (sndE c ct h us).pa).imp fun σ H Q q => rd_keys q
  | .items c, C, X, e, tg, ct, h, us => by
    unfold chkI at h
    rw [Bool.and_eq_true] at h
    obtain ⟨ht, h⟩ := h
    split at h
    · rename_i o n ap cp
      simp only [Bool.and_eq_true, decide_eq_true_eq] at h
      obtain ⟨⟨⟨rfl, h1⟩, h2⟩, h3⟩ := h
      unfold usI at us
      cases tg with
      | Tuple elts kk tpos =>
        have hb : attributeBase o "items" X.env (eval o X.env) = eval o X.env := by
          cases o with
          | Name _ _ => rfl
          | Call f as ks p => cases as with
            | nil => cases h2
            | cons a as => cases f <;> rfl
          | _ => cases h2
        exact (pi_itemsL (sndE c ct h3 us).pa hb h1).imp fun σ H Q q => rd_items q
      | _ => cases ht
    · cases h
  | .values _, C, X, e, tg, ct, h, us => by unfold chkI at h; cases h
  | .keysF _, C, X, e, tg, ct, h, us => by unfold chkI at h; cases h
  | .itemsF _, C, X, e, tg, ct, h, us => by unfold chkI at h; cases h
end
end
end EL

set_option maxRecDepth 100000
set_option maxHeartbeats 8000000
/-! EL19: statements -/
namespace EL
open PySem PySem.Spec L2
section
variable {k : Nat}
theorem tAsg_imp {te : TE} {g : TG} {D : Ends} {σ : St} {H : Hp} (h : tAsg te g D σ H) : tAsg te g D σ H := h
theorem swaps_tupB {e tg : Expr} {l : Nat} {env : PySem.Env} (h : tupB tg = true) : swapsWith e (some tg) l env = pure false := by
  cases tg <;> first | (cases e <;> rfl) | cases h
theorem stores_B {tg e : Expr} {env : PySem.Env} (h4 : storeB tg e = true) : swappedStores [tg] e env = pure none := by
  unfold storeB at h4
  split at h4
  · exact stores_name
  · rename_i es k p
    rw [Bool.or_eq_true] at h4
    rcases h4 with h4 | h4
    · exact stores_tup h4
    · by_cases hn : nT e = true
      · exact stores_tup hn
      · cases e <;> first | exact stores_len (of_decide_eq_true h4) | exact absurd rfl hn
  · cases h4
theorem swaps_subS {e o i : Expr} {p : Pos} {l : Nat} {env : PySem.Env} : swapsWithSole [.Subscript o i p] e l env = pure false := by
  cases e <;> rfl
theorem ali_ok {c : CS} {C : SC} {X : Cx} {x : Stmt} {xs : List Stmt} (ct : Ct C k X) (h : aliB c C (x :: xs) = true) : ∃ (l g : Nat) (a b : IK) (i : Nat) (x1 y1 : Str) (s2 : Stmt) (xs2 : List Stmt) (t1 t2 : TS), c = .ali l g a b i x1 y1 ∧ xs = s2 :: xs2 ∧ PS X x t1 ∧ PS X s2 t2 ∧ ∀ D σ H, rdST X.K c D σ H → tSeq t1 t2 D σ H := by
  unfold aliB at h
  split at h
  · rename_i l g a b i x1 y1 s1 s2 xs2 e
    cases e
    split at h
    · rename_i ln p q u p2 p3 q2 u2 p4 cc v w p5 p6
      simp only [Bool.and_eq_true, decide_eq_true_eq] at h
      obtain ⟨⟨⟨⟨⟨⟨⟨⟨⟨⟨⟨⟨h1, h2⟩, h3⟩, h4⟩, h5⟩, h6⟩, h7⟩, h8⟩, h9⟩, h10⟩, h11⟩, h12⟩, h13⟩ := h
      obtain ⟨ux, x1e, _, x3, _⟩ := lit_ok (X := X) (v := .str x1) h9
      obtain ⟨uy, y1e, _, y3, _⟩ := lit_ok (X := X) (v := .str y1) h10
      have ex1 : ux = .str x1 := x3 (fun _ => none) (fun _ => False)
      have ey1 : uy = .str y1 := y3 (fun _ => none) (fun _ => False)
      subst ex1; subst ey1
      have pt : PT X cc (tB (tVar i)) := by
        have pl := pl_nm h8
        refine pt_val (nm_ok ct h8) ?_
        intro w
        cases cc <;> first | rfl | cases pl
      refine ⟨l, g, a, b, i, x1, y1, _, xs2, _, _, rfl, rfl, ps_asg (pe_ix ix_list (nm_ok ct h2) (chkK_ok ct h3) (plainIx h4)) (chkN_ok ct h1).1 (by rfl) stores_name (by rfl),
        ps_asg (pe_ifExp pt x1e y1e) (pg_sub (nm_ok ct h5) (chkK_ok ct h6) set_list ?_) swaps_subS stores_sub rfl, fun D σ H q => rd_ali h11 h12 h13 q⟩
      intro v
      cases u2 <;> first | rfl | cases h7
    · cases h
  · cases h
theorem snd_rais {X : Cx} {s : Stmt} : PS X s (rdST X.K .rais) := ⟨fun pins s σ H D I hw => (rd_rais hw).elim⟩
mutual
theorem sndS : ∀ (c : CS) {C : SC} {X : Cx} {s : Stmt}, Ct C k X → chkS c C s = true → Lks X k (usS c) → PS X s (rdST X.K c)
  | .expr c, C, X, s, ct, h, us => by
    unfold chkS at h
    split at h
    · simp only [Bool.and_eq_true] at h
      unfold usS at us
      exact (ps_expr (sndE c ct h.2 us).pe (swaps_nC h.1)).imp fun D σ H q => rd_expr q
    · cases h
  | .asg t c, C, X, s, ct, h, us => by
    unfold chkS at h
    split at h
    · rename_i tg e pos
      simp only [Bool.and_eq_true, Bool.or_eq_true] at h
      obtain ⟨⟨h1, h2⟩, h3⟩ := h
      unfold usS at us
      have se := sndE c ct h1 us
      obtain ⟨g1, g2⟩ := chkT_ok ct h2
      rcases h3 with (⟨h3, h4⟩ | h3) | ⟨h3, h4⟩
      rotate_left 2
      · refine (ps_asg se.pe g1 (swaps_tupB h3) (stores_B h4) g2).imp fun D σ H q => rd_asg q
      · refine (ps_asg se.pe g1 (swaps_nC h3) ?_ g2).imp fun D σ H q => rd_asg q
        unfold storeB at h4
        split at h4
        · exact stores_name
        · rename_i es k p
          rw [Bool.or_eq_true] at h4
          rcases h4 with h4 | h4
          · exact stores_tup h4
          · by_cases hn : nT e = true
            · exact stores_tup hn
            · cases e <;> first | exact stores_len (of_decide_eq_true h4) | exact absurd rfl hn
        · cases h4
      · unfold swB at h3
        split at h3
        · rename_i y py elt gs scope p2
          simp only [Bool.and_eq_true, Bool.not_eq_true'] at h3
          obtain ⟨⟨h3, h4⟩, h5⟩ := h3
          cases t with
          | tup is => unfold chkT at h2; cases h2
          | var i =>
            unfold chkT chkN at h2
            simp only [Bool.and_eq_true, decide_eq_true_eq] at h2
            have hl : X.env.scope.names.lookup y = some .local := by
              rw [ct.sc]
              unfold isLoc at h3
              split at h3
              · assumption
              · cases h3
            exact (se.pl rfl i y py pos (by rw [ct.hN]; exact h2.1) hl (sw_true (by rw [ct.sc]; exact ct.kind) hl h4 h5)).imp fun D σ H q => rd_asg q
        · cases h3
    · cases h
  | .par i j a b, C, X, s, ct, h, us => by
    unfold chkS at h
    split at h
    · rename_i x px y py k1 p1 l r k2 p2 pos
      simp only [Bool.and_eq_true, Bool.not_eq_true', decide_eq_true_eq] at h
      obtain ⟨⟨⟨⟨⟨⟨⟨⟨⟨⟨⟨h1, h2⟩, h3⟩, h4⟩, h5⟩, h6⟩, h7⟩, h8⟩, h9⟩, h10⟩, h11⟩, h12⟩ := h
      unfold usS at us
      obtain ⟨u1, u2⟩ := AllU.app us
      have lc : ∀ {z : Str}, isLoc C z = true → X.env.scope.names.lookup z = some .local := fun {z} hz => by
        rw [ct.sc]
        unfold isLoc at hz
        split at hz
        · assumption
        · cases hz
      have hij : i ≠ j := fun e => by
        subst e
        rw [h1] at h2
        cases h2
        simp at h6
      exact (ps_par ct.calm ct.nd' (by rw [ct.hN]; exact h1) (by rw [ct.hN]; exact h2) hij (lc h3) (lc h4) (pa_cons (sndE a ct h11 u1).pe (pa_cons (sndE b ct h12 u2).pe pa_nil (star_cons h8)) (star_cons h7))
        (stores_two (by rw [ct.sc]; exact ct.kind) (lc h3) (lc h4) h5 h6 h7 h8 h9 h10) (by rfl)).imp fun D σ H q => rd_par q
    · cases h
  | .sti i kx c, C, X, s, ct, h, us => by
    unfold chkS at h
    split at h
    · rename_i o x p e pos
      simp only [Bool.and_eq_true] at h
      obtain ⟨⟨⟨h1, h2⟩, h3⟩, h4⟩ := h
      unfold usS at us
      obtain ⟨u1, u2⟩ := AllU.app us
      refine (ps_asg (sndE c ct h4 u2).pe (pg_sub (nm_ok ct h1) (sndE kx ct h3 u1).pe (set_any ct.un) ?_) swaps_subS stores_sub rfl).imp fun D σ H q => rd_sti q
      intro v
      cases x <;> first | rfl | cases h2
    · cases h
  | .sti2 i a b c, C, X, s, ct, h, us => by
    unfold chkS at h
    split at h
    · rename_i o x p y p2 e pos
      simp only [Bool.and_eq_true] at h
      obtain ⟨⟨⟨⟨⟨h1, h2⟩, h3⟩, h4⟩, h5⟩, h6⟩ := h
      unfold usS at us
      refine (ps_asg (sndE c ct h6 us).pe (pg_sub (pe_ix ix_list (nm_ok ct h1) (chkK_ok ct h2) (plainIx h3)) (chkK_ok ct h4) set_list ?_) swaps_subS stores_sub rfl).imp fun D σ H q => rd_sti2 q
      intro v
      cases y <;> first | rfl | cases h5
    · cases h
  | .app i c, C, X, s, ct, h, us => by
    unfold chkS at h
    split at h
    · rename_i o n ap e cp p
      simp only [Bool.and_eq_true, decide_eq_true_eq] at h
      obtain ⟨⟨⟨⟨rfl, h1⟩, h2⟩, h3⟩, h4⟩ := h
      unfold usS at us
      have hb : attributeBase o "append" X.env (eval o X.env) = eval o X.env := by
        unfold nm at h2
        split at h2
        · rfl
        · cases h2
      have hs : nSs [e] = true := by unfold nSs nSs; rw [h3]; rfl
      refine (ps_expr (pe_bm PySem.F.plainAttrs_list PySem.F.slot_list_append PySem.F.type_list_append mt_append (nm_ok ct h2) (pa_cons (sndE c ct h4 us).pe pa_nil (star_cons h3)) hb ?_ h1 (star_cons h3) rfl) rfl).imp fun D σ H q => rd_app q
      rw [star_all hs]; rfl
    · cases h
  | .ext i c, C, X, s, ct, h, us => by
    unfold chkS at h
    split at h
    · rename_i o n ap e cp p
      simp only [Bool.and_eq_true, decide_eq_true_eq] at h
      obtain ⟨⟨⟨⟨rfl, h1⟩, h2⟩, h3⟩, h4⟩ := h
      unfold usS at us
      have hb : attributeBase o "extend" X.env (eval o X.env) = eval o X.env := by
        unfold nm at h2
        split at h2
        · rfl
        · cases h2
      have hs : nSs [e] = true := by unfold nSs nSs; rw [h3]; rfl
      refine (ps_expr (pe_bm PySem.F.plainAttrs_list PySem.F.slot_list_extend PySem.F.type_list_extend mt_extend (nm_ok ct h2) (pa_cons (sndE c ct h4 us).pe pa_nil (star_cons h3)) hb ?_ h1 (star_cons h3) rfl) rfl).imp fun D σ H q => rd_ext q
      rw [star_all hs]; rfl
    · cases h
  | .del _ _, C, X, s, ct, h, us => by unfold chkS at h; cases h
  | .ret c, C, X, s, ct, h, us => by
    unfold chkS at h
    split at h
    · rename_i e pos
      cases c with
      | no =>
        unfold chkO at h
        cases e with
        | none => exact ps_retN.imp fun D σ H q => rd_retN q
        | some e => cases h
      | yes c =>
        unfold chkO at h
        cases e with
        | none => cases h
        | some e =>
          unfold usS usO at us
          exact (ps_ret (sndE c ct h us).pe).imp fun D σ H q => rd_ret q
    · cases h
  | .ite c a b, C, X, s, ct, h, us => by
    unfold chkS at h
    split at h
    · simp only [Bool.and_eq_true] at h
      obtain ⟨⟨⟨h1, h2⟩, h3⟩, h4⟩ := h
      unfold usS at us
      obtain ⟨u1, us⟩ := AllU.app us
      obtain ⟨u2, u3⟩ := AllU.app us
      exact (ps_if ((sndE c ct h2 u1).pt h1) (sndB a ct h3 u2) (sndB b ct h4 u3)).imp fun D σ H q => rd_if q
    · cases h
  | .whl c b, C, X, s, ct, h, us => by
    unfold chkS at h
    split at h
    · simp only [Bool.and_eq_true] at h
      obtain ⟨⟨h1, h2⟩, h3⟩ := h
      unfold usS at us
      obtain ⟨u1, u2⟩ := AllU.app us
      exact (ps_while (own_ok ct) ((sndE c ct h2 u1).pt h1) (sndB b ct h3 u2)).imp fun D σ H q => rd_whl q
    · cases h
  | .for_ t it b, C, X, s, ct, h, us => by
    unfold chkS at h
    split at h
    · simp only [Bool.and_eq_true] at h
      obtain ⟨⟨⟨h1, h2⟩, h3⟩, h4⟩ := h
      unfold usS at us
      obtain ⟨u1, u2⟩ := AllU.app us
      rw [Bool.or_eq_true] at h3
      rcases h3 with h3 | h3
      · exact (ps_for (own_ok ct) ct.calm (sndI it ct h3 u1) (chkT_ok ct h1).1 (sndB b ct h4 u2) (folded_nS h2)).imp fun D σ H q => rd_for q
      · obtain ⟨j, hi, hj⟩ := sndIF ct h3
        refine (ps_lkor (ps_for (own_ok ct) ct.calm hi (chkT_ok ct h1).1 (sndB b ct h4 u2) (folded_nS h2))).imp fun D σ H q => lock_or q (fun env fl env' he => ?_) fun D σ H hl q => ⟨hl, rd_for q⟩
        unfold ex at he
        obtain ⟨q, h1, _⟩ := R.bind_eq_ok he
        exact hj env q.1 q.2 h1
    · cases h
  | .ali _ _ _ _ _ _ _, C, X, s, ct, h, us => by unfold chkS at h; cases h
  | .brk, C, X, s, ct, h, us => by
    unfold chkS at h
    split at h
    · exact ps_break.imp fun D σ H q => rd_brk q
    · cases h
  | .cnt, C, X, s, ct, h, us => by
    unfold chkS at h
    split at h
    · exact ps_continue.imp fun D σ H q => rd_cnt q
    · cases h
  | .pass, C, X, s, ct, h, us => by
    unfold chkS at h
    split at h
    · exact ps_pass.imp fun D σ H q => rd_pass q
    · cases h
  | .rais, C, X, s, ct, h, us => by
    exact snd_rais
theorem sndB : ∀ (c : CSs) {C : SC} {X : Cx} {s : List Stmt}, Ct C k X → chkB c C s = true → Lks X k (usB c) → PSs X s (rdB X.K c)
  | .nil, C, X, s, ct, h, us => by
    unfold chkB at h
    cases s with
    | nil => exact pss_nil.imp fun D σ H q => rd_nil q
    | cons x xs => cases h
  | .cons c r, C, X, s, ct, h, us => by
    unfold chkB at h
    cases s with
    | nil => cases h
    | cons x xs =>
      simp only [Bool.and_eq_true, Bool.or_eq_true] at h
      unfold usB at us
      obtain ⟨u1, u2⟩ := AllU.app us
      rcases h with h | h
      · exact (pss_cons (sndS c ct h.1 u1) (sndB r ct h.2 u2)).imp fun D σ H q => rd_cons q
      · obtain ⟨l, g, a, b, i, x1, y1, s2, xs2, t1, t2, rfl, rfl, p1, p2, k⟩ := ali_ok ct h.1
        have h2 := h.2
        exact (pss_cons p1 (pss_cons p2 (sndB r ct h2 u2))).imp fun D σ H q => k _ σ H (rd_cons q)
end
end
end EL

set_option maxRecDepth 100000
/-! EL20: defs; the law -/
namespace EL
open PySem PySem.Spec L2
section
variable {P : Program} {w : World} {K : PySem.W.Frag} {mg : Str → Option Value} {base : Heap}
theorem if_okP {α : Type} {b : Prop} [Decidable b] {x : R α} {y : α} (h : (if b then x else .stuck) = .ok y) : b ∧ x = .ok y := by
  by_cases hb : b
  · rw [if_pos hb] at h; exact ⟨hb, h⟩
  · rw [if_neg hb] at h; cases h
theorem REnv.app_none : ∀ {ps : List PV} {vs : List V} {H : Hp} {S F : AS} {n : Nat}, REnv K H S (ps.map some) (vs.map some) F → REnv K H S (ps.map some ++ List.replicate n none) (vs.map some ++ List.replicate n none) F
  | [], vs, H, S, F, n, h => by
    have h : vs.map some = [] := h
    rw [h]
    show REnv K H S (List.replicate n none) (List.replicate n none) F
    clear h
    induction n with
    | zero => rfl
    | succ n ih => exact ⟨none, List.replicate n none, rfl, ih⟩
  | p :: ps, vs, H, S, F, n, h => by
    obtain ⟨v, t, F1, F2, e, s1, s2, dj, r, h2⟩ := h
    cases vs with
    | nil => cases e
    | cons v' vs =>
      cases e
      exact ⟨v, _, F1, F2, rfl, s1, s2, dj, r, REnv.app_none h2⟩
theorem outs_shift {x : Option PV} {env : Env} : ∀ {ps : List PV} {i : Nat}, outs (x :: env) ps (i + 1) = outs env ps i
  | [], i => by unfold outs; rfl
  | p :: ps, i => by
    unfold outs
    rw [outs_shift (ps := ps) (i := i + 1)]
    rfl
theorem REnv.tl {x : Option PV} {e : Env} {σ : St} {H : Hp} {S F : AS} (h : REnv K H S (x :: e) σ F) : ∃ y t F2, σ = y :: t ∧ Sub F2 F ∧ REnv K H S e t F2 := by
  cases x with
  | none =>
    obtain ⟨y, t, rfl, h1⟩ := h
    exact ⟨y, t, F, rfl, fun _ h => h, h1⟩
  | some p =>
    obtain ⟨v, t, F1, F2, rfl, s1, s2, dj, r, h2⟩ := h
    exact ⟨some v, t, F2, rfl, s2, h2⟩
theorem outs_ok : ∀ {ps : List PV} {vs : List V} {env : Env} {σ : St} {H : Hp} {S F : AS} {os : List PV} {H0 : Hp} {S0 F0 : AS}, REnv K H S env σ F → REnv K H0 S0 (ps.map some) (vs.map some) F0 → Kept H0 S0 H S → outs env ps 0 = some os →
    (∀ (j : Nat) (v : V) (p : PV), vs[j]? = some v → ps[j]? = some p → isOwn p = true → σ[j]? = some (some v)) → ps.length ≤ env.length → ∃ F', REnv K H S (os.map some) (vs.map some) F' ∧ Sub F' F
  | [], vs, env, σ, H, S, F, os, H0, S0, F0, m, h0, kp, h, _, _ => by
    unfold outs at h
    cases h
    exact ⟨Emp, h0, fun a x => x.elim⟩
  | p :: ps, vs, [], σ, H, S, F, os, H0, S0, F0, m, h0, kp, h, hs, hl => by simp at hl
  | p :: ps, vs, x :: env, σ, H, S, F, os, H0, S0, F0, m, h0, kp, h, hs, hl => by
    unfold outs at h
    rw [outs_shift] at h
    cases h1 : outs env ps 0 with
    | none => rw [h1] at h; cases h
    | some os1 =>
      rw [h1] at h
      simp only at h
      obtain ⟨v, t, G1, G2, e, s1, s2, dj, r, h2⟩ := h0
      cases vs with
      | nil => cases e
      | cons v' vs =>
        cases e
        by_cases ho : isOwn p = true
        · rw [if_pos ho] at h
          rw [slot_zero] at h
          cases x with
          | none => cases h
          | some o =>
            cases h
            obtain ⟨u, t, F1, F2, rfl, u1, u2, dj2, r2, m2⟩ := m
            have hv := hs 0 v p rfl rfl ho
            simp at hv
            subst hv
            obtain ⟨F', a1, a2⟩ := outs_ok m2 h2 kp h1 (fun j v p e1 e2 e3 => by simpa using hs (j + 1) v p (by simpa using e1) (by simpa using e2) e3) (by simpa using hl)
            exact ⟨Uni F1 F', ⟨u, _, F1, F', rfl, fun a x => .inl x, fun a x => .inr x, fun a x y => dj2 a x (a2 a y), r2, a1⟩, fun a x => x.elim (u1 a) fun x => u2 a (a2 a x)⟩
        · rw [if_neg ho] at h
          cases h
          have ho : isOwn p = false := by simpa using ho
          obtain ⟨y, t, F2, rfl, u2, m2⟩ := m.tl
          obtain ⟨F', a1, a2⟩ := outs_ok m2 h2 kp h1 (fun j v p e1 e2 e3 => by simpa using hs (j + 1) v p (by simpa using e1) (by simpa using e2) e3) (by simpa using hl)
          exact ⟨F', ⟨v, _, Emp, F', rfl, fun a x => x.elim, fun _ h => h, fun a x => x.elim, RepO.of_frz ho (RepF.kept kp _ (r.frz_of ho)), a1⟩, a2.trans u2⟩
def psOf : CF → List Str
  | .mk np ns _ => (ns.map Str.ofString).take np
def nsOf : CF → List Str
  | .mk _ ns _ => ns.map Str.ofString
def bodyOf : CF → CSs
  | .mk _ _ b => b
def chkF (cf : CF) (st : Stmt) (B : List Str) : Bool := match cf with
  | .mk np ns b => C8.scC (ns.map Str.ofString) ((ns.map Str.ofString).take np) (defScope st) && chkB b ⟨ns.map Str.ofString, defScope st, true, B⟩ (defBody st)
theorem LkF.up {j k : Nat} {x : String} {sp : Sp} (h : LkF P w K mg base j x sp) (hk : j ≤ k) : LkF P w K mg base k x sp := by
  obtain ⟨fa, fd, ps, h1, h2, h3, h4⟩ := h
  exact ⟨fa, fd, ps, h1.mono hk, h2, h3, h4⟩
theorem start_eq {N : List Str} {vs : List V} : start N vs = vs.map some ++ List.replicate (N.length - vs.length) none := rfl
theorem freeA_of {ps : List PV} {A : List Nat} (h : freeA ps A = true) {j : Nat} {p : PV} (hp : ps[j]? = some p) (ho : isOwn p = true) : j ∉ A := fun hj => by
  unfold freeA at h
  have := List.all_eq_true.mp h j hj
  rw [hp] at this
  simp [ho] at this
theorem ok_of {x qual : Str} {st : Stmt} {f : Addr} {fd : FuncData} {k : Nat} {cf : CF} {B : List Str} (F : Fun K x qual st f fd) (hc : chkF cf st B = true) (hB : ∀ x ∈ B, mg x = none) (hU : AllU P w K mg base k (usB (bodyOf cf))) :
    FnOk P w K mg base CX0 (k + 1) f fd (psOf cf) (spOf K cf) := by
  cases cf with
  | mk np ns b =>
    unfold chkF at hc
    rw [Bool.and_eq_true] at hc
    have S : FnScope (ns.map Str.ofString) ((ns.map Str.ofString).take np) (defScope st) := C8.fnScope_by hc.1
    refine F.ok (N := ns.map Str.ofString) S (fun vs H Q E h => ?_) (fun cdv A outer s H vs Q E hr h => ?_)
    · obtain ⟨ps, S, G, r, os, m, hrun, _⟩ := h
      unfold run at hrun
      obtain ⟨hc2, _⟩ := if_okP hrun
      have := m.en.len
      show vs.length = ((ns.map Str.ofString).take np).length
      rw [List.length_take, List.length_map]
      simp at this
      omega
    · obtain ⟨ps, S0, G, r, os, m, hrun, q⟩ := h
      unfold run at hrun
      obtain ⟨⟨e1, e2, e3⟩, hrun⟩ := if_okP hrun
      have ct : Ct ⟨ns.map Str.ofString, defScope st, true, B⟩ k (cxOf CX0 P w K mg base (ns.map Str.ofString) qual (defScope st) f cdv A outer s H E).nox :=
        ⟨rfl, rfl, S.kind, rfl, S.nd, hr, fun _ _ => rfl, hB, rfl⟩
      have pb := sndB b ct hc.2 hU
      refine ⟨_, pb, ?_⟩
      have hlen : ps.length = vs.length := by have := m.en.len; simpa using this
      have m0 : M K (ps.map some ++ List.replicate (ns.length - np) none) (start (ns.map Str.ofString) vs) H S0 G := by
        rw [start_eq, List.length_map, ← hlen, e1]
        exact ⟨m.en.app_none, m.dj, m.mu, m.st⟩
      obtain ⟨⟨fl, env'⟩, hb, hrun⟩ := R.bind_eq_ok hrun
      simp only at hrun
      have fin : ∀ (p : PV), (R.of (outs env' ps 0)).bind (fun os => R.ok (p, os)) = .ok (r, os) → ∀ (v : V) (σ' : St) (H' : Hp) (S' F' : AS) (g : AS), Post K H S0 G env' σ' H' S' F' p v g → EqOn (asgB b) (start (ns.map Str.ofString) vs) σ' → Q v H' := by
        intro p hp v σ' H' S' F' g po eq
        obtain ⟨os', ho, hp⟩ := R.bind_eq_ok hp
        have ho := R.of_eq_ok ho
        cases hp
        have kp := po.st.kept m.dj m.mu
        have hel : env'.length = ns.length := by
          have h1 := po.m.en.len
          have h2 := m0.en.len
          rw [eq.1, ← h2] at h1
          rw [h1, List.length_append, List.length_map, List.length_replicate]
          omega
        obtain ⟨F2, a1, a2⟩ := outs_ok po.m.en m.en kp ho (fun j v p h1 h2 h3 => by
          have nj := freeA_of e3 h2 h3
          rw [eq.2 j nj, start_eq, List.getElem?_append_left (by
            rw [List.length_map]
            exact (List.getElem?_eq_some_iff.mp h1).1), List.getElem?_map, h1]
          rfl) (by rw [hel]; omega)
        exact q v H' S' F2 g ⟨⟨a1, po.m.dj.mono Sub.refl a2, fun a x => po.m.mu a (a2 a x), po.m.st⟩, po.r, po.fd.mono Sub.refl a2, po.fs, po.fm, po.st.weak fun a x => x.imp (a2 a) id⟩
      refine ⟨_, S0, G, fl, env', m0, hb, ?_⟩
      cases fl with
      | nxt => exact fun σ' H' S' F' m' s' eq => fin .non hrun .non σ' H' S' F' Emp (((New.sc (show RepF K H' S' .non .non from rfl) rfl).post m').after s' m'.dj) eq
      | ret p => exact fun v σ' H' S' F' g po eq => fin p hrun v σ' H' S' F' g po eq
      | brk => cases hrun
      | cnt => cases hrun
theorem lk_of {x : String} {st : Stmt} {fa : Addr} {fd : FuncData} {k : Nat} {cf : CF} {B : List Str} (F : Fun K (Str.ofString x) (Str.ofString x) st fa fd) (hm : mg (Str.ofString x) = some (.ref fa)) (hb : Binds K fd (psOf cf) []) (hc : chkF cf st B = true) (hB : ∀ x ∈ B, mg x = none)
    (hU : AllU P w K mg base k (usB (bodyOf cf))) : LkF P w K mg base (k + 1) x (spOf K cf) := ⟨fa, fd, psOf cf, ok_of F hc hB hU, hm, F.kp, hb⟩
/-! ### the law -/
def spLaw (K : PySem.W.Frag) : Sp := fun vs H Q _ => ∃ (a : Addr) (ns : List Int), vs = [.ref a] ∧ Only H ∧ SqL K H a (ns.map V.int) ∧ ns.length ≤ 63 ∧ ∀ H', Q (.bl true) H'
theorem RepFs.ints {H : Hp} {S : AS} : ∀ {ns : List Int}, RepFs K H S (ns.map .int) (ns.map V.int)
  | [] => rfl
  | n :: ns => ⟨.int n, ns.map V.int, rfl, rfl, RepFs.ints⟩
theorem law_of {f : Addr} {fd : FuncData} {ps : List Str} {k : Nat} {cf : CF} (F : FnOk P w K mg base CX0 k f fd ps (spOf K cf)) (h : ∀ ns : List Int, ns.length ≤ 63 → ∃ os, run cf [.lst .ro (ns.map .int)] = .ok (.bl true, os)) :
    FnOk P w K mg base CX0 k f fd ps (spLaw K) := F.imp fun vs H Q E ⟨a, ns, e, hO, hS, hl, q⟩ => by
  subst e
  obtain ⟨os, hr⟩ := h ns hl
  refine ⟨[.lst .ro (ns.map .int)], Emp, Emp, .bl true, os, ⟨?_, fun a x => x.elim, fun a x => x.elim, fun a x => x.elim⟩, hr, fun v H' S' F' f po => ?_⟩
  · refine ⟨.ref a, [], Emp, Emp, rfl, fun a x => x, fun a x => x, fun a x => x.elim, ?_, rfl⟩
    refine RepO.of_frz rfl ⟨a, ns.map V.int, rfl, ?_, RepFs.ints⟩
    unfold LsF
    rw [if_pos rfl]
    rcases hS with (hS | hS) | hS
    · rcases hO a with h0 | ⟨o, xs, h0⟩
      · rw [h0] at hS; cases hS
      · rw [h0] at hS; cases hS
    · exact .inl hS
    · exact .inr hS
  · cases (show v = .bl true from po.r)
    exact q H'
end
end EL

set_option maxRecDepth 100000
/-! EL20b: the evaluator's equations, loops folded -/
namespace EL
open PySem PySem.Spec L2

@[simp] theorem q_ev_var {i} {env} : ev (CE.var i) env = (rdS env i) := by first | rfl | (unfold ev; rfl)
@[simp] theorem q_ev_mv {i} {env} : ev (CE.mv i) env = (mvS env i) := by first | rfl | (unfold ev; rfl)
@[simp] theorem q_ev_lit {v} {env} : ev (CE.lit v) env = (.ok (v, env)) := by first | rfl | (unfold ev; rfl)
@[simp] theorem q_ev_glb {w1} {v} {env} : ev (CE.glb w1 v) env = (.ok (v, env)) := by first | rfl | (unfold ev; rfl)
@[simp] theorem q_ev_bin {op} {a} {b} {env} : ev (CE.bin op a b) env = ((asA a (ev a env) env).bind fun p => (asA b (ev b p.2) p.2).bind fun q => match getA q.2 p.1, getA q.2 q.1 with
    | some x, some y => (R.of (binP op x y)).bind fun z => .ok (z, q.2)
    | _, _ => .stuck) := by first | rfl | (unfold ev; rfl)
@[simp] theorem q_ev_neg {a} {env} : ev (CE.neg a) env = ((ev a env).bind fun p => match p.1 with
    | .int i => .ok (.int (-i), p.2)
    | _ => .stuck) := by first | rfl | (unfold ev; rfl)
@[simp] theorem q_ev_cmp {op} {a} {b} {env} : ev (CE.cmp op a b) env = ((asA a (ev a env) env).bind fun p => (asA b (ev b p.2) p.2).bind fun q => match getA q.2 p.1, getA q.2 q.1 with
    | some x, some y => (R.of (cmpP op x y)).bind fun z => .ok (.bl z, q.2)
    | _, _ => .stuck) := by first | rfl | (unfold ev; rfl)
@[simp] theorem q_ev_chn {o1} {o2} {a} {b} {c} {env} : ev (CE.chn o1 o2 a b c) env = ((asA a (ev a env) env).bind fun p => (ev b p.2).bind fun q => match getA q.2 p.1 with
    | some x => (R.of (cmpP o1 x q.1)).bind fun z => match z with
      | false => .ok (.bl false, q.2)
      | true => (asA c (ev c q.2) q.2).bind fun r => match getA r.2 r.1 with
        | some w => (R.of (cmpP o2 q.1 w)).bind fun z => .ok (.bl z, r.2)
        | none => .stuck
    | none => .stuck) := by first | rfl | (unfold ev; rfl)
@[simp] theorem q_ev_and {a} {b} {env} : ev (CE.and a b) env = ((ev a env).bind fun p => match p.1 with
    | .bl true => ev b p.2
    | .bl false => .ok (.bl false, p.2)
    | _ => .stuck) := by first | rfl | (unfold ev; rfl)
@[simp] theorem q_ev_or {a} {b} {env} : ev (CE.or a b) env = ((ev a env).bind fun p => match p.1 with
    | .bl true => .ok (.bl true, p.2)
    | .bl false => ev b p.2
    | _ => .stuck) := by first | rfl | (unfold ev; rfl)
@[simp] theorem q_ev_not {a} {env} : ev (CE.not a) env = ((ev a env).bind fun p => match p.1 with
    | .bl b => .ok (.bl (!b), p.2)
    | _ => .stuck) := by first | rfl | (unfold ev; rfl)
@[simp] theorem q_ev_ite {c} {a} {b} {env} : ev (CE.ite c a b) env = ((ev c env).bind fun p => match p.1 with
    | .bl true => ev a p.2
    | .bl false => ev b p.2
    | _ => .stuck) := by first | rfl | (unfold ev; rfl)
@[simp] theorem q_ev_tup {es} {env} : ev (CE.tup es) env = ((evs es env).bind fun p => if sLen p.1.length then .ok (.tup (p.1.map frz), p.2) else .stuck) := by first | rfl | (unfold ev; rfl)
@[simp] theorem q_ev_lst {deep} {es} {env} : ev (CE.lst deep es) env = ((evs es env).bind fun p => if sLen p.1.length then .ok (if deep then .lst .deep (p.1.map frz1) else .lst .own (p.1.map frz), p.2) else .stuck) := by first | rfl | (unfold ev; rfl)
@[simp] theorem q_ev_dic {d} {ps} {env} : ev (CE.dic d ps) env = ((evp d ps env).bind fun p => .ok (.dic .own d p.1, p.2)) := by first | rfl | (unfold ev; rfl)
@[simp] theorem q_ev_dic1 {k} {v} {env} : ev (CE.dic1 k v) env = ((ev k env).bind fun p => (ev v p.2).bind fun q => (R.of (keyP .t p.1)).bind fun x => .ok (.dic .own .t [(x, frz q.1)], q.2)) := by first | rfl | (unfold ev; rfl)
@[simp] theorem q_ev_idx {a} {i} {env} : ev (CE.idx a i) env = ((asA a (ev a env) env).bind fun p => (ev i p.2).bind fun q => match getA q.2 p.1 with
    | some x => (R.of (idxP x q.1)).bind fun z => .ok (z, q.2)
    | none => .stuck) := by first | rfl | (unfold ev; rfl)
@[simp] theorem q_ev_idx2 {j} {a} {b} {env} : ev (CE.idx2 j a b) env = (match slot env j, evK a env, evK b env with
    | some (.lst .deep xs), some i, some k => match atI xs i with
      | some (.lst .own ys) => (R.of (atI ys k)).bind fun z => .ok (frz z, env)
      | _ => .stuck
    | _, _, _ => .stuck) := by first | rfl | (unfold ev; rfl)
@[simp] theorem q_ev_slc {a} {lo} {hi} {env} : ev (CE.slc a lo hi) env = ((asA a (ev a env) env).bind fun p => (evO lo p.2).bind fun l => (evO hi l.2).bind fun h => match getA h.2 p.1 with
    | some x => (R.of (slcP x l.1 h.1)).bind fun z => .ok (z, h.2)
    | none => .stuck) := by first | rfl | (unfold ev; rfl)
@[simp] theorem q_ev_rev {a} {env} : ev (CE.rev a) env = ((asA a (ev a env) env).bind fun p => match getA p.2 p.1 with
    | some x => (R.of (revP x)).bind fun z => .ok (z, p.2)
    | none => .stuck) := by first | rfl | (unfold ev; rfl)
@[simp] theorem q_ev_call {w1} {cf} {es} {env} : ev (CE.call w1 cf es) env = ((evAs es env).bind fun p => match lend p.2 p.1 with
    | some (vs, e) => (run cf vs).bind fun r => .ok (r.1, back e p.1 vs r.2)
    | none => .stuck) := by first | rfl | (unfold ev; rfl)
@[simp] theorem q_ev_prm {w1} {f} {es} {env} : ev (CE.prm w1 f es) env = ((evAs es env).bind fun p => match getAs p.2 p.1 with
    | some vs => (R.of (f vs)).bind fun z => .ok (z, p.2)
    | none => .stuck) := by first | rfl | (unfold ev; rfl)
@[simp] theorem q_ev_blt {b} {es} {env} : ev (CE.blt b es) env = ((evAs es env).bind fun p => match getAs p.2 p.1 with
    | some vs => (R.of (bltP b vs)).bind fun z => .ok (z, p.2)
    | none => .stuck) := by first | rfl | (unfold ev; rfl)
@[simp] theorem q_ev_mth {m} {o} {es} {env} : ev (CE.mth m o es) env = ((asA o (ev o env) env).bind fun q => (evAs es q.2).bind fun p => match getA p.2 q.1, getAs p.2 p.1 with
    | some x, some vs => (R.of (mthP m x vs)).bind fun z => .ok (z, p.2)
    | _, _ => .stuck) := by first | rfl | (unfold ev; rfl)
@[simp] theorem q_ev_rpl {a} {y} {z} {env} : ev (CE.rpl a y z) env = ((ev a env).bind fun p => match p.1 with
    | .str x => if decide (x.length + (x.length + 1) * z.length ≤ 16777216) then .ok (.str (Txt.replace x y z), p.2) else .stuck
    | _ => .stuck) := by first | rfl | (unfold ev; rfl)
@[simp] theorem q_ev_brw {j} {e} {env} : ev (CE.brw j e) env = (match slot env j with
    | some (.lst .deep xs) => (ev e (dropO (env.set j (some (.lst .frz xs))))).bind fun p => if plainR p.1 then .ok (p.1, env) else .stuck
    | _ => .stuck) := by first | rfl | (unfold ev; rfl)
@[simp] theorem q_ev_ixl {i} {e} {env} : ev (CE.ixl i e) env = (match slot env i with
    | some (.lst f _) => if flat f then (ev e env).bind fun p => match slot p.2 i with
        | some x => (R.of (mthP .index x [p.1])).bind fun z => .ok (z, p.2)
        | none => .stuck
      else .stuck
    | _ => .stuck) := by first | rfl | (unfold ev; rfl)
@[simp] theorem q_ev_get {i} {k} {d} {env} : ev (CE.get i k d) env = (match slot env i with
    | some (.dic _ _ _) => (ev k env).bind fun p => match slot p.2 i with
      | some (.dic _ dk kvs) => (R.of (keyP dk p.1)).bind fun q => .ok ((match getP kvs q with
        | some v => frz v
        | none => frz (d.getD .non)), p.2)
      | _ => .stuck
    | _ => .stuck) := by first | rfl | (unfold ev; rfl)
@[simp] theorem q_ev_sidx {o} {e} {env} : ev (CE.sidx o e) env = ((asA o (ev o env) env).bind fun p => match getA p.2 p.1 with
    | some (.str x) => (ev e p.2).bind fun q => match q.1 with
      | .str y => (R.of (Txt.index0 x y)).bind fun k => .ok (.int (k : Nat), q.2)
      | _ => .stuck
    | _ => .stuck) := by first | rfl | (unfold ev; rfl)
@[simp] theorem q_evs_nil {env} : evs (CEs.nil) env = (.ok ([], env)) := by first | rfl | (unfold evs; rfl)
@[simp] theorem q_evs_cons {e} {r} {env} : evs (CEs.cons e r) env = ((ev e env).bind fun p => (evs r p.2).bind fun q => .ok (p.1 :: q.1, q.2)) := by first | rfl | (unfold evs; rfl)
@[simp] theorem q_evAs_nil {env} : evAs (CEs.nil) env = (.ok ([], env)) := by first | rfl | (unfold evAs; rfl)
@[simp] theorem q_evAs_cons {e} {r} {env} : evAs (CEs.cons e r) env = ((asA e (ev e env) env).bind fun p => (evAs r p.2).bind fun q => .ok (p.1 :: q.1, q.2)) := by first | rfl | (unfold evAs; rfl)
@[simp] theorem q_evO_no {env} : evO (CO.no) env = (.ok (none, env)) := by first | rfl | (unfold evO; rfl)
@[simp] theorem q_evO_yes {e} {env} : evO (CO.yes e) env = ((ev e env).bind fun p => (R.of (int? p.1)).bind fun i => .ok (some i, p.2)) := by first | rfl | (unfold evO; rfl)
@[simp] theorem q_evC_no {env} : evC (CO.no) env = (.ok (true, env)) := by first | rfl | (unfold evC; rfl)
@[simp] theorem q_evC_yes {e} {env} : evC (CO.yes e) env = ((ev e env).bind fun p => (R.of (bool? p.1)).bind fun b => .ok (b, p.2)) := by first | rfl | (unfold evC; rfl)
@[simp] theorem q_evI_rng1 {a} {env} : evI (CI.rng1 a) env = ((ev a env).bind fun p => match p.1 with
    | .int i => if rngOk i then .ok (rngP 0 i, p.2) else .stuck
    | _ => .stuck) := by first | rfl | (unfold evI; rfl)
@[simp] theorem q_evI_rng2 {a} {b} {env} : evI (CI.rng2 a b) env = ((ev a env).bind fun p => (ev b p.2).bind fun q => match p.1, q.1 with
    | .int i, .int j => if rngOk i && rngOk j then .ok (rngP i j, q.2) else .stuck
    | _, _ => .stuck) := by first | rfl | (unfold evI; rfl)
@[simp] theorem q_evI_val {e} {env} : evI (CI.val e) env = ((ev e env).bind fun p => (R.of (itemsP p.1)).bind fun xs => .ok (xs, p.2)) := by first | rfl | (unfold evI; rfl)
@[simp] theorem q_evI_keys {e} {env} : evI (CI.keys e) env = ((asA e (ev e env) env).bind fun p => (R.of (ownD p.1 p.2)).bind fun q => .ok (q.1.map fun r => .tup (r.1.map ofK), q.2)) := by first | rfl | (unfold evI; rfl)
@[simp] theorem q_evI_items {e} {env} : evI (CI.items e) env = ((asA e (ev e env) env).bind fun p => (R.of (ownD p.1 p.2)).bind fun q => .ok (q.1.map fun r => .tup [.tup (r.1.map ofK), frz r.2], q.2)) := by first | rfl | (unfold evI; rfl)
@[simp] theorem q_evI_values {e} {env} : evI (CI.values e) env = ((ev e env).bind fun p => match p.1 with
    | .dic _ _ kvs => .ok (kvs.map fun q => frz q.2, p.2)
    | _ => .stuck) := by first | rfl | (unfold evI; rfl)
@[simp] theorem q_evI_keysF {j} {env} : evI (CI.keysF j) env = ((R.of (frzD env j)).bind fun q => .ok (q.map fun r => .tup (r.1.map ofK), env)) := by first | rfl | (unfold evI; rfl)
@[simp] theorem q_evI_itemsF {j} {env} : evI (CI.itemsF j) env = ((R.of (frzD env j)).bind fun q => .ok (q.map fun r => .tup [.tup (r.1.map ofK), frz r.2], env)) := by first | rfl | (unfold evI; rfl)
@[simp] theorem q_ex_expr {e} {env} : ex (CS.expr e) env = ((ev e env).bind fun p => .ok (.nxt, p.2)) := by first | rfl | (unfold ex; rfl)
@[simp] theorem q_ex_asg {t} {e} {env} : ex (CS.asg t e) env = ((ev e env).bind fun p => match setT t p.1 p.2 with
    | some e1 => .ok (.nxt, e1)
    | none => .stuck) := by first | rfl | (unfold ex; rfl)
@[simp] theorem q_ex_par {i} {j} {a} {b} {env} : ex (CS.par i j a b) env = ((ev a env).bind fun p => (ev b p.2).bind fun q => .ok (.nxt, (q.2.set i (some p.1)).set j (some q.1))) := by first | rfl | (unfold ex; rfl)
@[simp] theorem q_ex_sti {i} {k} {e} {env} : ex (CS.sti i k e) env = ((ev e env).bind fun p => match slot p.2 i with
    | some _ => (ev k p.2).bind fun q => match slot q.2 i with
      | some c => (R.of (stiP c q.1 p.1)).bind fun z => .ok (.nxt, q.2.set i (some z))
      | none => .stuck
    | none => .stuck) := by first | rfl | (unfold ex; rfl)
@[simp] theorem q_ex_sti2 {j} {a} {b} {e} {env} : ex (CS.sti2 j a b e) env = ((ev e env).bind fun r => match slot r.2 j, evK a r.2, evK b r.2 with
    | some (.lst .deep xs), some i, some k => match ixN xs.length i with
      | some n => match xs[n]? with
        | some (.lst .own ys) => (R.of (setIx .own ys (.int k) (frz r.1))).bind fun z => .ok (.nxt, r.2.set j (some (.lst .deep (xs.set n z))))
        | _ => .stuck
      | none => .stuck
    | _, _, _ => .stuck) := by first | rfl | (unfold ex; rfl)
@[simp] theorem q_ex_ali {l} {g} {k} {b} {i} {x} {y} {env} : ex (CS.ali l g k b i x y) env = (match slot env g, evK k env, evK b env, slot env i with
    | some (.lst .deep xs), some n, some j, some (.bl c) => match ixN xs.length n with
      | some m => match xs[m]? with
        | some (.lst .own ys) => (R.of (if decide (l < env.length) then setIx .own ys (.int j) (.str (if c then x else y)) else none)).bind fun z => .ok (.nxt, (env.set l none).set g (some (.lst .deep (xs.set m z))))
        | _ => .stuck
      | none => .stuck
    | _, _, _, _ => .stuck) := by first | rfl | (unfold ex; rfl)
@[simp] theorem q_ex_app {i} {e} {env} : ex (CS.app i e) env = (if ownL (slot env i) then (ev e env).bind fun p => match slot p.2 i with
      | some (.lst .own xs) => if decide (xs.length < sizeLine) then .ok (.nxt, p.2.set i (some (.lst .own (xs ++ [frz p.1])))) else .stuck
      | some (.lst .deep xs) => if decide (xs.length < sizeLine) then .ok (.nxt, p.2.set i (some (.lst .deep (xs ++ [frz1 p.1])))) else .stuck
      | _ => .stuck
    else .stuck) := by first | rfl | (unfold ex; rfl)
@[simp] theorem q_ex_ext {i} {e} {env} : ex (CS.ext i e) env = (if ownL (slot env i) then (ev e env).bind fun p => match slot p.2 i, p.1 with
      | some (.lst .own xs), .lst f ys => if flat f && sLen (xs.length + ys.length) then .ok (.nxt, p.2.set i (some (.lst .own (xs ++ ys)))) else .stuck
      | _, _ => .stuck
    else .stuck) := by first | rfl | (unfold ex; rfl)
@[simp] theorem q_ex_del {i} {k} {env} : ex (CS.del i k) env = ((ev k env).bind fun p => match slot p.2 i with
    | some (.dic .own d kvs) => (R.of (keyP d p.1)).bind fun q => if (getP kvs q).isSome then .ok (.nxt, p.2.set i (some (.dic .own d (dropP kvs q)))) else .stuck
    | _ => .stuck) := by first | rfl | (unfold ex; rfl)
@[simp] theorem q_ex_ret {env} : ex (CS.ret .no) env = (.ok (.ret .non, env)) := by first | rfl | (unfold ex; rfl)
@[simp] theorem q_ex_ret_2 {e} {env} : ex (CS.ret (.yes e)) env = ((ev e env).bind fun p => .ok (.ret p.1, p.2)) := by first | rfl | (unfold ex; rfl)
@[simp] theorem q_ex_ite {c} {a} {b} {env} : ex (CS.ite c a b) env = ((ev c env).bind fun p => match p.1 with
    | .bl true => exs a p.2
    | .bl false => exs b p.2
    | _ => .stuck) := by first | rfl | (unfold ex; rfl)
@[simp] theorem q_ex_brk {env} : ex (CS.brk) env = (.ok (.brk, env)) := by first | rfl | (unfold ex; rfl)
@[simp] theorem q_ex_cnt {env} : ex (CS.cnt) env = (.ok (.cnt, env)) := by first | rfl | (unfold ex; rfl)
@[simp] theorem q_ex_pass {env} : ex (CS.pass) env = (.ok (.nxt, env)) := by first | rfl | (unfold ex; rfl)
@[simp] theorem q_ex_rais {env} : ex (CS.rais) env = (.stuck) := by first | rfl | (unfold ex; rfl)
@[simp] theorem q_exs_nil {env} : exs (CSs.nil) env = (.ok (.nxt, env)) := by first | rfl | (unfold exs; rfl)
@[simp] theorem q_exs_cons {s} {r} {env} : exs (CSs.cons s r) env = ((ex s env).bind fun p => match p.1 with
    | .nxt => exs r p.2
    | f => .ok (f, p.2)) := by first | rfl | (unfold exs; rfl)
@[simp] theorem q_ex_for {t it b env} : ex (CS.for_ t it b) env = (evI it env).bind fun p => loopF (forB t b) p.1 p.2 := by first | rfl | (unfold ex; rfl)
@[simp] theorem q_ex_whl {c b env} : ex (CS.whl c b) env = loopW (fun e => ev c e) (fun e => exs b e) FUEL env := by first | rfl | (unfold ex; rfl)
@[simp] theorem q_ev_lc {dp vs t it c e env} : ev (CE.lc dp vs t it c e) env = (evI it env).bind fun p => if wipeOk p.2 vs (asgT t) then (loopL (lcB dp vs t c e) p.1 [] (wipeE p.2 vs)).bind fun r => .ok (if dp then .lst .deep r.1 else .lst .own r.1, restE r.2 p.2 vs) else .stuck := by first | rfl | (unfold ev; rfl)
theorem run_mk {ps ns b vs} : run (CF.mk ps ns b) vs = if vs.length = ps ∧ ps ≤ ns.length ∧ freeA vs (asgB b) = true then
      (exs b (vs.map some ++ List.replicate (ns.length - ps) none)).bind fun p => match p.1 with
        | .ret v => (R.of (outs p.2 vs 0)).bind fun os => .ok (v, os)
        | .nxt => (R.of (outs p.2 vs 0)).bind fun os => .ok (.non, os)
        | _ => .stuck
    else .stuck := by first | rfl | (unfold run; rfl)
end EL

set_option maxRecDepth 100000
set_option maxHeartbeats 4000000
/-! EL21: the laws' _law_same -/
namespace EL
open PySem PySem.Spec L2
/-- a table's items -/
def seqP : PV → Option (Bool × List PV)
  | .tup xs => some (true, xs)
  | .ktp xs => some (true, xs)
  | .lst _ xs => some (false, xs)
  | _ => none
def allO (f : PV → PV → Option Bool) : List PV → List PV → Option Bool
  | x :: xs, y :: ys => match f x y with
    | some true => allO f xs ys
    | some false => some false
    | none => none
  | [], [] => some true
  | _, _ => some false
def sameB : PV → PV → Option Bool
  | .dic _ _ _, _ => none
  | _, .dic _ _ _ => none
  | .non, .non => some true
  | .bl x, .bl y => some (decide (x = y))
  | .int x, .int y => some (decide (x = y))
  | .str x, .str y => some (decide (x = y))
  | _, _ => some false
def sameF : Nat → PV → PV → Option Bool
  | 0, _, _ => none
  | d + 1, a, b => match seqP b with
    | some (t, ys) => match seqP a with
      | some (u, xs) => if t = u then (if xs.length = ys.length then (if ys.length < 4611686018427387904 then allO (sameF d) xs ys else none) else some false) else some false
      | none => match a with
        | .dic _ _ _ => none
        | _ => some false
    | none => sameB a b
def prSd (d : Nat) : List PV → Option PV
  | [a, b] => (sameF d a b).map .bl
  | _ => none
def prSame : List PV → Option PV := prSd 12
def sC1 : CE := .or (.blt (.isi "tuple") (.cons (.var 1) .nil)) (.blt (.isi "list") (.cons (.var 1) .nil))
def sC2 : CE := .or (.and (.blt (.isi "tuple") (.cons (.var 1) .nil)) (.not (.blt (.isi "tuple") (.cons (.var 0) .nil)))) (.and (.blt (.isi "list") (.cons (.var 1) .nil)) (.not (.blt (.isi "list") (.cons (.var 0) .nil))))
def sC3 : CE := .cmp .ne (.blt .len (.cons (.var 0) .nil)) (.blt .len (.cons (.var 1) .nil))
def lpC (d : Nat) : CSs := (.cons (.ite (.not (.prm "_law_same" (prSd d) (.cons (.idx (.var 0) (.var 2)) (.cons (.idx (.var 1) (.var 2)) .nil)))) (.cons (.ret (.yes (.lit (.bl false)))) .nil) .nil) .nil)
def sFor (d : Nat) : CS := .for_ (.var 2) (.rng1 (.blt .len (.cons (.var 1) .nil))) (lpC d)
def sRest : CSs := (.cons (.ite (.or (.blt (.isi "bool") (.cons (.var 0) .nil)) (.blt (.isi "bool") (.cons (.var 1) .nil))) (.cons (.ret (.yes (.and (.blt (.isi "bool") (.cons (.var 0) .nil)) (.and (.blt (.isi "bool") (.cons (.var 1) .nil)) (.cmp .eq (.var 0) (.var 1)))))) .nil) .nil) (.cons (.ite (.blt (.isi "int") (.cons (.var 1) .nil)) (.cons (.ret (.yes (.and (.blt (.isi "int") (.cons (.var 0) .nil)) (.cmp .eq (.var 0) (.var 1))))) .nil) .nil) (.cons (.ite (.blt (.isi "str") (.cons (.var 1) .nil)) (.cons (.ret (.yes (.and (.blt (.isi "str") (.cons (.var 0) .nil)) (.cmp .eq (.var 0) (.var 1))))) .nil) .nil) (.cons (.ret (.yes (.and (.cmp .is (.var 0) (.lit .non)) (.cmp .is (.var 1) (.lit .non))))) .nil))))
def b_same (d : Nat) : CSs := .cons (.ite sC1 (.cons (.ite sC2 (.cons (.ret (.yes (.lit (.bl false)))) .nil) .nil) (.cons (.ite sC3 (.cons (.ret (.yes (.lit (.bl false)))) .nil) .nil) (.cons (sFor d) (.cons (.ret (.yes (.lit (.bl true)))) .nil)))) .nil) sRest
def c_same (d : Nat) : CF := .mk 2 ["a", "b", "k"] (b_same d)
theorem allO_frz {f : PV → PV → Option Bool} : True := trivial
theorem seqP_frz (p : PV) : seqP (frz p) = seqP p := by
  match p with
  | .lst .own xs => rfl
  | .lst .deep xs => rfl
  | .lst .frz xs => rfl
  | .lst .ro xs => rfl
  | .dic .own _ xs => rfl
  | .dic .deep _ xs => rfl
  | .dic .frz _ xs => rfl
  | .dic .ro _ xs => rfl
  | .non => rfl
  | .bl _ => rfl
  | .int _ => rfl
  | .str _ => rfl
  | .tup _ => rfl
  | .ktp _ => rfl
/-- shapes -/
inductive Shp : PV → Prop where
  | non : Shp .non
  | bl (b : Bool) : Shp (.bl b)
  | int (b : Int) : Shp (.int b)
  | str (b : Str) : Shp (.str b)
  | tup (b : List PV) : Shp (.tup b)
  | ktp (b : List PV) : Shp (.ktp b)
  | frz (b : List PV) : Shp (.lst .frz b)
  | ro (b : List PV) : Shp (.lst .ro b)
  | dic (f : Fl) (k : DK) (b : List (List Key × PV)) : Shp (.dic f k b)
theorem shp (p : PV) : Shp (frz p) := by
  match p with
  | .lst .own xs => exact .frz xs
  | .lst .deep xs => exact .frz xs
  | .lst .frz xs => exact .frz xs
  | .lst .ro xs => exact .ro xs
  | .dic .own _ xs => exact .dic ..
  | .dic .deep _ xs => exact .dic ..
  | .dic .frz _ xs => exact .dic ..
  | .dic .ro _ xs => exact .dic ..
  | .non => exact .non
  | .bl _ => exact .bl _
  | .int _ => exact .int _
  | .str _ => exact .str _
  | .tup _ => exact .tup _
  | .ktp _ => exact .ktp _
theorem frz_frz2 (p : PV) : frz (frz p) = frz p := by
  match p with
  | .lst .own xs => rfl
  | .lst .deep xs => rfl
  | .lst .frz xs => rfl
  | .lst .ro xs => rfl
  | .dic .own _ xs => rfl
  | .dic .deep _ xs => rfl
  | .dic .frz _ xs => rfl
  | .dic .ro _ xs => rfl
  | .non => rfl
  | .bl _ => rfl
  | .int _ => rfl
  | .str _ => rfl
  | .tup _ => rfl
  | .ktp _ => rfl
theorem frz_view (p : PV) : frz p = p ∨ (∃ f f' xs, p = .lst f xs ∧ frz p = .lst f' xs) ∨ (∃ f f' d kvs, p = .dic f d kvs ∧ frz p = .dic f' d kvs) := by
  match p with
  | .lst .own xs => exact .inr (.inl ⟨_, _, _, rfl, rfl⟩)
  | .lst .deep xs => exact .inr (.inl ⟨_, _, _, rfl, rfl⟩)
  | .lst .frz xs => exact .inl rfl
  | .lst .ro xs => exact .inl rfl
  | .dic .own _ xs => exact .inr (.inr ⟨_, _, _, _, rfl, rfl⟩)
  | .dic .deep _ xs => exact .inr (.inr ⟨_, _, _, _, rfl, rfl⟩)
  | .dic .frz _ xs => exact .inl rfl
  | .dic .ro _ xs => exact .inl rfl
  | .non => exact .inl rfl
  | .bl _ => exact .inl rfl
  | .int _ => exact .inl rfl
  | .str _ => exact .inl rfl
  | .tup _ => exact .inl rfl
  | .ktp _ => exact .inl rfl
theorem sameB_frz (p q : PV) : sameB (frz p) (frz q) = sameB p q := by
  rcases frz_view p with h | ⟨f, f', xs, rfl, h⟩ | ⟨f, f', d, xs, rfl, h⟩ <;> rw [h] <;> rcases frz_view q with h2 | ⟨g, g', ys, rfl, h2⟩ | ⟨g, g', d2, ys, rfl, h2⟩ <;> rw [h2]
  · cases p <;> rfl
  · cases p <;> rfl
  · cases q <;> rfl
  · rfl
  · rfl
  · cases q <;> rfl
  · rfl
  · rfl
theorem sameF_frz : ∀ (d : Nat) (a b : PV), sameF d (frz a) (frz b) = sameF d a b
  | 0, _, _ => rfl
  | d + 1, a, b => by
    unfold sameF
    rw [seqP_frz, seqP_frz, sameB_frz]
    rcases frz_view a with h | ⟨f, f', xs, rfl, h⟩ | ⟨f, f', d, xs, rfl, h⟩ <;> rw [h] <;> rfl
theorem eqP_int (i j : Int) : eqP (.int i) (.int j) = some (decide (i = j)) := by
  have : (i == j) = decide (i = j) := Bool.beq_eq_decide_eq i j
  simp [eqP, toD, PyData.depth, PyData.eqv, this]
theorem eqP_str (i j : Str) : eqP (.str i) (.str j) = some (decide (i = j)) := by
  have : (i == j) = decide (i = j) := Bool.beq_eq_decide_eq i j
  simp [eqP, toD, PyData.depth, PyData.eqv, this]
theorem eqP_bl (i j : Bool) : eqP (.bl i) (.bl j) = some (decide (i = j)) := by
  cases i <;> cases j <;> rfl
theorem run_atom {d : Nat} {A B : PV} {r : Bool} (sa : Shp A) (hB : seqP B = none) (sb : Shp B) (h : sameB A B = some r) : run (c_same d) [A, B] = .ok (.bl r, [A, B]) := by
  cases sb with
  | tup => cases hB
  | ktp => cases hB
  | frz => cases hB
  | ro => cases hB
  | dic => cases sa <;> cases h
  | non => cases sa <;> first | (cases h; done) | (cases h; rfl)
  | bl y =>
    cases sa with
    | bl x =>
      have h : some (decide (x = y)) = some r := h
      simp [c_same, b_same, sC1, sFor, lpC, sRest, run_mk, asA, slot, getA, getAs, bltP, isTy, outs, isOwn, asgB, asgS, asgT, freeA, cmpP, eqP_bl, setT] 
      simpa using h
    | _ => first | (cases h; done) | (cases h; rfl)
  | int y =>
    cases sa with
    | int x =>
      have h : some (decide (x = y)) = some r := h
      simp [c_same, b_same, sC1, sFor, lpC, sRest, run_mk, asA, slot, getA, getAs, bltP, isTy, outs, isOwn, asgB, asgS, asgT, freeA, cmpP, eqP_int, setT] 
      simpa using h
    | _ => first | (cases h; done) | (cases h; rfl)
  | str y =>
    cases sa with
    | str x =>
      have h : some (decide (x = y)) = some r := h
      simp [c_same, b_same, sC1, sFor, lpC, sRest, run_mk, asA, slot, getA, getAs, bltP, isTy, outs, isOwn, asgB, asgS, asgT, freeA, cmpP, eqP_str, setT] 
      simpa using h
    | _ => first | (cases h; done) | (cases h; rfl)
/-- the loop over the items -/
theorem allO_drop {f : PV → PV → Option Bool} {xs ys : List PV} {i : Nat} (h1 : i < xs.length) (h2 : i < ys.length) : allO f (xs.drop i) (ys.drop i) = match f xs[i] ys[i] with
    | some true => allO f (xs.drop (i + 1)) (ys.drop (i + 1))
    | some false => some false
    | none => none := by
  rw [List.drop_eq_getElem_cons h1, List.drop_eq_getElem_cons h2]
  rfl
abbrev lpB (d : Nat) : PV → Env → R (Flow × Env) := forB (.var 2) (lpC d)
theorem lp_turn {d : Nat} {A B z x y : PV} {u : Option PV} {r : Bool} {i : Int} (hA : idxP A (.int i) = some x) (hB : idxP B (.int i) = some y) (h : sameF d x y = some r) :
    lpB d (.int i) [some A, some B, u] = .ok (if r then .nxt else .ret (.bl false), [some A, some B, some (.int i)]) := by
  cases r <;> simp [forB, lpC, setT, asA, slot, getA, getAs, rdS, isOwn, hA, hB, prSd, h]
theorem lp_all {d : Nat} {A B : PV} {xs ys : List PV} (hA : ∀ i : Int, idxP A (.int i) = (atI xs i).map frz) (hB : ∀ i : Int, idxP B (.int i) = (atI ys i).map frz) (hl : xs.length = ys.length) :
    ∀ (m i : Nat) (u : Option PV) (r : Bool), i + m = ys.length → allO (sameF d) (xs.drop i) (ys.drop i) = some r →
    ∃ u', loopF (lpB d) ((List.range' i m).map fun k => PV.int (0 + (k : Nat))) [some A, some B, u] = .ok (if r then .nxt else .ret (.bl false), [some A, some B, u'])
  | 0, i, u, r, hi, h => by
    rw [List.drop_eq_nil_of_le (by omega), List.drop_eq_nil_of_le (by omega)] at h
    cases h
    exact ⟨u, rfl⟩
  | m + 1, i, u, r, hi, h => by
    have h1 : i < xs.length := by omega
    have h2 : i < ys.length := by omega
    rw [allO_drop h1 h2] at h
    have eA : idxP A (.int (0 + (i : Nat))) = some (frz xs[i]) := by
      rw [hA, Int.zero_add, atI_nat (List.getElem?_eq_getElem h1)]; rfl
    have eB : idxP B (.int (0 + (i : Nat))) = some (frz ys[i]) := by
      rw [hB, Int.zero_add, atI_nat (List.getElem?_eq_getElem h2)]; rfl
    cases hs : sameF d xs[i] ys[i] with
    | none => rw [hs] at h; cases h
    | some b =>
      rw [hs] at h
      have hs' : sameF d (frz xs[i]) (frz ys[i]) = some b := by rw [sameF_frz]; exact hs
      have tn := lp_turn (z := A) (u := u) eA eB hs'
      show ∃ u', loopF (lpB d) (PV.int (0 + (i : Nat)) :: (List.range' (i + 1) m).map fun k => PV.int (0 + (k : Nat))) _ = _
      unfold loopF
      rw [tn]
      cases b with
      | false =>
        cases h
        exact ⟨_, rfl⟩
      | true =>
        obtain ⟨u', e⟩ := lp_all hA hB hl m (i + 1) (some (.int (0 + (i : Nat)))) r (by omega) h
        exact ⟨u', e⟩
theorem sq1 {A B : PV} {t : Bool} (b1 : bltP (.isi "tuple") [B] = some (.bl t)) (b2 : bltP (.isi "list") [B] = some (.bl (!t))) : ev sC1 [some A, some B, none] = .ok (.bl true, [some A, some B, none]) := by
  cases t <;> simp [sC1, asA, slot, getA, getAs, b1, b2]
theorem sq2 {A B : PV} {t : Bool} (a1 : bltP (.isi "tuple") [A] = some (.bl t)) (a2 : bltP (.isi "list") [A] = some (.bl (!t))) (b1 : bltP (.isi "tuple") [B] = some (.bl t)) (b2 : bltP (.isi "list") [B] = some (.bl (!t))) : ev sC2 [some A, some B, none] = .ok (.bl false, [some A, some B, none]) := by
  cases t <;> simp [sC2, asA, slot, getA, getAs, b1, b2, a1, a2]
theorem sq3 {A B : PV} {m n : Nat} (a3 : bltP .len [A] = some (.int m)) (b3 : bltP .len [B] = some (.int n)) : ev sC3 [some A, some B, none] = .ok (.bl (!decide (m = n)), [some A, some B, none]) := by
  have : decide ((m : Int) = n) = decide (m = n) := by
    by_cases hl : m = n
    · simp [hl]
    · have : ¬ (m : Int) = n := by omega
      simp [hl, this]
  simp [sC3, asA, slot, getA, getAs, a3, b3, cmpP, eqP_int, this]
theorem rng_ok {n : Nat} (hb : n < 4611686018427387904) : rngOk (n : Int) = true := decide_eq_true (by omega)
theorem rngP_nat (n : Nat) : rngP 0 (n : Int) = (List.range' 0 n).map fun k => PV.int (0 + (k : Nat)) := by
  unfold rngP
  rw [Int.sub_zero, Int.toNat_natCast, List.range_eq_range']
theorem evI_rng {a : CE} {env env' : Env} {i : Int} (e : ev a env = .ok (.int i, env')) (hr : rngOk i = true) : evI (.rng1 a) env = .ok (rngP 0 i, env') := by
  rw [q_evI_rng1, e, R.bind_ok]
  simp only [hr, if_true]
theorem evI_rng2 {a b : CE} {env env' env2 : Env} {i j : Int} (e : ev a env = .ok (.int i, env')) (e2 : ev b env' = .ok (.int j, env2)) (hr : rngOk i = true) (hr2 : rngOk j = true) : evI (.rng2 a b) env = .ok (rngP i j, env2) := by
  rw [q_evI_rng2, e, R.bind_ok, e2, R.bind_ok]
  simp only [hr, hr2, Bool.and_self, if_true]
theorem sq4 {d : Nat} {A B : PV} {xs ys : List PV} {r : Bool} (a4 : ∀ i : Int, idxP A (.int i) = (atI xs i).map frz) (b3 : bltP .len [B] = some (.int ys.length)) (b4 : ∀ i : Int, idxP B (.int i) = (atI ys i).map frz)
    (hl : xs.length = ys.length) (hb : ys.length < 4611686018427387904) (h : allO (sameF d) xs ys = some r) : ∃ u, ex (sFor d) [some A, some B, none] = .ok (if r then .nxt else .ret (.bl false), [some A, some B, u]) := by
  obtain ⟨u', e⟩ := lp_all a4 b4 hl ys.length 0 none r (by omega) h
  have e0 : ev (.blt .len (.cons (.var 1) .nil)) [some A, some B, none] = .ok (.int ys.length, [some A, some B, none]) := by
    simp [asA, slot, getA, getAs, b3]
  refine ⟨u', ?_⟩
  unfold sFor
  rw [q_ex_for, evI_rng e0 (rng_ok hb), rngP_nat, R.bind_ok]
  exact e
theorem sq5 {d : Nat} {A B : PV} (a5 : isOwn A = false) (b5 : isOwn B = false) : freeA [A, B] (asgB (b_same d)) = true := by
  unfold freeA
  rw [List.all_eq_true]
  intro i hi
  match i with
  | 0 => simp [a5]
  | 1 => simp [b5]
  | i + 2 => simp
theorem sq6 {d : Nat} {en : Env} {u : Env} {r : Bool} (e1 : ev sC1 en = .ok (.bl true, en)) (e2 : ev sC2 en = .ok (.bl false, en)) (e3 : ev sC3 en = .ok (.bl false, en)) (e4 : ex (sFor d) en = .ok (if r then .nxt else .ret (.bl false), u)) :
    exs (b_same d) en = .ok (.ret (.bl r), u) := by
  unfold b_same
  rw [q_exs_cons, q_ex_ite, e1]
  cases r <;> simp [e2, e3, e4]
theorem sq7 {d : Nat} {en : Env} (e1 : ev sC1 en = .ok (.bl true, en)) (e2 : ev sC2 en = .ok (.bl false, en)) (e3 : ev sC3 en = .ok (.bl true, en)) :
    exs (b_same d) en = .ok (.ret (.bl false), en) := by
  unfold b_same
  rw [q_exs_cons, q_ex_ite, e1]
  simp [e2, e3]
theorem sq8 {d : Nat} {A B : PV} {u : Option PV} {r : Bool} (a5 : isOwn A = false) (b5 : isOwn B = false) (h : exs (b_same d) [some A, some B, none] = .ok (.ret (.bl r), [some A, some B, u])) : run (c_same d) [A, B] = .ok (.bl r, [A, B]) := by
  unfold c_same
  rw [run_mk, if_pos ⟨rfl, by decide, sq5 a5 b5⟩]
  have e : (exs (b_same d) (List.map some [A, B] ++ List.replicate (["a", "b", "k"].length - 2) none)) = .ok (.ret (.bl r), [some A, some B, u]) := h
  rw [e]
  simp [outs, a5, b5]
theorem run_seq {d : Nat} {A B : PV} {xs ys : List PV} {t r : Bool} (a1 : bltP (.isi "tuple") [A] = some (.bl t)) (a2 : bltP (.isi "list") [A] = some (.bl (!t))) (a3 : bltP .len [A] = some (.int xs.length)) (a4 : ∀ i : Int, idxP A (.int i) = (atI xs i).map frz) (a5 : isOwn A = false)
    (b1 : bltP (.isi "tuple") [B] = some (.bl t)) (b2 : bltP (.isi "list") [B] = some (.bl (!t))) (b3 : bltP .len [B] = some (.int ys.length)) (b4 : ∀ i : Int, idxP B (.int i) = (atI ys i).map frz) (b5 : isOwn B = false)
    (h : (if xs.length = ys.length then (if ys.length < 4611686018427387904 then allO (sameF d) xs ys else none) else some false) = some r) : run (c_same d) [A, B] = .ok (.bl r, [A, B]) := by
  have e1 := sq1 (A := A) b1 b2
  have e2 := sq2 a1 a2 b1 b2
  have e3 := sq3 a3 b3
  by_cases hl : xs.length = ys.length
  · rw [if_pos hl] at h
    have e3 : ev sC3 [some A, some B, none] = .ok (.bl false, [some A, some B, none]) := by rw [e3, decide_eq_true hl]; rfl
    by_cases hb : ys.length < 4611686018427387904
    · rw [if_pos hb] at h
      obtain ⟨u, e4⟩ := sq4 a4 b3 b4 hl hb h
      exact sq8 a5 b5 (sq6 e1 e2 e3 e4)
    · rw [if_neg hb] at h; cases h
  · rw [if_neg hl] at h
    cases h
    have e3 : ev sC3 [some A, some B, none] = .ok (.bl true, [some A, some B, none]) := by rw [e3, decide_eq_false hl]; rfl
    exact sq8 a5 b5 (sq7 e1 e2 e3)
/-- no table against a table -/
theorem run_mis {d : Nat} {A B : PV} {t : Bool} (b1 : bltP (.isi "tuple") [B] = some (.bl t)) (b2 : bltP (.isi "list") [B] = some (.bl (!t))) (b5 : isOwn B = false) (a5 : isOwn A = false) {u v : Bool}
    (a1 : bltP (.isi "tuple") [A] = some (.bl u)) (a2 : bltP (.isi "list") [A] = some (.bl v)) (h : (if t then u else v) = false) : run (c_same d) [A, B] = .ok (.bl false, [A, B]) := by
  have e1 := sq1 (A := A) b1 b2
  have e2 : ev sC2 [some A, some B, none] = .ok (.bl true, [some A, some B, none]) := by
    cases t <;> simp at h <;> subst h <;> simp [sC2, asA, slot, getA, getAs, b1, b2, a1, a2]
  refine sq8 (u := none) a5 b5 ?_
  unfold b_same
  rw [q_exs_cons, q_ex_ite, e1]
  simp [e2]
theorem isT_tup (xs : List PV) : bltP (.isi "tuple") [.tup xs] = some (.bl true) ∧ bltP (.isi "list") [.tup xs] = some (.bl (!true)) := ⟨rfl, rfl⟩
theorem run_shp {d : Nat} {A B : PV} {r : Bool} (sa : Shp A) (sb : Shp B) (h : sameF (d + 1) A B = some r) : run (c_same d) [A, B] = .ok (.bl r, [A, B]) := by
  cases hB : seqP B with
  | none =>
    unfold sameF at h
    rw [hB] at h
    exact run_atom sa hB sb h
  | some q =>
    obtain ⟨t, ys⟩ := q
    have fB : bltP (.isi "tuple") [B] = some (.bl t) ∧ bltP (.isi "list") [B] = some (.bl (!t)) ∧ bltP .len [B] = some (.int ys.length) ∧ (∀ i : Int, idxP B (.int i) = (atI ys i).map frz) ∧ isOwn B = false := by
      cases sb <;> cases hB <;> exact ⟨rfl, rfl, rfl, fun i => by first | rfl | (simp [idxP]; cases atI _ i <;> rfl), rfl⟩
    obtain ⟨b1, b2, b3, b4, b5⟩ := fB
    unfold sameF at h
    rw [hB] at h
    simp only at h
    cases hA : seqP A with
    | some q =>
      obtain ⟨u, xs⟩ := q
      have fA : bltP (.isi "tuple") [A] = some (.bl u) ∧ bltP (.isi "list") [A] = some (.bl (!u)) ∧ bltP .len [A] = some (.int xs.length) ∧ (∀ i : Int, idxP A (.int i) = (atI xs i).map frz) ∧ isOwn A = false := by
        cases sa <;> cases hA <;> exact ⟨rfl, rfl, rfl, fun i => by first | rfl | (simp [idxP]; cases atI _ i <;> rfl), rfl⟩
      obtain ⟨a1, a2, a3, a4, a5⟩ := fA
      rw [hA] at h
      simp only at h
      by_cases e : t = u
      · subst e
        rw [if_pos rfl] at h
        exact run_seq a1 a2 a3 a4 a5 b1 b2 b3 b4 b5 h
      · rw [if_neg e] at h
        cases h
        refine run_mis b1 b2 b5 a5 a1 a2 ?_
        cases t <;> cases u <;> first | rfl | exact absurd rfl e
    | none =>
      rw [hA] at h
      cases sa with
      | tup => cases hA
      | ktp => cases hA
      | frz => cases hA
      | ro => cases hA
      | dic => cases h
      | non => cases h; exact run_mis b1 b2 b5 rfl (u := false) (v := false) rfl rfl (by cases t <;> rfl)
      | bl => cases h; exact run_mis b1 b2 b5 rfl (u := false) (v := false) rfl rfl (by cases t <;> rfl)
      | int => cases h; exact run_mis b1 b2 b5 rfl (u := false) (v := false) rfl rfl (by cases t <;> rfl)
      | str => cases h; exact run_mis b1 b2 b5 rfl (u := false) (v := false) rfl rfl (by cases t <;> rfl)
theorem run_same {d : Nat} {a b : PV} {r : Bool} (h : sameF (d + 1) a b = some r) : run (c_same d) [frz a, frz b] = .ok (.bl r, [frz a, frz b]) :=
  run_shp (shp a) (shp b) (by rw [sameF_frz]; exact h)
/-! ### its promise -/
section
variable {P : Program} {w : World} {K : PySem.W.Frag} {mg : Str → Option Value} {base : Heap}
theorem RepBs.len : ∀ {ps : List PV} {vs : List V} {H : Hp} {S : AS}, RepBs K H S ps vs → ps.length = vs.length
  | _, _, _, _, .nil => rfl
  | _, _, _, _, .cons r t => by simp [RepBs.len t]
theorem Rd.ne {H : Hp} {a : Addr} {u : HO} (h : Rd H a u) : H a ≠ none := by
  rcases h with h | ⟨o, h⟩ <;> rw [h] <;> simp
theorem LsF.live {K : PySem.W.Frag} {H : Hp} {S : AS} {f : Fl} {a : Addr} {vs : List V} (h : LsF K H S f a vs) : LsF K H (fun a => H a ≠ none) f a vs := by
  unfold LsF at h ⊢
  split at h
  · rename_i e
    rw [if_pos e]; exact h
  · rename_i e
    rw [if_neg e]
    exact ⟨h.1, fun z => by rw [h.1] at z; cases z⟩
theorem DAt.ne {H : Hp} {d : DK} {a : Addr} {ks} (h : DAt H d a ks) : H a ≠ none := by
  cases d with
  | t => exact Rd.ne h
  | k => obtain ⟨kk, h1, h2⟩ := h; exact Rd.ne h1
mutual
theorem RepF.live {K : PySem.W.Frag} {H : Hp} {S : AS} : ∀ (p : PV) {v : V}, RepF K H S p v → RepF K H (fun a => H a ≠ none) p v
  | .non, _, h => h
  | .bl _, _, h => h
  | .int _, _, h => h
  | .str _, _, h => h
  | .tup xs, _, h => by
    obtain ⟨a, vs, e, h1, h2⟩ := h
    exact ⟨a, vs, e, h1, RepFs.live xs h2⟩
  | .ktp xs, _, h => by
    obtain ⟨a, vs, e, h1, h2⟩ := h
    exact ⟨a, vs, e, h1, RepFs.live xs h2⟩
  | .lst f xs, _, h => by
    obtain ⟨a, vs, e, h1, h2⟩ := h
    exact ⟨a, vs, e, h1.live, RepFs.live xs h2⟩
  | .dic f d kvs, _, h => by
    obtain ⟨a, vs, e, hs, h1, h2⟩ := h
    exact ⟨a, vs, e, h1.ne, h1, RepKs.live kvs h2⟩
theorem RepFs.live {K : PySem.W.Frag} {H : Hp} {S : AS} : ∀ (p : List PV) {v : List V}, RepFs K H S p v → RepFs K H (fun a => H a ≠ none) p v
  | [], _, h => h
  | x :: xs, _, h => by
    obtain ⟨v, ws, e, h1, h2⟩ := h
    exact ⟨v, ws, e, RepF.live x h1, RepFs.live xs h2⟩
theorem RepP.live {K : PySem.W.Frag} {H : Hp} {S : AS} : ∀ (p : List Key × PV) {v : List Key × V}, RepP K H S p v → RepP K H (fun a => H a ≠ none) p v
  | (_, p), _, h => ⟨h.1, RepF.live p h.2⟩
theorem RepKs.live {K : PySem.W.Frag} {H : Hp} {S : AS} : ∀ (p : List (List Key × PV)) {v : List (List Key × V)}, RepKs K H S p v → RepKs K H (fun a => H a ≠ none) p v
  | [], _, h => h
  | x :: xs, _, h => by
    obtain ⟨v, ws, e, h1, h2⟩ := h
    exact ⟨v, ws, e, RepP.live x h1, RepKs.live xs h2⟩
end
/-- whatever stands may be held to be stable -/
theorem RepO.live {K : PySem.W.Frag} {H : Hp} {S f : AS} {p : PV} {v : V} (h : RepO K H S p v f) : RepF K H (fun a => H a ≠ none) (frz p) v :=
  RepF.live _ (h.freeze (S' := fun a => S a ∨ f a) (fun a x => .inl x) fun a x => .inr x)
theorem prSd_two {d : Nat} {ps : List PV} {r : PV} (h : prSd d ps = some r) : ∃ a b c, ps = [a, b] ∧ sameF d a b = some c ∧ r = .bl c := by
  match ps, h with
  | [a, b], h =>
    unfold prSd at h
    obtain ⟨c, h1, h2⟩ := Option.map_eq_some_iff.mp h
    exact ⟨a, b, c, rfl, h1, h2.symm⟩
theorem sp_same {d : Nat} : ∀ vs H Q E, spPr K (prSd (d + 1)) vs H Q E → spOf K (c_same d) vs H Q E := by
  intro vs H Q E ⟨S, ps, r, rb, e, q⟩
  obtain ⟨a, b, c, rfl, hc, rfl⟩ := prSd_two e
  cases rb with
  | cons r1 rb =>
    cases rb with
    | cons r2 rb =>
      cases rb
      rename_i u f1 v f2
      refine ⟨[frz a, frz b], fun a => H a ≠ none, Emp, .bl c, [frz a, frz b], ⟨?_, fun a x y => y.elim, fun a x => x.elim, fun a x => x⟩, run_same hc, fun w H' S' F' f po => ?_⟩
      · exact ⟨u, [some v], Emp, Emp, rfl, fun a x => x, fun a x => x, fun a x => x.elim, RepO.of_frz (isOwn_frz _) r1.live, v, [], Emp, Emp, rfl, fun a x => x, fun a x => x, fun a x => x.elim, RepO.of_frz (isOwn_frz _) r2.live, rfl⟩
      · cases (show w = .bl c from po.r)
        exact q _ H' Emp ⟨(New.bl c).r, fun a x => x.elim, fun a x => x.elim, fun b o e => po.st.fr b o e id⟩
/-- _law_same, for every depth -/
theorem lk_same {st : Stmt} {fa : Addr} {fd : FuncData} {B : List Str} (F : Fun K (Str.ofString "_law_same") (Str.ofString "_law_same") st fa fd) (hm : mg (Str.ofString "_law_same") = some (.ref fa)) (hb : Binds K fd [Str.ofString "a", Str.ofString "b"] [])
    (hc : chkF (c_same 0) st B = true) (hB : ∀ x ∈ B, mg x = none) : ∀ d, LkF P w K mg base d "_law_same" (spPr K (prSd d))
  | 0 => by
    refine ⟨fa, fd, [Str.ofString "a", Str.ofString "b"], ⟨fun vs H Q E h => ?_, fun A outer s H args us vs Q E hr e0 hbd r h => ?_⟩, hm, F.kp, hb⟩
    · obtain ⟨S, ps, r, _, e, _⟩ := h
      obtain ⟨a, b, c, _, h2, _⟩ := prSd_two e
      cases h2
    · obtain ⟨S, ps, r, _, e, _⟩ := h
      obtain ⟨a, b, c, _, h2, _⟩ := prSd_two e
      cases h2
  | d + 1 => by
    have ih := lk_same F hm hb hc hB d
    exact ⟨fa, fd, _, (ok_of (cf := c_same d) F hc hB ⟨ih, trivial⟩).imp (sp_same), hm, F.kp, hb⟩
end
end EL

set_option maxRecDepth 100000
set_option maxHeartbeats 4000000
/-! ELD: the laws' _law_deal, _law_take -/
namespace EL
open PySem PySem.Spec L2
/-! ### loops by an invariant -/
theorem loopF_inv {b : PV → Env → R (Flow × Env)} (I : Nat → Env → Prop) : ∀ {xs : List PV} {k : Nat} {env : Env}, (∀ i x en, xs[i]? = some x → I (k + i) en → ∃ en', b x en = .ok (.nxt, en') ∧ I (k + i + 1) en') → I k env → ∃ en', loopF b xs env = .ok (.nxt, en') ∧ I (k + xs.length) en'
  | [], k, env, _, h => ⟨env, rfl, h⟩
  | x :: xs, k, env, hs, h => by
    obtain ⟨e1, h1, h2⟩ := hs 0 x env rfl h
    obtain ⟨e2, h3, h4⟩ := loopF_inv (b := b) I (xs := xs) (k := k + 1) (env := e1) (fun i y en hy hi => by
      have := hs (i + 1) y en (by simpa using hy) (by rw [show k + (i + 1) = k + 1 + i by omega]; exact hi)
      rw [show k + (i + 1) + 1 = k + 1 + i + 1 by omega] at this
      exact this) h2
    refine ⟨e2, ?_, by rw [show k + (x :: xs).length = k + 1 + xs.length by simp; omega]; exact h4⟩
    unfold loopF
    rw [h1, R.bind_ok]
    exact h3
/-- .. or it returns -/
theorem loopF_ret {b : PV → Env → R (Flow × Env)} (I : Nat → Env → Prop) (Q : PV → Env → Prop) : ∀ {xs : List PV} {k : Nat} {env : Env}, (∀ i x en, xs[i]? = some x → I (k + i) en → ∃ fl en', b x en = .ok (fl, en') ∧ ((fl = .nxt ∧ I (k + i + 1) en') ∨ (∃ v, fl = .ret v ∧ Q v en'))) → I k env →
    ∃ fl en', loopF b xs env = .ok (fl, en') ∧ ((fl = .nxt ∧ I (k + xs.length) en') ∨ (∃ v, fl = .ret v ∧ Q v en'))
  | [], k, env, _, h => ⟨.nxt, env, rfl, .inl ⟨rfl, h⟩⟩
  | x :: xs, k, env, hs, h => by
    obtain ⟨fl, e1, h1, h2⟩ := hs 0 x env rfl h
    unfold loopF
    rw [h1, R.bind_ok]
    rcases h2 with ⟨rfl, h2⟩ | ⟨v, rfl, h2⟩
    · obtain ⟨fl, e2, h3, h4⟩ := loopF_ret (b := b) I Q (xs := xs) (k := k + 1) (env := e1) (fun i y en hy hi => by
        have := hs (i + 1) y en (by simpa using hy) (by rw [show k + (i + 1) = k + 1 + i by omega]; exact hi)
        rw [show k + (i + 1) + 1 = k + 1 + i + 1 by omega] at this
        exact this) h2
      refine ⟨fl, e2, h3, ?_⟩
      rw [show k + (x :: xs).length = k + 1 + xs.length by simp; omega]
      exact h4
    · exact ⟨_, e1, rfl, .inr ⟨v, rfl, h2⟩⟩
theorem rngP_get {n i : Nat} {x : PV} (h : (rngP 0 (n : Int))[i]? = some x) : i < n ∧ x = .int (i : Nat) := by
  unfold rngP at h
  rw [List.getElem?_map, Int.sub_zero, Int.toNat_natCast] at h
  by_cases hi : i < n
  · rw [List.getElem?_range hi] at h
    cases h
    exact ⟨hi, by simp⟩
  · rw [List.getElem?_eq_none (by simpa using hi)] at h
    cases h
theorem rngP_len (n : Nat) : (rngP 0 (n : Int)).length = n := by simp [rngP]
theorem intsP_map' : ∀ (ns : List Int), intsP (ns.map .int) = some ns
  | [] => rfl
  | n :: ns => by
    show (intsP (ns.map .int)).map (n :: ·) = _
    rw [intsP_map' ns]; rfl
theorem small_sz {n : Nat} (h : n ≤ 100000) : n < sizeLine := Nat.lt_of_le_of_lt h (by decide)
theorem atI_ints {ns : List Int} {i : Nat} (h : i < ns.length) : atI (ns.map PV.int) (i : Int) = some (.int ns[i]) := by
  refine atI_nat ?_
  rw [List.getElem?_map, List.getElem?_eq_getElem h]; rfl
theorem atI_ints' {ns : List Int} {i : Nat} {v : Int} (h : ns[i]? = some v) : atI (ns.map PV.int) (i : Int) = some (.int v) := by
  refine atI_nat ?_
  rw [List.getElem?_map, h]; rfl
@[simp] theorem isOwn_non : isOwn .non = false := rfl
@[simp] theorem isOwn_bl (b) : isOwn (.bl b) = false := rfl
@[simp] theorem isOwn_int (b) : isOwn (.int b) = false := rfl
@[simp] theorem isOwn_str (b) : isOwn (.str b) = false := rfl
@[simp] theorem isOwn_tup (b) : isOwn (.tup b) = false := rfl
@[simp] theorem isOwn_ktp (b) : isOwn (.ktp b) = false := rfl
@[simp] theorem isOwn_lfrz (b) : isOwn (.lst .frz b) = false := rfl
@[simp] theorem isOwn_lro (b) : isOwn (.lst .ro b) = false := rfl
@[simp] theorem isOwn_lown (b) : isOwn (.lst .own b) = true := rfl
@[simp] theorem isOwn_ldeep (b) : isOwn (.lst .deep b) = true := rfl
@[simp] theorem isOwn_down (d b) : isOwn (.dic .own d b) = true := rfl
@[simp] theorem isOwn_dfrz (d b) : isOwn (.dic .frz d b) = false := rfl
@[simp] theorem sLen_of {n : Nat} (h : n ≤ 100000 := by decide) : sLen n = true := decide_eq_true (Nat.le_of_lt (small_sz h))
theorem sz1 : 1 ≤ sizeLine := Nat.le_of_lt (small_sz (by decide))
theorem sz2 : 2 ≤ sizeLine := Nat.le_of_lt (small_sz (by decide))
theorem sz3 : 3 ≤ sizeLine := Nat.le_of_lt (small_sz (by decide))
/-! ### the deal -/
structure Deal where
  row : List Int
  at_ : Nat
  tot : Int
namespace Deal
def pv (d : Deal) : PV := .lst .deep [.lst .frz (d.row.map .int), .lst .own [.int (d.at_ : Nat)], .int d.tot]
def nx (d : Deal) : Deal := { d with at_ := d.at_ + 1 }
def tk (d : Deal) (many : Int) : Int := match d.row[d.at_]? with
  | some v => v.fmod many
  | none => (((d.at_ * 7919 + d.tot * 31) + d.at_ * d.at_ * 17).fdiv 3 : Int).fmod many
@[simp] theorem own (d : Deal) : isOwn d.pv = true := rfl
@[simp] theorem at_nx (d : Deal) : d.nx.at_ = d.at_ + 1 := rfl
theorem tk_nn (d : Deal) {m : Int} (h : 0 < m) : 0 ≤ d.tk m := by
  unfold tk
  split <;> exact Int.fmod_nonneg_of_pos _ h
theorem tk_lt (d : Deal) {m : Int} (h : 0 < m) : d.tk m < m := by
  unfold tk
  split <;> exact Int.fmod_lt_of_pos _ h
end Deal
def tkB1 : CE := .cmp .lt (.var 2) (.blt .len (.cons (.idx (.var 0) (.lit (.int 0))) .nil))
def tkR1 : CE := .bin .mod (.idx (.idx (.var 0) (.lit (.int 0))) (.var 2)) (.var 1)
def tkR2 : CE := .bin .mod (.bin .fdiv (.bin .add (.bin .add (.bin .mul (.var 2) (.lit (.int 7919))) (.bin .mul (.idx (.var 0) (.lit (.int 2))) (.lit (.int 31)))) (.bin .mul (.bin .mul (.var 2) (.var 2)) (.lit (.int 17)))) (.lit (.int 3))) (.var 1)
def c__law_take : CF := .mk 2 ["deal", "many", "at"] (.cons (.asg (.var 2) (.idx2 0 (.lit 1) (.lit 0))) (.cons (.sti2 0 (.lit 1) (.lit 0) (.bin .add (.var 2) (.lit (.int 1)))) (.cons (.ite tkB1 (.cons (.ret (.yes tkR1)) .nil) .nil) (.cons (.ret (.yes tkR2)) .nil))))
theorem ltI_int (i j : Int) : ltI (.int i) (.int j) = some (decide (i < j)) := by
  simp [ltI, toD, PyData.depth, ltD]
theorem small_nat {n : Nat} (h : n < 18446744073709551616) : small (n : Int) = true := decide_eq_true (by omega)
theorem tk1 (d : Deal) {m : Option PV} {x : Option PV} : ex (.asg (.var 2) (.idx2 0 (.lit 1) (.lit 0))) [some d.pv, m, x] = .ok (.nxt, [some d.pv, m, some (.int (d.at_ : Nat))]) := by
  simp [slot, Deal.pv, evK, atI, ixN, setT]
theorem tk2 (d : Deal) {m : Option PV} : ex (.sti2 0 (.lit 1) (.lit 0) (.bin .add (.var 2) (.lit (.int 1)))) [some d.pv, m, some (.int (d.at_ : Nat))] = .ok (.nxt, [some d.nx.pv, m, some (.int (d.at_ : Nat))]) := by
  simp [slot, Deal.pv, Deal.nx, evK, ixN, setIx, asA, getA, binP]
theorem tk3 (d : Deal) {m : Option PV} {k : Nat} : ev tkB1 [some d.pv, m, some (.int (k : Nat))] = .ok (.bl (decide (k < d.row.length)), [some d.pv, m, some (.int (k : Nat))]) := by
  have e : idxP (.lst .deep [.lst .frz (d.row.map .int), .lst .own [.int (d.at_ : Nat)], .int d.tot]) (.int 0) = some (.lst .frz (d.row.map .int)) := rfl
  simp [tkB1, slot, Deal.pv, asA, getA, getAs, e, bltP, cmpP, ltI_int]
theorem tk4 (d : Deal) {m : Int} {k : Nat} (h : k < d.row.length) (hm : m ≠ 0) : ev tkR1 [some d.pv, some (.int m), some (.int (k : Nat))] = .ok (.int (d.row[k].fmod m), [some d.pv, some (.int m), some (.int (k : Nat))]) := by
  have e : idxP (.lst .deep [.lst .frz (d.row.map .int), .lst .own [.int (d.at_ : Nat)], .int d.tot]) (.int 0) = some (.lst .frz (d.row.map .int)) := rfl
  have e2 : idxP (.lst .frz (d.row.map .int)) (.int (k : Nat)) = some (.int d.row[k]) := by
    simp [idxP, atI_ints h]
  simp [tkR1, slot, Deal.pv, asA, getA, e, e2, rdS, binP, hm]
theorem tk5 (d : Deal) {m : Int} {k : Nat} (hm : m ≠ 0) (hk : k < 1000000) : ev tkR2 [some d.pv, some (.int m), some (.int (k : Nat))] = .ok (.int ((((k * 7919 + d.tot * 31) + k * k * 17).fdiv 3 : Int).fmod m), [some d.pv, some (.int m), some (.int (k : Nat))]) := by
  have sm : small (k : Int) = true := small_nat (by omega)
  have m1 : mulOk (k : Int) 7919 = true := by unfold mulOk; rw [sm]; rfl
  have m2 : mulOk d.tot 31 = true := by unfold mulOk; rw [show small 31 = true from rfl]; cases small d.tot <;> rfl
  have m3 : mulOk (k : Int) k = true := by unfold mulOk; rw [sm]; rfl
  have m4 : mulOk ((k : Int) * k) 17 = true := by unfold mulOk; rw [show small 17 = true from rfl]; cases small ((k : Int) * k) <;> rfl
  have d3 : divOk 3 = true := by decide
  have e : idxP (.lst .deep [.lst .frz (d.row.map .int), .lst .own [.int (d.at_ : Nat)], .int d.tot]) (.int 2) = some (.int d.tot) := rfl
  simp [tkR2, slot, Deal.pv, asA, getA, e, binP, hm, m1, m2, m3, m4, d3]
theorem run_take (d : Deal) {m : Int} (ha : d.at_ < 1000000) (hm : 0 < m) : run c__law_take [d.pv, .int m] = .ok (.int (d.tk m), [d.nx.pv, .int m]) := by
  have hm0 : m ≠ 0 := by omega
  have ho : ∀ x, outs [some d.nx.pv, some (.int m), x] [d.pv, .int m] 0 = some [d.nx.pv, .int m] := fun x => by
    simp [outs, slot]
  unfold c__law_take
  rw [run_mk, if_pos ⟨rfl, by decide, by simp [freeA, asgB, asgS, asgT]⟩]
  have key : exs (.cons (.asg (.var 2) (.idx2 0 (.lit 1) (.lit 0))) (.cons (.sti2 0 (.lit 1) (.lit 0) (.bin .add (.var 2) (.lit (.int 1)))) (.cons (.ite tkB1 (.cons (.ret (.yes tkR1)) .nil) .nil) (.cons (.ret (.yes tkR2)) .nil)))) [some d.pv, some (.int m), none] = .ok (.ret (.int (d.tk m)), [some d.nx.pv, some (.int m), some (.int (d.at_ : Nat))]) := by
    rw [q_exs_cons, tk1, R.bind_ok]
    simp only
    rw [q_exs_cons, tk2, R.bind_ok]
    simp only
    have e3 := tk3 d.nx (m := some (.int m)) (k := d.at_)
    by_cases h : d.at_ < d.row.length
    · have e4 := tk4 d.nx (m := m) (k := d.at_) h hm0
      have et : d.tk m = (d.nx.row[d.at_]'h).fmod m := by show d.tk m = d.row[d.at_].fmod m; unfold Deal.tk; rw [List.getElem?_eq_getElem h]
      rw [et]
      have h' : d.at_ < d.nx.row.length := h
      simp [e3, h', e4]
    · have e5 := tk5 d.nx (m := m) (k := d.at_) hm0 ha
      have et : d.tk m = (((d.at_ * 7919 + d.nx.tot * 31) + d.at_ * d.at_ * 17).fdiv 3 : Int).fmod m := by unfold Deal.tk; rw [List.getElem?_eq_none (by omega)]; rfl
      rw [et]
      have h' : ¬ d.at_ < d.nx.row.length := h
      simp [e3, h', e5]
  have key2 : exs (.cons (.asg (.var 2) (.idx2 0 (.lit 1) (.lit 0))) (.cons (.sti2 0 (.lit 1) (.lit 0) (.bin .add (.var 2) (.lit (.int 1)))) (.cons (.ite tkB1 (.cons (.ret (.yes tkR1)) .nil) .nil) (.cons (.ret (.yes tkR2)) .nil)))) (List.map some [d.pv, PV.int m] ++ List.replicate (["deal", "many", "at"].length - 2) none) = .ok (.ret (.int (d.tk m)), [some d.nx.pv, some (.int m), some (.int (d.at_ : Nat))]) := key
  rw [key2, R.bind_ok]
  simp only
  rw [ho]
  rfl
/-! ### _law_deal -/
def dC1 : CSs := (.cons (.ite (.cmp .gt (.var 3) (.lit (.int 0))) (.cons (.app 1 (.bin .mod (.var 3) (.lit (.int 1009)))) (.cons (.asg (.var 3) (.bin .fdiv (.var 3) (.lit (.int 1009)))) .nil)) .nil) .nil)
def dC2 : CSs := (.cons (.asg (.var 3) (.bin .mod (.bin .add (.bin .add (.bin .mul (.var 3) (.lit (.int 16807))) (.lit (.int 12345))) (.var 4)) (.lit (.int 2147483647)))) (.cons (.app 1 (.bin .mod (.bin .fdiv (.var 3) (.lit (.int 7))) (.lit (.int 1009)))) .nil))
def dA1 : CS := .asg (.var 3) (.blt .abs (.cons (.blt .int (.cons (.idx (.var 0) (.var 2)) .nil)) .nil))
def dT : CE := .cmp .ge (.var 3) (.bin .pow (.lit (.int 10)) (.lit (.int 18)))
def dA2 : CS := .asg (.var 3) (.bin .add (.bin .add (.bin .mul (.bin .mod (.var 3) (.lit (.int 2147483629))) (.lit (.int 48271))) (.bin .mul (.var 2) (.lit (.int 69621)))) (.lit (.int 11)))
def dBody : CSs := .cons dA1 (.cons (.ite dT (.cons (.for_ (.var 4) (.rng1 (.lit (.int 40))) dC1) .nil) (.cons dA2 (.cons (.for_ (.var 4) (.rng1 (.lit (.int 5))) dC2) .nil))) .nil)
def dTot : CE := .bin .add (.blt .sum (.cons (.var 1) .nil)) (.blt .len (.cons (.var 0) .nil))
def dLen : CE := .blt .min2 (.cons (.blt .len (.cons (.var 0) .nil)) (.cons (.lit (.int 63)) .nil))
def c__law_deal : CF := .mk 1 ["script", "row", "k", "cell", "turn", "total"] (.cons (.asg (.var 1) (.lst false .nil)) (.cons (.for_ (.var 2) (.rng1 dLen) dBody) (.cons (.asg (.var 5) dTot) (.cons (.ret (.yes (.lst true (.cons (.var 1) (.cons (.lst false (.cons (.lit (.int 0)) .nil)) (.cons (.var 5) .nil)))))) .nil))))
theorem divOk_nat {n : Nat} (h : 0 < n) (h2 : n.log2 < 9000) : divOk (n : Int) = true := by
  unfold divOk
  rw [Bool.and_eq_true]
  exact ⟨decide_eq_true (by omega), decide_eq_true (by simpa using h2)⟩
abbrev dEn (S : PV) (row : List Int) (k : Option PV) (c : Int) (t : Option PV) : Env := [some S, some (.lst .own (row.map .int)), k, some (.int c), t, none]
theorem app_ints {row : List Int} {v : Int} : (row.map PV.int) ++ [PV.int v] = (row ++ [v]).map PV.int := by simp
theorem dl1 {S : PV} {row : List Int} {k : Option PV} {c : Int} {t : Option PV} {x : PV} (hl : row.length < 100000) : ∃ row' c', forB (.var 4) dC1 x (dEn S row k c t) = .ok (.nxt, dEn S row' k c' (some x)) ∧ row'.length ≤ row.length + 1 := by
  have d : divOk 1009 = true := by decide
  have z : decide ((row.map PV.int).length < sizeLine) = true := decide_eq_true (by rw [List.length_map]; exact small_sz (by omega))
  by_cases h : 0 < c
  · refine ⟨row ++ [c.fmod 1009], c.fdiv 1009, ?_, by simp⟩
    simp [forB, setT, dC1, asA, slot, getA, cmpP, ltI_int, h, ownL, binP, d, small_sz (show row.length ≤ 100000 by omega)]
  · refine ⟨row, c, ?_, by omega⟩
    simp [forB, setT, dC1, asA, slot, getA, cmpP, ltI_int, h]
theorem dl2 {S : PV} {row : List Int} {k : Option PV} {c : Int} {t : Option PV} {j : Int} (hl : row.length < 100000) : ∃ row' c', forB (.var 4) dC2 (.int j) (dEn S row k c t) = .ok (.nxt, dEn S row' k c' (some (.int j))) ∧ row'.length ≤ row.length + 1 := by
  have d : divOk 7 = true := by decide
  have m1 : mulOk c 16807 = true := by unfold mulOk; rw [show small 16807 = true from rfl]; cases small c <;> rfl
  refine ⟨row ++ [(((c * 16807 + 12345 + j).fmod 2147483647).fdiv 7).fmod 1009], (c * 16807 + 12345 + j).fmod 2147483647, ?_, by simp⟩
  simp [forB, setT, dC2, asA, slot, getA, ownL, binP, d, m1, small_sz (show row.length ≤ 100000 by omega)]
theorem dl3 {S : PV} {row : List Int} {k : Option PV} {c : Int} {t : Option PV} {B : CSs} {n : Nat} {m : Int} (hm : (n : Int) = m) (hn : n < 4611686018427387904) (hB : ∀ (row : List Int) (c : Int) (t : Option PV) (j : Nat), row.length < 100000 → ∃ row' c' t', forB (.var 4) B (.int j) (dEn S row k c t) = .ok (.nxt, dEn S row' k c' t') ∧ row'.length ≤ row.length + 1)
    (hl : row.length + n < 100000) : ∃ row' c' t', ex (.for_ (.var 4) (.rng1 (.lit (.int m))) B) (dEn S row k c t) = .ok (.nxt, dEn S row' k c' t') ∧ row'.length ≤ row.length + n := by
  subst hm
  obtain ⟨en, h1, row', c', t', h2, h3⟩ := loopF_inv (b := forB (.var 4) B) (fun i en => ∃ row' c' t', en = dEn S row' k c' t' ∧ row'.length ≤ row.length + i) (xs := rngP 0 (n : Int)) (k := 0) (env := dEn S row k c t)
    (fun i x en hx ⟨row1, c1, t1, e, hl1⟩ => by
      obtain ⟨hi, rfl⟩ := rngP_get hx
      subst e
      obtain ⟨row2, c2, t2, h1, h2⟩ := hB row1 c1 t1 i (by omega)
      exact ⟨_, h1, row2, c2, t2, rfl, by omega⟩) ⟨row, c, t, rfl, by omega⟩
  rw [rngP_len] at h3
  refine ⟨row', c', t', ?_, by omega⟩
  have e0 : ev (.lit (.int (n : Int))) (dEn S row k c t) = .ok (.int (n : Int), dEn S row k c t) := q_ev_lit
  rw [q_ex_for, evI_rng e0 (rng_ok hn), R.bind_ok]
  simp only
  rw [h1, h2]
theorem dl4 {ns : List Int} {row : List Int} {x2 x3 t : Option PV} {i : Nat} (hi : i < ns.length) (hl : row.length + 40 < 100000) : ∃ row' c' t', forB (.var 2) dBody (.int i) [some (.lst .ro (ns.map .int)), some (.lst .own (row.map .int)), x2, x3, t, none] = .ok (.nxt, dEn (.lst .ro (ns.map .int)) row' (some (.int i)) c' t') ∧ row'.length ≤ row.length + 40 := by
  have e : idxP (.lst .ro (ns.map .int)) (.int (i : Nat)) = some (.int ns[i]) := by simp [idxP, atI_ints hi]
  have h1 : ex dA1 [some (.lst .ro (ns.map .int)), some (.lst .own (row.map .int)), some (.int i), x3, t, none] = .ok (.nxt, dEn (.lst .ro (ns.map .int)) row (some (.int i)) (if ns[i] < 0 then -ns[i] else ns[i]) t) := by
    simp [dA1, asA, slot, getA, getAs, rdS, e, bltP, setT]
  generalize (if ns[i] < 0 then -ns[i] else ns[i]) = c at h1
  have h2 : ev dT (dEn (.lst .ro (ns.map .int)) row (some (.int i)) c t) = .ok (.bl (decide ((10 : Int) ^ 18 ≤ c)), dEn (.lst .ro (ns.map .int)) row (some (.int i)) c t) := by
    have p : powOk 10 18 = true := by decide
    simp [dT, asA, slot, getA, cmpP, binP, p]
  have h0 : forB (.var 2) dBody (.int i) [some (.lst .ro (ns.map .int)), some (.lst .own (row.map .int)), x2, x3, t, none] = exs dBody [some (.lst .ro (ns.map .int)), some (.lst .own (row.map .int)), some (.int i), x3, t, none] := by
    simp [forB, setT]
  rw [h0]
  unfold dBody
  rw [q_exs_cons, h1, R.bind_ok]
  simp only
  rw [q_exs_cons, q_ex_ite, h2, R.bind_ok]
  by_cases hc : (10 : Int) ^ 18 ≤ c
  · rw [decide_eq_true hc]
    simp only
    obtain ⟨row', c', t', h3, h4⟩ := dl3 (S := .lst .ro (ns.map .int)) (k := some (.int i)) (row := row) (c := c) (t := t) (B := dC1) (n := 40) (m := 40) rfl (by decide) (fun row c t j hl => by
      obtain ⟨row', c', h1, h2⟩ := dl1 (S := .lst .ro (ns.map .int)) (k := some (.int i)) (c := c) (t := t) (x := .int j) hl
      exact ⟨row', c', _, h1, h2⟩) hl
    refine ⟨row', c', t', ?_, h4⟩
    rw [q_exs_cons, h3]
    simp
  · rw [decide_eq_false hc]
    simp only
    have m1 : mulOk (c.fmod 2147483629) 48271 = true := by unfold mulOk; rw [show small 48271 = true from rfl]; cases small (c.fmod 2147483629) <;> rfl
    have m2 : mulOk (i : Int) 69621 = true := by unfold mulOk; rw [show small 69621 = true from rfl]; cases small (i : Int) <;> rfl
    have h5 : ex dA2 (dEn (.lst .ro (ns.map .int)) row (some (.int i)) c t) = .ok (.nxt, dEn (.lst .ro (ns.map .int)) row (some (.int i)) (c.fmod 2147483629 * 48271 + i * 69621 + 11) t) := by
      simp [dA2, asA, slot, getA, binP, m1, m2, setT]
    obtain ⟨row', c', t', h3, h4⟩ := dl3 (S := .lst .ro (ns.map .int)) (k := some (.int i)) (row := row) (c := c.fmod 2147483629 * 48271 + i * 69621 + 11) (t := t) (B := dC2) (n := 5) (m := 5) rfl (by decide) (fun row c t j hl => by
      obtain ⟨row', c', h1, h2⟩ := dl2 (S := .lst .ro (ns.map .int)) (k := some (.int i)) (c := c) (t := t) (j := j) hl
      exact ⟨row', c', _, h1, h2⟩) (by omega)
    refine ⟨row', c', t', ?_, by omega⟩
    rw [q_exs_cons, h5, R.bind_ok]
    simp only
    rw [q_exs_cons, h3]
    simp
theorem run_deal {ns : List Int} (hl : ns.length ≤ 63) : ∃ d : Deal, d.at_ = 0 ∧ run c__law_deal [.lst .ro (ns.map .int)] = .ok (d.pv, [.lst .ro (ns.map .int)]) := by
  have h0 : ex (.asg (.var 1) (.lst false .nil)) [some (.lst .ro (ns.map .int)), none, none, none, none, none] = .ok (.nxt, [some (.lst .ro (ns.map .int)), some (.lst .own []), none, none, none, none]) := by
    simp [setT, sLen]
  have h1 : ev dLen [some (.lst .ro (ns.map .int)), some (.lst .own []), none, none, none, none] = .ok (.int ns.length, [some (.lst .ro (ns.map .int)), some (.lst .own []), none, none, none, none]) := by
    simp [dLen, asA, slot, getA, getAs, bltP]
    omega
  obtain ⟨en, h2, row, x2, x3, t, e, h3⟩ := loopF_inv (b := forB (.var 2) dBody) (fun i en => ∃ (row : List Int) (x2 x3 t : Option PV), en = [some (.lst .ro (ns.map .int)), some (.lst .own (row.map .int)), x2, x3, t, none] ∧ row.length ≤ 40 * i) (xs := rngP 0 (ns.length : Int)) (k := 0)
    (env := [some (.lst .ro (ns.map .int)), some (.lst .own []), none, none, none, none]) (fun i x en hx ⟨row, x2, x3, t, e, hr⟩ => by
      obtain ⟨hi, rfl⟩ := rngP_get hx
      subst e
      obtain ⟨row', c', t', h1, h2⟩ := dl4 (x2 := x2) (x3 := x3) (t := t) (row := row) hi (by omega)
      exact ⟨_, h1, row', _, _, _, rfl, by omega⟩) ⟨[], none, none, none, rfl, by simp⟩
  subst e
  have h4 : ex (.asg (.var 5) dTot) [some (.lst .ro (ns.map .int)), some (.lst .own (row.map .int)), x2, x3, t, none] = .ok (.nxt, [some (.lst .ro (ns.map .int)), some (.lst .own (row.map .int)), x2, x3, t, some (.int (row.sum + ns.length))]) := by
    simp [dTot, asA, slot, getA, getAs, bltP, intsP_map', binP, setT]
  refine ⟨⟨row, 0, row.sum + ns.length⟩, rfl, ?_⟩
  unfold c__law_deal
  rw [run_mk, if_pos ⟨rfl, by decide, by simp [freeA, asgB, asgS, asgT, dBody, dA1, dA2, dC1, dC2]⟩]
  have h5 : ex (.for_ (.var 2) (.rng1 dLen) dBody) [some (.lst .ro (ns.map .int)), some (.lst .own []), none, none, none, none] = .ok (.nxt, [some (.lst .ro (ns.map .int)), some (.lst .own (row.map .int)), x2, x3, t, none]) := by
    rw [q_ex_for, evI_rng h1 (rng_ok (by omega)), R.bind_ok]
    exact h2
  have key : exs (.cons (.asg (.var 1) (.lst false .nil)) (.cons (.for_ (.var 2) (.rng1 dLen) dBody) (.cons (.asg (.var 5) dTot) (.cons (.ret (.yes (.lst true (.cons (.var 1) (.cons (.lst false (.cons (.lit (.int 0)) .nil)) (.cons (.var 5) .nil)))))) .nil)))) [some (.lst .ro (ns.map .int)), none, none, none, none, none] =
      .ok (.ret (Deal.pv ⟨row, 0, row.sum + ns.length⟩), [some (.lst .ro (ns.map .int)), some (.lst .frz (row.map .int)), x2, x3, t, some (.int (row.sum + ns.length))]) := by
    rw [q_exs_cons, h0, R.bind_ok]
    simp only
    rw [q_exs_cons, h5, R.bind_ok]
    simp only
    rw [q_exs_cons, h4, R.bind_ok]
    simp [rdS, slot, sLen, frz1, Deal.pv, sz1, sz3]
  have key2 : exs (.cons (.asg (.var 1) (.lst false .nil)) (.cons (.for_ (.var 2) (.rng1 dLen) dBody) (.cons (.asg (.var 5) dTot) (.cons (.ret (.yes (.lst true (.cons (.var 1) (.cons (.lst false (.cons (.lit (.int 0)) .nil)) (.cons (.var 5) .nil)))))) .nil)))) (List.map some [PV.lst .ro (ns.map .int)] ++ List.replicate (["script", "row", "k", "cell", "turn", "total"].length - 1) none) =
      .ok (.ret (Deal.pv ⟨row, 0, row.sum + ns.length⟩), [some (.lst .ro (ns.map .int)), some (.lst .frz (row.map .int)), x2, x3, t, some (.int (row.sum + ns.length))]) := key
  rw [key2, R.bind_ok]
  simp [outs]
/-! ### values: one-step facts -/
@[simp] theorem slot0 {x0 : Option PV} {r : Env} : slot (x0 :: r) 0 = x0 := by cases x0 <;> rfl
@[simp] theorem slot1 {x0 x1 : Option PV} {r : Env} : slot (x0 :: x1 :: r) 1 = x1 := by cases x1 <;> rfl
@[simp] theorem slot2 {x0 x1 x2 : Option PV} {r : Env} : slot (x0 :: x1 :: x2 :: r) 2 = x2 := by cases x2 <;> rfl
@[simp] theorem slot3 {x0 x1 x2 x3 : Option PV} {r : Env} : slot (x0 :: x1 :: x2 :: x3 :: r) 3 = x3 := by cases x3 <;> rfl
@[simp] theorem slot4 {x0 x1 x2 x3 x4 : Option PV} {r : Env} : slot (x0 :: x1 :: x2 :: x3 :: x4 :: r) 4 = x4 := by cases x4 <;> rfl
@[simp] theorem slot5 {x0 x1 x2 x3 x4 x5 : Option PV} {r : Env} : slot (x0 :: x1 :: x2 :: x3 :: x4 :: x5 :: r) 5 = x5 := by cases x5 <;> rfl
@[simp] theorem slot6 {x0 x1 x2 x3 x4 x5 x6 : Option PV} {r : Env} : slot (x0 :: x1 :: x2 :: x3 :: x4 :: x5 :: x6 :: r) 6 = x6 := by cases x6 <;> rfl
@[simp] theorem slot7 {x0 x1 x2 x3 x4 x5 x6 x7 : Option PV} {r : Env} : slot (x0 :: x1 :: x2 :: x3 :: x4 :: x5 :: x6 :: x7 :: r) 7 = x7 := by cases x7 <;> rfl
@[simp] theorem slot8 {x0 x1 x2 x3 x4 x5 x6 x7 x8 : Option PV} {r : Env} : slot (x0 :: x1 :: x2 :: x3 :: x4 :: x5 :: x6 :: x7 :: x8 :: r) 8 = x8 := by cases x8 <;> rfl
@[simp] theorem slot9 {x0 x1 x2 x3 x4 x5 x6 x7 x8 x9 : Option PV} {r : Env} : slot (x0 :: x1 :: x2 :: x3 :: x4 :: x5 :: x6 :: x7 :: x8 :: x9 :: r) 9 = x9 := by cases x9 <;> rfl
@[simp] theorem slot10 {x0 x1 x2 x3 x4 x5 x6 x7 x8 x9 x10 : Option PV} {r : Env} : slot (x0 :: x1 :: x2 :: x3 :: x4 :: x5 :: x6 :: x7 :: x8 :: x9 :: x10 :: r) 10 = x10 := by cases x10 <;> rfl
@[simp] theorem slot11 {x0 x1 x2 x3 x4 x5 x6 x7 x8 x9 x10 x11 : Option PV} {r : Env} : slot (x0 :: x1 :: x2 :: x3 :: x4 :: x5 :: x6 :: x7 :: x8 :: x9 :: x10 :: x11 :: r) 11 = x11 := by cases x11 <;> rfl
@[simp] theorem slot12 {x0 x1 x2 x3 x4 x5 x6 x7 x8 x9 x10 x11 x12 : Option PV} {r : Env} : slot (x0 :: x1 :: x2 :: x3 :: x4 :: x5 :: x6 :: x7 :: x8 :: x9 :: x10 :: x11 :: x12 :: r) 12 = x12 := by cases x12 <;> rfl
@[simp] theorem slot13 {x0 x1 x2 x3 x4 x5 x6 x7 x8 x9 x10 x11 x12 x13 : Option PV} {r : Env} : slot (x0 :: x1 :: x2 :: x3 :: x4 :: x5 :: x6 :: x7 :: x8 :: x9 :: x10 :: x11 :: x12 :: x13 :: r) 13 = x13 := by cases x13 <;> rfl
@[simp] theorem slot14 {x0 x1 x2 x3 x4 x5 x6 x7 x8 x9 x10 x11 x12 x13 x14 : Option PV} {r : Env} : slot (x0 :: x1 :: x2 :: x3 :: x4 :: x5 :: x6 :: x7 :: x8 :: x9 :: x10 :: x11 :: x12 :: x13 :: x14 :: r) 14 = x14 := by cases x14 <;> rfl
@[simp] theorem slot15 {x0 x1 x2 x3 x4 x5 x6 x7 x8 x9 x10 x11 x12 x13 x14 x15 : Option PV} {r : Env} : slot (x0 :: x1 :: x2 :: x3 :: x4 :: x5 :: x6 :: x7 :: x8 :: x9 :: x10 :: x11 :: x12 :: x13 :: x14 :: x15 :: r) 15 = x15 := by cases x15 <;> rfl
@[simp] theorem slot16 {x0 x1 x2 x3 x4 x5 x6 x7 x8 x9 x10 x11 x12 x13 x14 x15 x16 : Option PV} {r : Env} : slot (x0 :: x1 :: x2 :: x3 :: x4 :: x5 :: x6 :: x7 :: x8 :: x9 :: x10 :: x11 :: x12 :: x13 :: x14 :: x15 :: x16 :: r) 16 = x16 := by cases x16 <;> rfl
@[simp] theorem slot17 {x0 x1 x2 x3 x4 x5 x6 x7 x8 x9 x10 x11 x12 x13 x14 x15 x16 x17 : Option PV} {r : Env} : slot (x0 :: x1 :: x2 :: x3 :: x4 :: x5 :: x6 :: x7 :: x8 :: x9 :: x10 :: x11 :: x12 :: x13 :: x14 :: x15 :: x16 :: x17 :: r) 17 = x17 := by cases x17 <;> rfl
@[simp] theorem slot18 {x0 x1 x2 x3 x4 x5 x6 x7 x8 x9 x10 x11 x12 x13 x14 x15 x16 x17 x18 : Option PV} {r : Env} : slot (x0 :: x1 :: x2 :: x3 :: x4 :: x5 :: x6 :: x7 :: x8 :: x9 :: x10 :: x11 :: x12 :: x13 :: x14 :: x15 :: x16 :: x17 :: x18 :: r) 18 = x18 := by cases x18 <;> rfl
@[simp] theorem slot19 {x0 x1 x2 x3 x4 x5 x6 x7 x8 x9 x10 x11 x12 x13 x14 x15 x16 x17 x18 x19 : Option PV} {r : Env} : slot (x0 :: x1 :: x2 :: x3 :: x4 :: x5 :: x6 :: x7 :: x8 :: x9 :: x10 :: x11 :: x12 :: x13 :: x14 :: x15 :: x16 :: x17 :: x18 :: x19 :: r) 19 = x19 := by cases x19 <;> rfl
@[simp] theorem v_add (i j : Int) : binP .add (.int i) (.int j) = some (.int (i + j)) := rfl
@[simp] theorem v_sub (i j : Int) : binP .sub (.int i) (.int j) = some (.int (i - j)) := rfl
@[simp] theorem v_mul (i j : Int) : binP .mul (.int i) (.int j) = if mulOk i j then some (.int (i * j)) else none := rfl
@[simp] theorem v_mod (i j : Int) : binP .mod (.int i) (.int j) = if decide (j ≠ 0) then some (.int (i.fmod j)) else none := rfl
@[simp] theorem v_fdiv (i j : Int) : binP .fdiv (.int i) (.int j) = if divOk j then some (.int (i.fdiv j)) else none := rfl
@[simp] theorem v_pow (i j : Int) : binP .pow (.int i) (.int j) = if powOk i j then some (.int (i ^ j.toNat)) else none := rfl
@[simp] theorem v_addS (x y : Str) : binP .add (.str x) (.str y) = if sLen (x.length + y.length) then some (.str (x ++ y)) else none := rfl
@[simp] theorem v_lt (i j : Int) : cmpP .lt (.int i) (.int j) = some (decide (i < j)) := ltI_int i j
@[simp] theorem v_gt (i j : Int) : cmpP .gt (.int i) (.int j) = some (decide (j < i)) := ltI_int j i
@[simp] theorem v_le (i j : Int) : cmpP .le (.int i) (.int j) = some (decide (i ≤ j)) := rfl
@[simp] theorem v_ge (i j : Int) : cmpP .ge (.int i) (.int j) = some (decide (j ≤ i)) := rfl
@[simp] theorem v_eq (i j : Int) : cmpP .eq (.int i) (.int j) = some (decide (i = j)) := eqP_int i j
@[simp] theorem v_ne (i j : Int) : cmpP .ne (.int i) (.int j) = some (!decide (i = j)) := by simp [cmpP, eqP_int]
@[simp] theorem v_eqS (i j : Str) : cmpP .eq (.str i) (.str j) = some (decide (i = j)) := eqP_str i j
@[simp] theorem v_neS (i j : Str) : cmpP .ne (.str i) (.str j) = some (!decide (i = j)) := by simp [cmpP, eqP_str]
@[simp] theorem v_eqB (i j : Bool) : cmpP .eq (.bl i) (.bl j) = some (decide (i = j)) := eqP_bl i j
@[simp] theorem v_isN (v : PV) : cmpP .is v .non = some (match v with | .non => true | _ => false) := by cases v <;> rfl
@[simp] theorem v_isnN (v : PV) : cmpP .isNot v .non = some (match v with | .non => false | _ => true) := by cases v <;> rfl
@[simp] theorem v_abs (i : Int) : bltP .abs [.int i] = some (.int (if i < 0 then -i else i)) := rfl
@[simp] theorem v_int (i : Int) : bltP .int [.int i] = some (.int i) := rfl
@[simp] theorem v_min2 (i j : Int) : bltP .min2 [.int i, .int j] = some (.int (if j < i then j else i)) := rfl
@[simp] theorem v_max2 (i j : Int) : bltP .max2 [.int i, .int j] = some (.int (if j > i then j else i)) := rfl
@[simp] theorem v_lenL (f xs) : bltP .len [.lst f xs] = some (.int (xs.length : Nat)) := rfl
@[simp] theorem v_lenT (xs) : bltP .len [.tup xs] = some (.int (xs.length : Nat)) := rfl
@[simp] theorem v_lenK (xs) : bltP .len [.ktp xs] = some (.int (xs.length : Nat)) := rfl
@[simp] theorem v_lenS (z) : bltP .len [.str z] = if sLen z.length then some (.int (z.length : Nat)) else none := rfl
@[simp] theorem v_ixT (xs : List PV) (i : Int) : idxP (.tup xs) (.int i) = (atI xs i).map frz := rfl
@[simp] theorem v_ixK (xs : List PV) (i : Int) : idxP (.ktp xs) (.int i) = (atI xs i).map frz := rfl
@[simp] theorem v_ixF (xs : List PV) (i : Int) : idxP (.lst .frz xs) (.int i) = (atI xs i).map frz := by simp [idxP]; cases atI xs i <;> rfl
@[simp] theorem v_ixO (xs : List PV) (i : Int) : idxP (.lst .own xs) (.int i) = (atI xs i).map frz := by simp [idxP]; cases atI xs i <;> rfl
@[simp] theorem v_ixR (xs : List PV) (i : Int) : idxP (.lst .ro xs) (.int i) = (atI xs i).map frz := by simp [idxP]; cases atI xs i <;> rfl
@[simp] theorem at0 (x : PV) (xs : List PV) : atI (x :: xs) 0 = some x := atI_nat (j := 0) rfl
@[simp] theorem at1 (x y : PV) (xs : List PV) : atI (x :: y :: xs) 1 = some y := atI_nat (j := 1) rfl
@[simp] theorem at2 (x y z : PV) (xs : List PV) : atI (x :: y :: z :: xs) 2 = some z := atI_nat (j := 2) rfl
theorem mul_l {i j : Int} (h : small i = true) : mulOk i j = true := by unfold mulOk; rw [h]; rfl
theorem mul_r {i j : Int} (h : small j = true) : mulOk i j = true := by unfold mulOk; rw [h]; cases small i <;> rfl
/-- a call of _law_take on a slot -/
theorem ev_take {env : Env} {i : Nat} {d : Deal} {m : Int} (hs : slot env i = some d.pv) (ha : d.at_ < 1000000) (hm : 0 < m) :
    ev (.call "_law_take" c__law_take (.cons (.var i) (.cons (.lit (.int m)) .nil))) env = .ok (.int (d.tk m), env.set i (some d.nx.pv)) := by
  have hl : i < env.length := slot_len hs
  simp [asA, hs, lend, run_take d ha hm, back]
theorem take0 {r : Env} {d : Deal} {m : Int} (ha : d.at_ < 1000000) (hm : 0 < m) : ev (.call "_law_take" c__law_take (.cons (.var 0) (.cons (.lit (.int m)) .nil))) (some d.pv :: r) = .ok (.int (d.tk m), some d.nx.pv :: r) := ev_take (d := d) rfl ha hm
theorem take1 {x : Option PV} {r : Env} {d : Deal} {m : Int} (ha : d.at_ < 1000000) (hm : 0 < m) : ev (.call "_law_take" c__law_take (.cons (.var 1) (.cons (.lit (.int m)) .nil))) (x :: some d.pv :: r) = .ok (.int (d.tk m), x :: some d.nx.pv :: r) := ev_take (d := d) rfl ha hm
end EL

set_option maxRecDepth 100000
set_option maxHeartbeats 4000000
/-! ELF: loops, comprehensions, pieces of signs -/
namespace EL
open PySem PySem.Spec L2
theorem exs_step {s : CS} {r : CSs} {env env' : Env} (h : ex s env = .ok (.nxt, env')) : exs (.cons s r) env = exs r env' := by
  rw [q_exs_cons, h, R.bind_ok]
theorem exs_ret {s : CS} {r : CSs} {env env' : Env} {v : PV} (h : ex s env = .ok (.ret v, env')) : exs (.cons s r) env = .ok (.ret v, env') := by
  rw [q_exs_cons, h, R.bind_ok]
theorem run_ok {ps : Nat} {ns : List String} {b : CSs} {vs os : List PV} {en : Env} {v : PV} (h1 : vs.length = ps) (h2 : ps ≤ ns.length) (h3 : freeA vs (asgB b) = true)
    (he : exs b (vs.map some ++ List.replicate (ns.length - ps) none) = .ok (.ret v, en)) (ho : outs en vs 0 = some os) : run (.mk ps ns b) vs = .ok (v, os) := by
  rw [run_mk, if_pos ⟨h1, h2, h3⟩, he, R.bind_ok]
  simp only
  rw [ho]
  rfl
@[simp] theorem szl_1 : 1 ≤ sizeLine := Nat.le_of_lt (small_sz (by decide))
@[simp] theorem szl_2 : 2 ≤ sizeLine := Nat.le_of_lt (small_sz (by decide))
@[simp] theorem szl_3 : 3 ≤ sizeLine := Nat.le_of_lt (small_sz (by decide))
@[simp] theorem szl_4 : 4 ≤ sizeLine := Nat.le_of_lt (small_sz (by decide))
@[simp] theorem szl_5 : 5 ≤ sizeLine := Nat.le_of_lt (small_sz (by decide))
@[simp] theorem szl_6 : 6 ≤ sizeLine := Nat.le_of_lt (small_sz (by decide))
@[simp] theorem szl_7 : 7 ≤ sizeLine := Nat.le_of_lt (small_sz (by decide))
@[simp] theorem szl_8 : 8 ≤ sizeLine := Nat.le_of_lt (small_sz (by decide))
@[simp] theorem szl_9 : 9 ≤ sizeLine := Nat.le_of_lt (small_sz (by decide))
@[simp] theorem szl_10 : 10 ≤ sizeLine := Nat.le_of_lt (small_sz (by decide))
@[simp] theorem szl_11 : 11 ≤ sizeLine := Nat.le_of_lt (small_sz (by decide))
@[simp] theorem szl_12 : 12 ≤ sizeLine := Nat.le_of_lt (small_sz (by decide))
@[simp] theorem szl_13 : 13 ≤ sizeLine := Nat.le_of_lt (small_sz (by decide))
@[simp] theorem szl_14 : 14 ≤ sizeLine := Nat.le_of_lt (small_sz (by decide))
@[simp] theorem szl_15 : 15 ≤ sizeLine := Nat.le_of_lt (small_sz (by decide))
@[simp] theorem szl_16 : 16 ≤ sizeLine := Nat.le_of_lt (small_sz (by decide))
@[simp] theorem szl_17 : 17 ≤ sizeLine := Nat.le_of_lt (small_sz (by decide))
@[simp] theorem szl_18 : 18 ≤ sizeLine := Nat.le_of_lt (small_sz (by decide))
@[simp] theorem szl_19 : 19 ≤ sizeLine := Nat.le_of_lt (small_sz (by decide))
@[simp] theorem szl_20 : 20 ≤ sizeLine := Nat.le_of_lt (small_sz (by decide))
@[simp] theorem szl_21 : 21 ≤ sizeLine := Nat.le_of_lt (small_sz (by decide))
@[simp] theorem szl_22 : 22 ≤ sizeLine := Nat.le_of_lt (small_sz (by decide))
@[simp] theorem szl_23 : 23 ≤ sizeLine := Nat.le_of_lt (small_sz (by decide))
@[simp] theorem szl_24 : 24 ≤ sizeLine := Nat.le_of_lt (small_sz (by decide))
@[simp] theorem szl_25 : 25 ≤ sizeLine := Nat.le_of_lt (small_sz (by decide))
@[simp] theorem szl_26 : 26 ≤ sizeLine := Nat.le_of_lt (small_sz (by decide))
@[simp] theorem szl_27 : 27 ≤ sizeLine := Nat.le_of_lt (small_sz (by decide))
@[simp] theorem szl_28 : 28 ≤ sizeLine := Nat.le_of_lt (small_sz (by decide))
@[simp] theorem szl_29 : 29 ≤ sizeLine := Nat.le_of_lt (small_sz (by decide))
@[simp] theorem szl_30 : 30 ≤ sizeLine := Nat.le_of_lt (small_sz (by decide))
@[simp] theorem szl_31 : 31 ≤ sizeLine := Nat.le_of_lt (small_sz (by decide))
@[simp] theorem szl_32 : 32 ≤ sizeLine := Nat.le_of_lt (small_sz (by decide))
@[simp] theorem szl_33 : 33 ≤ sizeLine := Nat.le_of_lt (small_sz (by decide))
@[simp] theorem szl_34 : 34 ≤ sizeLine := Nat.le_of_lt (small_sz (by decide))
@[simp] theorem szl_35 : 35 ≤ sizeLine := Nat.le_of_lt (small_sz (by decide))
@[simp] theorem szl_36 : 36 ≤ sizeLine := Nat.le_of_lt (small_sz (by decide))
@[simp] theorem szl_37 : 37 ≤ sizeLine := Nat.le_of_lt (small_sz (by decide))
@[simp] theorem szl_38 : 38 ≤ sizeLine := Nat.le_of_lt (small_sz (by decide))
@[simp] theorem szl_39 : 39 ≤ sizeLine := Nat.le_of_lt (small_sz (by decide))
@[simp] theorem szl_40 : 40 ≤ sizeLine := Nat.le_of_lt (small_sz (by decide))
@[simp] theorem szl_0 : 0 < sizeLine := small_sz (by decide)
/-! ### a loop that looks for a failure -/
theorem loopF_scan {b : PV → Env → R (Flow × Env)} (I : Nat → Env → Prop) (J : Env → Prop) (v : PV) (p : Nat → Bool) : ∀ {xs : List PV} {k : Nat} {env : Env},
    (∀ i x en, xs[i]? = some x → I (k + i) en → (∀ j, k ≤ j → j < k + i → p j = true) → if p (k + i) = true then (∃ en', b x en = .ok (.nxt, en') ∧ I (k + i + 1) en') else (∃ en', b x en = .ok (.ret v, en') ∧ J en')) → I k env →
    ((∀ i, i < xs.length → p (k + i) = true) ∧ ∃ en', loopF b xs env = .ok (.nxt, en') ∧ I (k + xs.length) en') ∨ ((∃ i, i < xs.length ∧ p (k + i) = false) ∧ ∃ en', loopF b xs env = .ok (.ret v, en') ∧ J en')
  | [], k, env, _, h => .inl ⟨fun i hi => absurd hi (by simp), env, rfl, h⟩
  | x :: xs, k, env, hs, h => by
    have h0 := hs 0 x env rfl h (fun j h1 h2 => by omega)
    cases hp : p k with
    | false =>
      rw [Nat.add_zero, hp, if_neg (by decide)] at h0
      obtain ⟨e1, h1, h2⟩ := h0
      refine .inr ⟨⟨0, by simp, by simpa using hp⟩, e1, ?_, h2⟩
      unfold loopF
      rw [h1, R.bind_ok]
    | true =>
      rw [Nat.add_zero, hp, if_pos rfl] at h0
      obtain ⟨e1, h1, h2⟩ := h0
      have := loopF_scan I J v p (b := b) (xs := xs) (k := k + 1) (env := e1) (fun i y en hy hi hj => by
        have := hs (i + 1) y en (by simpa using hy) (by rw [show k + (i + 1) = k + 1 + i by omega]; exact hi) (fun j h1 h2 => by
          by_cases hjk : j = k
          · subst hjk; exact hp
          · exact hj j (by omega) (by omega))
        rw [show k + (i + 1) = k + 1 + i by omega] at this
        exact this) h2
      rcases this with ⟨ha, e2, h3, h4⟩ | ⟨⟨i, hi, hf⟩, e2, h3, h4⟩
      · refine .inl ⟨fun i hi => ?_, e2, ?_, ?_⟩
        · cases i with
          | zero => simpa using hp
          | succ i =>
            rw [show k + (i + 1) = k + 1 + i by omega]
            exact ha i (by simpa using hi)
        · unfold loopF
          rw [h1, R.bind_ok]
          exact h3
        · rw [show k + (x :: xs).length = k + 1 + xs.length by simp; omega]
          exact h4
      · refine .inr ⟨⟨i + 1, by simpa using hi, by rw [show k + (i + 1) = k + 1 + i by omega]; exact hf⟩, e2, ?_, h4⟩
        unfold loopF
        rw [h1, R.bind_ok]
        exact h3
/-- a loop over range(n) that looks for a failure; what it says -/
theorem loop_scanR {b : PV → Env → R (Flow × Env)} {n : Nat} (I : Nat → Env → Prop) (J : Env → Prop) (v : PV) (p : Nat → Bool) {env : Env}
    (hs : ∀ i en, i < n → I i en → (∀ j, j < i → p j = true) → if p i = true then (∃ en', b (.int (i : Nat)) en = .ok (.nxt, en') ∧ I (i + 1) en') else (∃ en', b (.int (i : Nat)) en = .ok (.ret v, en') ∧ J en')) (h0 : I 0 env) :
    ((∀ i, i < n → p i = true) ∧ ∃ en', loopF b (rngP 0 (n : Int)) env = .ok (.nxt, en') ∧ I n en') ∨ ((∃ i, i < n ∧ p i = false) ∧ ∃ en', loopF b (rngP 0 (n : Int)) env = .ok (.ret v, en') ∧ J en') := by
  have := loopF_scan I J v p (b := b) (xs := rngP 0 (n : Int)) (k := 0) (env := env) (fun i x en hx hi hj => by
    obtain ⟨hn, rfl⟩ := rngP_get hx
    rw [Nat.zero_add] at hi ⊢
    exact hs i en hn hi (fun j h => hj j (by omega) (by omega))) h0
  rw [rngP_len] at this
  simpa only [Nat.zero_add] using this
/-- a loop over range(n) -/
theorem loop_rng {b : PV → Env → R (Flow × Env)} {n : Nat} (I : Nat → Env → Prop) {env : Env}
    (hs : ∀ i en, i < n → I i en → ∃ en', b (.int (i : Nat)) en = .ok (.nxt, en') ∧ I (i + 1) en') (h0 : I 0 env) : ∃ en', loopF b (rngP 0 (n : Int)) env = .ok (.nxt, en') ∧ I n en' := by
  have := loopF_inv (b := b) I (xs := rngP 0 (n : Int)) (k := 0) (env := env) (fun i x en hx hi => by
    obtain ⟨hn, rfl⟩ := rngP_get hx
    rw [Nat.zero_add] at hi ⊢
    exact hs i en hn hi) h0
  rw [rngP_len, Nat.zero_add] at this
  exact this
/-- .. over range(a, b) -/
theorem rngP2_get {a b : Int} {i : Nat} {x : PV} (h : (rngP a b)[i]? = some x) : a + i < b ∧ x = .int (a + (i : Nat)) := by
  unfold rngP at h
  rw [List.getElem?_map] at h
  by_cases hi : i < (b - a).toNat
  · rw [List.getElem?_range hi] at h
    cases h
    exact ⟨by omega, by simp⟩
  · rw [List.getElem?_eq_none (by simpa using hi)] at h
    cases h
theorem rngP2_len (a b : Int) : (rngP a b).length = (b - a).toNat := by simp [rngP]
/-- a loop over a typed list -/
theorem loop_list {α : Type} {emb : α → PV} {b : PV → Env → R (Flow × Env)} {xs : List α} (I : Nat → Env → Prop) {env : Env}
    (hs : ∀ i x en, xs[i]? = some x → I i en → ∃ en', b (emb x) en = .ok (.nxt, en') ∧ I (i + 1) en') (h0 : I 0 env) : ∃ en', loopF b (xs.map emb) env = .ok (.nxt, en') ∧ I xs.length en' := by
  have := loopF_inv (b := b) I (xs := xs.map emb) (k := 0) (env := env) (fun i x en hx hi => by
    rw [List.getElem?_map] at hx
    cases h : xs[i]? with
    | none => rw [h] at hx; cases hx
    | some y =>
      rw [h] at hx
      cases hx
      rw [Nat.zero_add] at hi ⊢
      exact hs i y en h hi) h0
  rw [List.length_map, Nat.zero_add] at this
  exact this
/-- .. that looks for a failure -/
theorem loop_scanL {α : Type} {emb : α → PV} {b : PV → Env → R (Flow × Env)} {xs : List α} (I : Nat → Env → Prop) (J : Env → Prop) (v : PV) (p : Nat → α → Bool) {env : Env}
    (hs : ∀ i x en, xs[i]? = some x → I i en → if p i x = true then (∃ en', b (emb x) en = .ok (.nxt, en') ∧ I (i + 1) en') else (∃ en', b (emb x) en = .ok (.ret v, en') ∧ J en')) (h0 : I 0 env) :
    ((∀ i x, xs[i]? = some x → p i x = true) ∧ ∃ en', loopF b (xs.map emb) env = .ok (.nxt, en') ∧ I xs.length en') ∨ ((∃ i x, xs[i]? = some x ∧ p i x = false) ∧ ∃ en', loopF b (xs.map emb) env = .ok (.ret v, en') ∧ J en') := by
  have := loopF_scan I J v (fun i => match xs[i]? with | some x => p i x | none => true) (b := b) (xs := xs.map emb) (k := 0) (env := env) (fun i x en hx hi _ => by
    rw [List.getElem?_map] at hx
    rw [Nat.zero_add] at hi ⊢
    cases h : xs[i]? with
    | none => rw [h] at hx; cases hx
    | some y =>
      rw [h] at hx
      cases hx
      exact hs i y en h hi) h0
  rw [List.length_map] at this
  simp only [Nat.zero_add] at this
  rcases this with ⟨h1, h2⟩ | ⟨⟨i, h1, h3⟩, h2⟩
  · refine .inl ⟨fun i x hx => ?_, h2⟩
    have h3 : i < xs.length := (List.getElem?_eq_some_iff.mp hx).1
    have := h1 i h3
    rw [hx] at this
    exact this
  · refine .inr ⟨⟨i, xs[i], List.getElem?_eq_getElem h1, ?_⟩, h2⟩
    rw [List.getElem?_eq_getElem h1] at h3
    exact h3
/-! ### comprehensions -/
theorem loopL_inv {b : PV → List PV → Env → R (List PV × Env)} (I : Nat → List PV → Env → Prop) : ∀ {xs : List PV} {k : Nat} {acc : List PV} {env : Env}, (∀ i x a en, xs[i]? = some x → I (k + i) a en → ∃ a' en', b x a en = .ok (a', en') ∧ I (k + i + 1) a' en') → I k acc env → ∃ a' en', loopL b xs acc env = .ok (a', en') ∧ I (k + xs.length) a' en'
  | [], k, acc, env, _, h => ⟨acc, env, rfl, h⟩
  | x :: xs, k, acc, env, hs, h => by
    obtain ⟨a1, e1, h1, h2⟩ := hs 0 x acc env rfl h
    obtain ⟨a2, e2, h3, h4⟩ := loopL_inv (b := b) I (xs := xs) (k := k + 1) (acc := a1) (env := e1) (fun i y a en hy hi => by
      have := hs (i + 1) y a en (by simpa using hy) (by rw [show k + (i + 1) = k + 1 + i by omega]; exact hi)
      rw [show k + (i + 1) + 1 = k + 1 + i + 1 by omega] at this
      exact this) h2
    refine ⟨a2, e2, ?_, by rw [show k + (x :: xs).length = k + 1 + xs.length by simp; omega]; exact h4⟩
    unfold loopL
    rw [h1, R.bind_ok]
    exact h3
/-- a comprehension that changes nothing, over a typed list -/
theorem ev_lcT {α : Type} {emb : α → PV} {xs : List α} {p : α → Bool} {g : α → PV} {dp : Bool} {vs : List Nat} {t : CT} {it : CI} {c : CO} {e : CE} {env0 env : Env} (hI : evI it env0 = .ok (xs.map emb, env)) (hw : wipeOk env vs (asgT t) = true) (hr : restE (wipeE env vs) env vs = env)
    (hl : xs.length < sizeLine) (hb : ∀ x ∈ xs, ∃ e1, setT t (emb x) (wipeE env vs) = some e1 ∧ evC c e1 = .ok (p x, e1) ∧ wipeE e1 vs = wipeE env vs ∧ (p x = true → ev e e1 = .ok (g x, e1))) :
    ev (.lc dp vs t it c e) env0 = .ok (.lst (if dp then .deep else .own) ((xs.filter p).map fun x => if dp then frz1 (g x) else frz (g x)), env) := by
  rw [q_ev_lc, hI, R.bind_ok]
  simp only
  rw [if_pos hw]
  obtain ⟨a', e', h1, rfl, rfl⟩ := loopL_inv (b := lcB dp vs t c e) (fun k a en => a = ((xs.take k).filter p).map (fun x => if dp then frz1 (g x) else frz (g x)) ∧ en = wipeE env vs) (xs := xs.map emb) (k := 0) (acc := []) (env := wipeE env vs) (fun i x a en hx hi => by
    obtain ⟨rfl, rfl⟩ := hi
    rw [List.getElem?_map] at hx
    cases h : xs[i]? with
    | none => rw [h] at hx; cases hx
    | some y =>
      rw [h] at hx
      cases hx
      have hi := (List.getElem?_eq_some_iff.mp h)
      obtain ⟨hi, hy⟩ := hi
      obtain ⟨e1, s1, s2, s3, s4⟩ := hb y (hy ▸ List.getElem_mem hi)
      have ht : xs.take (0 + i + 1) = xs.take (0 + i) ++ [y] := by
        rw [Nat.zero_add, List.take_succ, h]; rfl
      unfold lcB
      rw [s1]
      simp only
      rw [s2, R.bind_ok]
      cases hp : p y with
      | false =>
        refine ⟨_, _, rfl, ?_, s3⟩
        rw [ht, List.filter_append]
        simp [hp]
      | true =>
        simp only [if_true]
        rw [s4 hp, R.bind_ok]
        have hz : ((xs.take (0 + i)).filter p).length < sizeLine := by
          have h1 := List.length_filter_le p (xs.take (0 + i))
          have h2 : (xs.take (0 + i)).length ≤ xs.length := by rw [List.length_take]; omega
          omega
        refine ⟨_, _, if_pos (decide_eq_true (by rw [List.length_map]; exact hz)), ?_, s3⟩
        rw [ht, List.filter_append]
        simp [hp]) ⟨by simp, rfl⟩
  rw [h1, R.bind_ok]
  simp only
  rw [hr]
  simp only [Nat.zero_add, List.length_map, List.take_length]
  cases dp <;> rfl
/-- .. without a condition -/
theorem ev_lcM {α : Type} {emb : α → PV} {xs : List α} {g : α → PV} {vs : List Nat} {t : CT} {it : CI} {e : CE} {env0 env : Env} (hI : evI it env0 = .ok (xs.map emb, env)) (hw : wipeOk env vs (asgT t) = true) (hr : restE (wipeE env vs) env vs = env)
    (hl : xs.length < sizeLine) (hb : ∀ x ∈ xs, ∃ e1, setT t (emb x) (wipeE env vs) = some e1 ∧ wipeE e1 vs = wipeE env vs ∧ ev e e1 = .ok (g x, e1)) :
    ev (.lc false vs t it .no e) env0 = .ok (.lst .own (xs.map fun x => frz (g x)), env) := by
  have := ev_lcT (dp := false) (c := .no) (p := fun _ => true) hI hw hr hl (fun x hx => by
    obtain ⟨e1, h1, h2, h3⟩ := hb x hx
    exact ⟨e1, h1, q_evC_no, h2, fun _ => h3⟩)
  rw [this, List.filter_eq_self.mpr (fun _ _ => rfl)]
  rfl
/-! ### indices -/
theorem ixN_in {n : Nat} {i : Int} (h0 : 0 ≤ i) (h1 : i < n) : ixN n i = some i.toNat := by unfold ixN; rw [if_pos h0, if_pos h1]
theorem atI_in {α : Type} {xs : List α} {i : Int} (h0 : 0 ≤ i) (h1 : i < xs.length) : atI xs i = some (xs[i.toNat]'(by omega)) := by
  unfold atI
  rw [ixN_in h0 h1]
  exact List.getElem?_eq_getElem _
theorem atI_mp {α β : Type} {xs : List α} {g : α → β} {i : Int} : atI (xs.map g) i = (atI xs i).map g := by
  unfold atI
  rw [List.length_map]
  cases ixN xs.length i <;> simp
theorem atI_mapR {β : Type} {n : Nat} {g : Nat → β} {i : Int} (h0 : 0 ≤ i) (h1 : i < n) : atI ((List.range n).map g) i = some (g i.toNat) := by
  rw [atI_mp, atI_in h0 (by simpa using h1)]
  simp
theorem atI_last {α : Type} {xs : List α} (h : xs ≠ []) : atI xs (-1) = some (xs.getLast h) := by
  have hl : 0 < xs.length := List.length_pos_iff.mpr h
  unfold atI ixN
  rw [if_neg (by decide), if_pos (by omega)]
  show xs[(-1 + (xs.length : Int)).toNat]? = _
  rw [show (-1 + (xs.length : Int)).toNat = xs.length - 1 by omega, List.getLast_eq_getElem]
  exact List.getElem?_eq_getElem _
/-! ### pieces of signs -/
def ch (b : Bool) : Nat := if b then 120 else 46
def sg (b : Bool) : Str := ⟨#[ch b]⟩
theorem sg_x : Str.ofString "x" = sg true := by decide +kernel
theorem sg_o : Str.ofString "." = sg false := by decide +kernel
theorem sg_e : Str.ofString "" = ⟨#[]⟩ := by decide +kernel
@[simp] theorem sg_inj {a b : Bool} : sg a = sg b ↔ a = b := by
  cases a <;> cases b <;> decide
def rowT (C : Nat) (f : Nat → Bool) : Str := ⟨((List.range C).map fun c => ch (f c)).toArray⟩
@[simp] theorem rowT_len {C : Nat} {f : Nat → Bool} : (rowT C f).length = C := by simp [rowT, Str.length]
@[simp] theorem rowT_list {C : Nat} {f : Nat → Bool} : (rowT C f).cps.toList = (List.range C).map fun c => ch (f c) := rfl
def pcV (R C : Nat) (f : Nat → Nat → Bool) : PV := .tup ((List.range R).map fun r => .str (rowT C (f r)))
theorem pcV_congr {R C : Nat} {f g : Nat → Nat → Bool} (h : ∀ r c, r < R → c < C → f r c = g r c) : pcV R C f = pcV R C g := by
  unfold pcV rowT
  congr 1
  refine List.map_congr_left fun r hr => ?_
  congr 3
  refine List.map_congr_left fun c hc => ?_
  rw [h r c (List.mem_range.mp hr) (List.mem_range.mp hc)]
@[simp] theorem pcV_own {R C f} : isOwn (pcV R C f) = false := rfl
@[simp] theorem pcV_frz {R C f} : frz (pcV R C f) = pcV R C f := rfl
@[simp] theorem pcV_len {R C f} : bltP .len [pcV R C f] = some (.int (R : Nat)) := by
  unfold pcV
  rw [v_lenT]
  simp
theorem pcV_ix {R C : Nat} {f : Nat → Nat → Bool} {i : Int} (h0 : 0 ≤ i) (h1 : i < R) : idxP (pcV R C f) (.int i) = some (.str (rowT C (f i.toNat))) := by
  unfold pcV
  rw [v_ixT, atI_mapR h0 h1]
  rfl
theorem rowT_ix {C : Nat} {f : Nat → Bool} {i : Int} (hC : C ≤ 100000) (h0 : 0 ≤ i) (h1 : i < C) : idxP (.str (rowT C f)) (.int i) = some (.str (sg (f i.toNat))) := by
  show (if sLen (rowT C f).length then (atI (rowT C f).cps.toList i).map fun c => PV.str ⟨#[c]⟩ else none) = _
  rw [rowT_len, sLen_of hC, if_pos rfl, rowT_list, atI_mapR h0 h1]
  rfl
theorem rowT_blen {C : Nat} {f : Nat → Bool} (hC : C ≤ 100000) : bltP .len [.str (rowT C f)] = some (.int (C : Nat)) := by
  rw [v_lenS, rowT_len, sLen_of hC, if_pos rfl]
/-- a list of lists of signs -/
def gridV (R C : Nat) (f : Nat → Nat → Bool) : List PV := (List.range R).map fun r => .lst .own ((List.range C).map fun c => .str (sg (f r c)))
def upd2 (f : Nat → Nat → Bool) (r c : Nat) (b : Bool) : Nat → Nat → Bool := fun i j => if i = r ∧ j = c then b else f i j
theorem set_range {β : Type} {n : Nat} {g : Nat → β} {k : Nat} {v : β} : ((List.range n).map g).set k v = (List.range n).map fun i => if i = k then v else g i := by
  refine List.ext_getElem (by simp) fun i h1 h2 => ?_
  rw [List.getElem_set]
  simp only [List.getElem_map, List.getElem_range]
  by_cases h : k = i
  · subst h; simp
  · rw [if_neg h, if_neg (fun e => h e.symm)]
theorem gridV_set {R C : Nat} {f : Nat → Nat → Bool} {r c : Nat} {b : Bool} (hr : r < R) : (gridV R C f).set r (.lst .own (((List.range C).map fun c => .str (sg (f r c))).set c (.str (sg b)))) = gridV R C (upd2 f r c b) := by
  unfold gridV
  rw [set_range]
  refine List.map_congr_left fun i hi => ?_
  by_cases h : i = r
  · subst h
    rw [if_pos rfl, set_range]
    congr 1
    refine List.map_congr_left fun j hj => ?_
    unfold upd2
    by_cases h : j = c
    · subst h; simp
    · simp [h]
  · rw [if_neg h]
    congr 1
    refine List.map_congr_left fun j hj => ?_
    unfold upd2
    rw [if_neg (fun x => h x.1)]
theorem glued_ones : ∀ (l : List Nat) (a : Array Nat), (l.map fun c => (⟨#[c]⟩ : Str)).foldl (fun (acc : Array Nat) p => acc ++ (#[] : Array Nat) ++ p.cps) a = a ++ l.toArray
  | [], a => by simp
  | c :: l, a => by
    rw [List.map_cons, List.foldl_cons, glued_ones l]
    simp
theorem join_ones' (l : List Nat) : Txt.join (⟨#[]⟩ : Str) (l.map fun c => (⟨#[c]⟩ : Str)) = ⟨l.toArray⟩ := by
  unfold Txt.join Builtin.Str.glued
  cases l with
  | nil => rfl
  | cons c l =>
    simp only [List.map_cons, List.drop_succ_cons, List.drop_zero, List.headD_cons]
    rw [glued_ones]
    simp
theorem strsP_mp {α : Type} {g : α → Str} : ∀ l : List α, strsP (l.map fun a => PV.str (g a)) = some (l.map g)
  | [] => rfl
  | a :: l => by
    show (strsP (l.map fun a => PV.str (g a))).map (g a :: ·) = _
    rw [strsP_mp l]; rfl
theorem join_row {C : Nat} {f : Nat → Bool} {fl : Fl} (hC : C ≤ 100000) : mthP .join (.str ⟨#[]⟩) [.lst fl ((List.range C).map fun c => .str (sg (f c)))] = some (.str (rowT C f)) := by
  show (match strsP ((List.range C).map fun c => PV.str (sg (f c))) with
    | some ys => if decide ((ys.map fun z : Str => z.length).sum + (⟨#[]⟩ : Str).length * ys.length ≤ 16777216) then some (PV.str (Txt.join ⟨#[]⟩ ys)) else none
    | none => none) = _
  rw [strsP_mp]
  have e : ((List.range C).map fun c => sg (f c)) = (((List.range C).map fun c => ch (f c)).map fun c => (⟨#[c]⟩ : Str)) := by
    rw [List.map_map]; rfl
  have hs : ∀ l : List Nat, ((l.map fun c => sg (f c)).map fun z : Str => z.length).sum = l.length := fun l => by
    induction l with
    | nil => rfl
    | cons a l ih => rw [List.map_cons, List.map_cons, List.sum_cons, ih]; simp [sg, Str.length]; omega
  simp only
  rw [if_pos (decide_eq_true (by rw [hs]; simp [Str.length]; omega)), e, join_ones']
  rfl
end EL

set_option maxRecDepth 100000
set_option maxHeartbeats 4000000
/-! ELG: data with a Lean type -/
namespace EL
open PySem PySem.Spec L2 PySem.W
class Emb (α : Type) [DecidableEq α] [Datum α] where
  pv : α → PV
  pvD : ∀ a, EL.toD (pv a) = some (Datum.toD a)
  fz : ∀ a, frz (pv a) = pv a
  ow : ∀ a, isOwn (pv a) = false
  sd : Nat
  sm : ∀ d a b, sd < d → sameF d (pv a) (pv b) = some (decide (a = b))
abbrev pv {α : Type} [DecidableEq α] [Datum α] [Emb α] (a : α) : PV := Emb.pv a
instance : Emb Int where
  pv := .int
  pvD _ := rfl
  fz _ := rfl
  ow _ := rfl
  sd := 0
  sm d a b h := by
    cases d with
    | zero => omega
    | succ d => simp [sameF, seqP, sameB]
instance : Emb Bool where
  pv := .bl
  pvD _ := rfl
  fz _ := rfl
  ow _ := rfl
  sd := 0
  sm d a b h := by
    cases d with
    | zero => omega
    | succ d => simp [sameF, seqP, sameB]
instance : Emb Str where
  pv := .str
  pvD _ := rfl
  fz _ := rfl
  ow _ := rfl
  sd := 0
  sm d a b h := by
    cases d with
    | zero => omega
    | succ d => simp [sameF, seqP, sameB]
section
variable {α β : Type} [DecidableEq α] [Datum α] [Emb α] [DecidableEq β] [Datum β] [Emb β]
instance : Emb (α × β) where
  pv p := .tup [pv p.1, pv p.2]
  pvD p := by
    show (toDs [pv p.1, pv p.2]).map PyData.tuple = _
    simp [toDs, Emb.pvD]
    rfl
  fz _ := rfl
  ow _ := rfl
  sd := max (Emb.sd α) (Emb.sd β) + 1
  sm d a b h := by
    cases d with
    | zero => omega
    | succ d =>
      have h1 := Emb.sm d a.1 b.1 (by omega)
      have h2 := Emb.sm d a.2 b.2 (by omega)
      simp only [sameF, seqP, if_true, List.length_cons, List.length_nil, allO, h1, h2]
      rw [if_pos (by decide)]
      by_cases e1 : a.1 = b.1
      · by_cases e2 : a.2 = b.2
        · simp [e1, e2, Prod.ext_iff]
        · simp [e1, e2, Prod.ext_iff]
      · simp [e1, Prod.ext_iff]
theorem eqP_pv (a b : α) (hd : Datum.depth α ≤ 60 := by decide) : eqP (pv a) (pv b) = some (decide (a = b)) := by
  unfold eqP
  rw [Emb.pvD, Emb.pvD]
  simp only
  rw [if_pos (decide_eq_true (by have := Datum.depth_le a; omega)), Datum.eqv]
theorem v_eqE (a b : α) (hd : Datum.depth α ≤ 60 := by decide) : cmpP .eq (pv a) (pv b) = some (decide (a = b)) := eqP_pv a b hd
theorem v_neE (a b : α) (hd : Datum.depth α ≤ 60 := by decide) : cmpP .ne (pv a) (pv b) = some (!decide (a = b)) := by
  show (eqP (pv a) (pv b)).map _ = _
  rw [eqP_pv a b hd]; rfl
theorem toDs_pv : ∀ xs : List α, toDs (xs.map pv) = some (xs.map Datum.toD)
  | [] => rfl
  | x :: xs => by
    rw [List.map_cons, toDs, Emb.pvD, toDs_pv xs]; rfl
theorem eqP_lst (f g : Fl) (a b : List α) (hd : Datum.depth α ≤ 60 := by decide) : eqP (.lst f (a.map pv)) (.lst g (b.map pv)) = some (decide (a = b)) := by
  have e : ∀ (f : Fl) (a : List α), EL.toD (.lst f (a.map pv)) = some (Datum.toD a) := fun f a => by
    show (toDs (a.map pv)).map PyData.list = _
    rw [toDs_pv]; rfl
  unfold eqP
  rw [e, e]
  simp only
  have hl : Datum.depth (List α) = Datum.depth α + 1 := rfl
  rw [if_pos (decide_eq_true (by have := Datum.depth_le a; omega)), Datum.eqv]
theorem v_eqL (f g : Fl) (a b : List α) (hd : Datum.depth α ≤ 60 := by decide) : cmpP .eq (.lst f (a.map pv)) (.lst g (b.map pv)) = some (decide (a = b)) := eqP_lst f g a b hd
theorem v_neL (f g : Fl) (a b : List α) (hd : Datum.depth α ≤ 60 := by decide) : cmpP .ne (.lst f (a.map pv)) (.lst g (b.map pv)) = some (!decide (a = b)) := by
  show (eqP _ _).map _ = _
  rw [eqP_lst f g a b hd]; rfl
theorem anyEq_pv (x : α) (ys : List α) (hd : Datum.depth α ≤ 60 := by decide) : anyEq (pv x) (ys.map pv) = some (decide (x ∈ ys)) := by
  unfold anyEq
  rw [toDs_pv, Emb.pvD]
  simp only
  rw [if_pos (decide_eq_true (by have := Datum.depth_le x; omega))]
  congr 1
  rw [Bool.eq_iff_iff, decide_eq_true_eq, List.any_eq_true]
  constructor
  · rintro ⟨z, hz, he⟩
    obtain ⟨y, hy, rfl⟩ := List.mem_map.mp hz
    rw [Datum.eqv, decide_eq_true_eq] at he
    exact he ▸ hy
  · intro h
    exact ⟨_, List.mem_map_of_mem h, by rw [Datum.eqv]; exact decide_eq_true rfl⟩
theorem v_inL (f : Fl) (x : α) (ys : List α) (hd : Datum.depth α ≤ 60 := by decide) : cmpP .in_ (pv x) (.lst f (ys.map pv)) = some (decide (x ∈ ys)) := anyEq_pv x ys hd
theorem v_ninL (f : Fl) (x : α) (ys : List α) (hd : Datum.depth α ≤ 60 := by decide) : cmpP .notIn (pv x) (.lst f (ys.map pv)) = some (!decide (x ∈ ys)) := by
  show (inP (pv x) (.lst f (ys.map pv))).map _ = _
  rw [show inP (pv x) (.lst f (ys.map pv)) = anyEq (pv x) (ys.map pv) from rfl, anyEq_pv x ys hd]; rfl
theorem allO_pv (d : Nat) (h : Emb.sd α < d) : ∀ (xs ys : List α), xs.length = ys.length → allO (sameF d) (xs.map pv) (ys.map pv) = some (decide (xs = ys))
  | [], [], _ => rfl
  | [], _ :: _, e => by simp at e
  | _ :: _, [], e => by simp at e
  | x :: xs, y :: ys, e => by
    have ih := allO_pv d h xs ys (by simpa using e)
    simp only [List.map_cons, allO, Emb.sm d x y h, ih]
    by_cases e1 : x = y
    · simp [e1]
    · simp [e1]
theorem sameF_lst (d : Nat) (f g : Fl) (xs ys : List α) (h : Emb.sd α < d) (hl : ys.length < 4611686018427387904) : sameF (d + 1) (.lst f (xs.map pv)) (.lst g (ys.map pv)) = some (decide (xs = ys)) := by
  simp only [sameF, seqP, if_true, List.length_map]
  by_cases e : xs.length = ys.length
  · rw [if_pos e, if_pos hl, allO_pv d h xs ys e]
  · rw [if_neg e]
    congr 1
    exact (decide_eq_false (fun x => e (by rw [x]))).symm
theorem sameF_tup (d : Nat) (xs ys : List α) (h : Emb.sd α < d) (hl : ys.length < 4611686018427387904) : sameF (d + 1) (.tup (xs.map pv)) (.tup (ys.map pv)) = some (decide (xs = ys)) := by
  simp only [sameF, seqP, if_true, List.length_map]
  by_cases e : xs.length = ys.length
  · rw [if_pos e, if_pos hl, allO_pv d h xs ys e]
  · rw [if_neg e]
    congr 1
    exact (decide_eq_false (fun x => e (by rw [x]))).symm
theorem same_pv (a b : α) (h : Emb.sd α < 12 := by decide) : prSame [pv a, pv b] = some (.bl (decide (a = b))) := by
  show (sameF 12 _ _).map PV.bl = _
  rw [Emb.sm 12 a b h]; rfl
theorem same_lst (f g : Fl) (xs ys : List α) (hl : ys.length < 4611686018427387904) (h : Emb.sd α < 11 := by decide) : prSame [.lst f (xs.map pv), .lst g (ys.map pv)] = some (.bl (decide (xs = ys))) := by
  show (sameF 12 _ _).map PV.bl = _
  rw [sameF_lst 11 f g xs ys h hl]; rfl
theorem same_tupL (xs ys : List α) (hl : ys.length < 4611686018427387904) (h : Emb.sd α < 11 := by decide) : prSame [.tup (xs.map pv), .tup (ys.map pv)] = some (.bl (decide (xs = ys))) := by
  show (sameF 12 _ _).map PV.bl = _
  rw [sameF_tup 11 xs ys h hl]; rfl
theorem map_fz (xs : List α) : (xs.map pv).map frz = xs.map pv := by
  rw [List.map_map]
  exact List.map_congr_left fun x _ => Emb.fz x
/-! lists of such -/
theorem cut_map {γ δ : Type} (g : γ → δ) (xs : List γ) (lo hi : Option Int) : cut (xs.map g) lo hi = (cut xs lo hi).map g := by
  unfold cut
  rw [List.length_map, ← List.map_drop, ← List.map_take]
theorem cut_le {γ : Type} (xs : List γ) (lo hi : Option Int) : (cut xs lo hi).length ≤ xs.length := by
  unfold cut
  rw [List.length_take, List.length_drop]; omega
theorem cut_mem {γ : Type} {xs : List γ} {lo hi : Option Int} {x : γ} (h : x ∈ cut xs lo hi) : x ∈ xs := List.mem_of_mem_drop (List.mem_of_mem_take h)
end
/-! squares -/
def sq (p : Int × Int) : PV := .tup [.int p.1, .int p.2]
theorem sq_pv (p : Int × Int) : sq p = pv p := rfl
theorem sq_map (l : List (Int × Int)) : l.map sq = l.map pv := rfl
theorem sq_mk (a b : Int) : PV.tup [.int a, .int b] = sq (a, b) := rfl
@[simp] theorem sq_fz (p) : frz (sq p) = sq p := rfl
@[simp] theorem sq_ow (p) : isOwn (sq p) = false := rfl
@[simp] theorem sq_0 (p) : idxP (sq p) (.int 0) = some (.int p.1) := by unfold sq; simp
@[simp] theorem sq_1 (p) : idxP (sq p) (.int 1) = some (.int p.2) := by unfold sq; simp
@[simp] theorem sq_set (i j : Nat) (p) (env : Env) : setT (.tup [i, j]) (sq p) env = some ((env.set i (some (.int p.1))).set j (some (.int p.2))) := rfl
@[simp] theorem sq_mapfz (l : List (Int × Int)) : (l.map sq).map frz = l.map sq := map_fz l
@[simp] theorem sq_eq (a b) : cmpP .eq (sq a) (sq b) = some (decide (a = b)) := v_eqE a b
@[simp] theorem sq_ne (a b) : cmpP .ne (sq a) (sq b) = some (!decide (a = b)) := v_neE a b
@[simp] theorem sq_in (f x) (l : List (Int × Int)) : cmpP .in_ (sq x) (.lst f (l.map sq)) = some (decide (x ∈ l)) := by
  rw [show cmpP .in_ (sq x) (.lst f (l.map sq)) = _ from v_inL f x l]; congr
@[simp] theorem sq_nin (f x) (l : List (Int × Int)) : cmpP .notIn (sq x) (.lst f (l.map sq)) = some (!decide (x ∈ l)) := by
  rw [show cmpP .notIn (sq x) (.lst f (l.map sq)) = _ from v_ninL f x l]; congr
@[simp] theorem sq_eqL (f g) (a b : List (Int × Int)) : cmpP .eq (.lst f (a.map sq)) (.lst g (b.map sq)) = some (decide (a = b)) := v_eqL f g a b
@[simp] theorem sq_neL (f g) (a b : List (Int × Int)) : cmpP .ne (.lst f (a.map sq)) (.lst g (b.map sq)) = some (!decide (a = b)) := v_neL f g a b
/-- the k-th square -/
def gs (w : List (Int × Int)) (k : Nat) : Int × Int := w.getD k (0, 0)
theorem gs_of {w : List (Int × Int)} {k : Nat} {x : Int × Int} (h : w[k]? = some x) : gs w k = x := by
  unfold gs; rw [List.getD_eq_getElem?_getD, h]; rfl
theorem gs_get {w : List (Int × Int)} {k : Nat} (h : k < w.length) : w[k]? = some (gs w k) := by
  unfold gs; rw [List.getD_eq_getElem?_getD, List.getElem?_eq_getElem h]; rfl
theorem gs_mem {w : List (Int × Int)} {k : Nat} (h : k < w.length) : gs w k ∈ w := List.mem_of_getElem? (gs_get h)
theorem sqs_ix {f : Fl} {w : List (Int × Int)} {i : Int} (hf : f ≠ .deep) (h0 : 0 ≤ i) (h1 : i < w.length) : idxP (.lst f (w.map sq)) (.int i) = some (sq (gs w i.toNat)) := by
  have e : atI (w.map sq) i = some (sq (gs w i.toNat)) := by
    rw [atI_mp, atI_in h0 h1]
    show some (sq _) = _
    rw [← gs_of (List.getElem?_eq_getElem (show i.toNat < w.length by omega))]
  show (match atI (w.map sq) i with
    | some v => if f = Fl.deep then (if isOwn v then none else some v) else some (frz v)
    | none => none) = _
  rw [e]
  simp only
  rw [if_neg hf]
  rfl
theorem sqs_last {f : Fl} {w : List (Int × Int)} (hf : f ≠ .deep) (h1 : w ≠ []) : idxP (.lst f (w.map sq)) (.int (-1)) = some (sq (gs w (w.length - 1))) := by
  have hl : 0 < w.length := List.length_pos_iff.mpr h1
  have e : atI (w.map sq) (-1) = some (sq (gs w (w.length - 1))) := by
    rw [atI_mp, atI_last h1, List.getLast_eq_getElem]
    show some (sq _) = _
    rw [← gs_of (List.getElem?_eq_getElem (show w.length - 1 < w.length by omega))]
  show (match atI (w.map sq) (-1) with
    | some v => if f = Fl.deep then (if isOwn v then none else some v) else some (frz v)
    | none => none) = _
  rw [e]
  simp only
  rw [if_neg hf]
  rfl
theorem sqs_slc {f : Fl} {w : List (Int × Int)} {lo hi : Option Int} (hf : flat f = true) : slcP (.lst f (w.map sq)) lo hi = some (.lst .own ((cut w lo hi).map sq)) := by
  show (if flat f then some (PV.lst .own (cut (w.map sq) lo hi)) else none) = _
  rw [if_pos hf, cut_map]
theorem sqs_rev {f : Fl} {w : List (Int × Int)} (hf : flat f = true) : revP (.lst f (w.map sq)) = some (.lst .own (w.reverse.map sq)) := by
  show (if flat f then some (PV.lst .own (w.map sq).reverse) else none) = _
  rw [if_pos hf, List.map_reverse]
theorem sqs_add {f g : Fl} {w x : List (Int × Int)} (hf : flat f = true) (hg : flat g = true) (hl : w.length + x.length ≤ 100000) : binP .add (.lst f (w.map sq)) (.lst g (x.map sq)) = some (.lst .own ((w ++ x).map sq)) := by
  show (if flat f && flat g && sLen ((w.map sq).length + (x.map sq).length) then some (PV.lst .own (w.map sq ++ x.map sq)) else none) = _
  rw [hf, hg, List.length_map, List.length_map, sLen_of hl, List.map_append]
  rfl
theorem sqs_list {f : Fl} {w : List (Int × Int)} (hf : flat f = true) : bltP .list [.lst f (w.map sq)] = some (.lst .own (w.map sq)) := by
  show (if flat f then some (PV.lst .own (w.map sq)) else none) = _
  rw [if_pos hf]
end EL

set_option maxRecDepth 100000
set_option maxHeartbeats 4000000
/-! ELH: comprehensions with two loops; comprehensions that deal -/
namespace EL
open PySem PySem.Spec L2
theorem loopL_map {α : Type} {emb : α → PV} {p : α → Bool} {g : α → PV} {dp : Bool} {vs : List Nat} {t : CT} {c : CO} {e : CE} {W : EL.Env} : ∀ (xs : List α) (acc : List PV), acc.length + xs.length < sizeLine →
    (∀ x ∈ xs, ∃ e1, setT t (emb x) W = some e1 ∧ evC c e1 = .ok (p x, e1) ∧ wipeE e1 vs = W ∧ (p x = true → ev e e1 = .ok (g x, e1))) →
    loopL (lcB dp vs t c e) (xs.map emb) acc W = .ok (acc ++ (xs.filter p).map (fun x => if dp then frz1 (g x) else frz (g x)), W)
  | [], acc, _, _ => by simp [loopL]
  | x :: xs, acc, hl, hb => by
    obtain ⟨e1, s1, s2, s3, s4⟩ := hb x (List.mem_cons_self ..)
    rw [List.map_cons]
    unfold loopL
    have hstep : lcB dp vs t c e (emb x) acc W = .ok (acc ++ ([x].filter p).map (fun x => if dp then frz1 (g x) else frz (g x)), W) := by
      unfold lcB
      rw [s1]
      simp only
      rw [s2, R.bind_ok]
      cases hp : p x with
      | false => simp [hp, s3]
      | true =>
        simp only [if_true]
        rw [s4 hp, R.bind_ok, if_pos (decide_eq_true (by simp at hl; omega))]
        simp [hp, s3]
    rw [hstep, R.bind_ok]
    simp only
    rw [loopL_map xs _ (by
      have h1 := List.length_filter_le p [x]
      simp only [List.length_append, List.length_map, List.length_cons, List.length_nil] at *
      omega) (fun y hy => hb y (List.mem_cons_of_mem _ hy))]
    rw [List.append_assoc, ← List.map_append, ← List.filter_append]
    rfl
theorem loopO_map {α β : Type} {emb : α → PV} {emb1 : β → PV} {p : α → Bool} {q : α → β → Bool} {ys : α → List β} {g : α → β → PV} {vs vs1 : List Nat} {t t1 : CT} {c c1 : CO} {it1 : CI} {e : CE} {W : EL.Env} : ∀ (xs : List α) (acc : List PV), acc.length + (xs.map fun x => (ys x).length).sum < sizeLine →
    (∀ x ∈ xs, ∃ e1, setT t (emb x) W = some e1 ∧ evC c e1 = .ok (p x, e1) ∧ wipeE e1 vs = W ∧ (p x = true → evI it1 e1 = .ok ((ys x).map emb1, e1) ∧ wipeE (wipeE e1 vs1) vs = W ∧
      ∀ y ∈ ys x, ∃ e2, setT t1 (emb1 y) (wipeE e1 vs1) = some e2 ∧ evC c1 e2 = .ok (q x y, e2) ∧ wipeE e2 vs1 = wipeE e1 vs1 ∧ (q x y = true → ev e e2 = .ok (g x y, e2)))) →
    loopL (lcO vs vs1 t c t1 it1 c1 e) (xs.map emb) acc W = .ok (acc ++ (xs.filter p).flatMap (fun x => ((ys x).filter (q x)).map fun y => frz (g x y)), W)
  | [], acc, _, _ => by simp [loopL]
  | x :: xs, acc, hl, hb => by
    obtain ⟨e1, s1, s2, s3, s4⟩ := hb x (List.mem_cons_self ..)
    rw [List.map_cons]
    unfold loopL
    have hstep : lcO vs vs1 t c t1 it1 c1 e (emb x) acc W = .ok (acc ++ ([x].filter p).flatMap (fun x => ((ys x).filter (q x)).map fun y => frz (g x y)), W) := by
      unfold lcO
      rw [s1]
      simp only
      rw [s2, R.bind_ok]
      cases hp : p x with
      | false => simp [hp, s3]
      | true =>
        obtain ⟨h1, h2, h3⟩ := s4 hp
        simp only [if_true]
        rw [h1, R.bind_ok]
        simp only
        rw [loopL_map (dp := false) (ys x) acc (by simp at hl; omega) h3, R.bind_ok]
        simp [hp, h2]
    rw [hstep, R.bind_ok]
    simp only
    rw [loopO_map xs _ (by
      simp only [List.map_cons, List.sum_cons] at hl
      have h1 : (([x].filter p).flatMap (fun x => ((ys x).filter (q x)).map fun y => frz (g x y))).length ≤ (ys x).length := by
        cases hp : p x with
        | false => simp [hp]
        | true =>
          simp only [List.filter_cons, hp, if_true, List.filter_nil, List.flatMap_cons, List.flatMap_nil, List.append_nil, List.length_map]
          exact List.length_filter_le _ _
      rw [List.length_append]
      omega) (fun y hy => hb y (List.mem_cons_of_mem _ hy))]
    rw [List.append_assoc, ← List.flatMap_append, ← List.filter_append]
    rfl
/-- a comprehension with two loops, nothing changed -/
theorem ev_lc2T {α β : Type} {emb : α → PV} {emb1 : β → PV} {xs : List α} {p : α → Bool} {q : α → β → Bool} {ys : α → List β} {g : α → β → PV} {vs vs1 : List Nat} {t t1 : CT} {c c1 : CO} {it it1 : CI} {e : CE} {env0 env : EL.Env}
    (hI : evI it env0 = .ok (xs.map emb, env)) (hw : (wipeOk env vs (asgT t) && vs1.all (fun i => vs.contains i) && (asgT t1).all (fun i => vs1.contains i)) = true) (hr : restE (wipeE env vs) env vs = env) (hl : (xs.map fun x => (ys x).length).sum < sizeLine)
    (hb : ∀ x ∈ xs, ∃ e1, setT t (emb x) (wipeE env vs) = some e1 ∧ evC c e1 = .ok (p x, e1) ∧ wipeE e1 vs = wipeE env vs ∧ (p x = true → evI it1 e1 = .ok ((ys x).map emb1, e1) ∧ wipeE (wipeE e1 vs1) vs = wipeE env vs ∧
      ∀ y ∈ ys x, ∃ e2, setT t1 (emb1 y) (wipeE e1 vs1) = some e2 ∧ evC c1 e2 = .ok (q x y, e2) ∧ wipeE e2 vs1 = wipeE e1 vs1 ∧ (q x y = true → ev e e2 = .ok (g x y, e2)))) :
    ev (.lc2 vs vs1 t it c t1 it1 c1 e) env0 = .ok (.lst .own ((xs.filter p).flatMap fun x => ((ys x).filter (q x)).map fun y => frz (g x y)), env) := by
  rw [ev_lc2, hI, R.bind_ok]
  simp only
  rw [if_pos hw, loopO_map xs [] (by simpa using hl) hb, R.bind_ok]
  simp only
  rw [hr, List.nil_append]
/-- .. without conditions -/
theorem ev_lc2M {α β : Type} {emb : α → PV} {emb1 : β → PV} {xs : List α} {ys : α → List β} {g : α → β → PV} {vs vs1 : List Nat} {t t1 : CT} {it it1 : CI} {e : CE} {env0 env : EL.Env}
    (hI : evI it env0 = .ok (xs.map emb, env)) (hw : (wipeOk env vs (asgT t) && vs1.all (fun i => vs.contains i) && (asgT t1).all (fun i => vs1.contains i)) = true) (hr : restE (wipeE env vs) env vs = env) (hl : (xs.map fun x => (ys x).length).sum < sizeLine)
    (hb : ∀ x ∈ xs, ∃ e1, setT t (emb x) (wipeE env vs) = some e1 ∧ wipeE e1 vs = wipeE env vs ∧ evI it1 e1 = .ok ((ys x).map emb1, e1) ∧ wipeE (wipeE e1 vs1) vs = wipeE env vs ∧
      ∀ y ∈ ys x, ∃ e2, setT t1 (emb1 y) (wipeE e1 vs1) = some e2 ∧ wipeE e2 vs1 = wipeE e1 vs1 ∧ ev e e2 = .ok (g x y, e2)) :
    ev (.lc2 vs vs1 t it .no t1 it1 .no e) env0 = .ok (.lst .own (xs.flatMap fun x => (ys x).map fun y => frz (g x y)), env) := by
  have := ev_lc2T (c := .no) (c1 := .no) (p := fun _ => true) (q := fun _ _ => true) hI hw hr hl (fun x hx => by
    obtain ⟨e1, h1, h2, h3, h4, h5⟩ := hb x hx
    exact ⟨e1, h1, q_evC_no, h2, fun _ => ⟨h3, h4, fun y hy => by
      obtain ⟨e2, g1, g2, g3⟩ := h5 y hy
      exact ⟨e2, g1, q_evC_no, g2, fun _ => g3⟩⟩⟩)
  rw [this]
  simp [List.filter_eq_self.mpr]
/-- a comprehension by an invariant -/
theorem ev_lcI {vs : List Nat} {t : CT} {it : CI} {c : CO} {e : CE} {env0 env : EL.Env} {xs : List PV} (I : Nat → List PV → EL.Env → Prop) (hI : evI it env0 = .ok (xs, env)) (hw : wipeOk env vs (asgT t) = true)
    (h0 : I 0 [] (wipeE env vs)) (hb : ∀ i x a en, xs[i]? = some x → I i a en → ∃ a' en', lcB false vs t c e x a en = .ok (a', en') ∧ I (i + 1) a' en') :
    ∃ a en, ev (.lc false vs t it c e) env0 = .ok (.lst .own a, restE en env vs) ∧ I xs.length a en := by
  obtain ⟨a', e', h1, h2⟩ := loopL_inv (b := lcB false vs t c e) I (xs := xs) (k := 0) (acc := []) (env := wipeE env vs) (fun i x a en hx hi => by
    rw [Nat.zero_add] at hi ⊢
    exact hb i x a en hx hi) h0
  refine ⟨a', e', ?_, by simpa using h2⟩
  rw [q_ev_lc, hI, R.bind_ok]
  simp only
  rw [if_pos hw, h1, R.bind_ok]
  rfl
/-! ### operands -/
def NV (e : CE) : Prop := ∀ r en, asA e r en = r.bind fun p => .ok (.val p.1, p.2)
theorem ev_bin_ve {op : Bin} {i : Nat} {E : CE} {en en' : EL.Env} {x x' y z : PV} (hs : slot en i = some x) (na : NV E) (h : ev E en = .ok (y, en')) (hs' : slot en' i = some x') (hb : binP op x' y = some z) : ev (.bin op (.var i) E) en = .ok (z, en') := by
  rw [q_ev_bin, show asA (.var i) (ev (.var i) en) en = .ok (.ref i, en) by simp [asA, hs], R.bind_ok]
  simp only
  rw [na, h]
  simp only [R.bind_ok, getA, hs', hb, R.of_some]
theorem ev_bin_ev {op : Bin} {i : Nat} {E : CE} {en en' : EL.Env} {x y z : PV} (na : NV E) (h : ev E en = .ok (y, en')) (hs' : slot en' i = some x) (hb : binP op y x = some z) : ev (.bin op E (.var i)) en = .ok (z, en') := by
  rw [q_ev_bin, na, h]
  simp only [R.bind_ok]
  rw [show asA (.var i) (ev (.var i) en') en' = .ok (.ref i, en') by simp [asA, hs']]
  simp only [R.bind_ok, getA, hs', hb, R.of_some]
theorem ev_bin_ee {op : Bin} {E G : CE} {en en' en'' : EL.Env} {x y z : PV} (na : NV E) (nb : NV G) (h : ev E en = .ok (x, en')) (h2 : ev G en' = .ok (y, en'')) (hb : binP op x y = some z) : ev (.bin op E G) en = .ok (z, en'') := by
  rw [q_ev_bin, na, h]
  simp only [R.bind_ok]
  rw [nb, h2]
  simp only [R.bind_ok, getA, hb, R.of_some]
theorem ev_cmp_ve {op : Cmp} {i : Nat} {E : CE} {en en' : EL.Env} {x x' y : PV} {z : Bool} (hs : slot en i = some x) (na : NV E) (h : ev E en = .ok (y, en')) (hs' : slot en' i = some x') (hb : cmpP op x' y = some z) : ev (.cmp op (.var i) E) en = .ok (.bl z, en') := by
  rw [q_ev_cmp, show asA (.var i) (ev (.var i) en) en = .ok (.ref i, en) by simp [asA, hs], R.bind_ok]
  simp only
  rw [na, h]
  simp only [R.bind_ok, getA, hs', hb, R.of_some]
theorem ev_cmp_ev {op : Cmp} {i : Nat} {E : CE} {en en' : EL.Env} {x y : PV} {z : Bool} (na : NV E) (h : ev E en = .ok (y, en')) (hs' : slot en' i = some x) (hb : cmpP op y x = some z) : ev (.cmp op E (.var i)) en = .ok (.bl z, en') := by
  rw [q_ev_cmp, na, h]
  simp only [R.bind_ok]
  rw [show asA (.var i) (ev (.var i) en') en' = .ok (.ref i, en') by simp [asA, hs']]
  simp only [R.bind_ok, getA, hs', hb, R.of_some]
theorem ev_cmp_ee {op : Cmp} {E G : CE} {en en' en'' : EL.Env} {x y : PV} {z : Bool} (na : NV E) (nb : NV G) (h : ev E en = .ok (x, en')) (h2 : ev G en' = .ok (y, en'')) (hb : cmpP op x y = some z) : ev (.cmp op E G) en = .ok (.bl z, en'') := by
  rw [q_ev_cmp, na, h]
  simp only [R.bind_ok]
  rw [nb, h2]
  simp only [R.bind_ok, getA, hb, R.of_some]
/-- a builtin of one argument -/
theorem ev_blt1 {b : Blt} {E : CE} {en en' : EL.Env} {x y : PV} (na : NV E) (h : ev E en = .ok (x, en')) (hb : bltP b [x] = some y) : ev (.blt b (.cons E .nil)) en = .ok (y, en') := by
  rw [q_ev_blt, q_evAs_cons, na, h]
  simp only [R.bind_ok, q_evAs_nil, getAs, getA, hb, R.of_some]
theorem ev_blt1v {b : Blt} {i : Nat} {en : EL.Env} {x y : PV} (hs : slot en i = some x) (hb : bltP b [x] = some y) : ev (.blt b (.cons (.var i) .nil)) en = .ok (y, en) := by
  rw [q_ev_blt, q_evAs_cons, show asA (.var i) (ev (.var i) en) en = .ok (.ref i, en) by simp [asA, hs]]
  simp only [R.bind_ok, q_evAs_nil, getAs, getA, hs, hb, R.of_some]
theorem ev_lst1 {E : CE} {en en' : EL.Env} {x : PV} (h : ev E en = .ok (x, en')) : ev (.lst false (.cons E .nil)) en = .ok (.lst .own [frz x], en') := by
  rw [q_ev_lst, q_evs_cons, h]
  simp [sLen]
theorem ex_asg {t : CT} {e : CE} {en en' en2 : EL.Env} {v : PV} (h : ev e en = .ok (v, en')) (hs : setT t v en' = some en2) : ex (.asg t e) en = .ok (.nxt, en2) := by
  rw [q_ex_asg, h]
  simp only [R.bind_ok, hs]
theorem ex_ret {e : CE} {en en' : EL.Env} {v : PV} (h : ev e en = .ok (v, en')) : ex (.ret (.yes e)) en = .ok (.ret v, en') := by
  rw [q_ex_ret_2, h, R.bind_ok]
theorem ex_iteT {c : CE} {a b : CSs} {en en' : EL.Env} {r : R (Flow × EL.Env)} (h : ev c en = .ok (.bl true, en')) (ha : exs a en' = r) : ex (.ite c a b) en = r := by
  rw [q_ex_ite, h, R.bind_ok]; exact ha
theorem ex_iteF {c : CE} {a b : CSs} {en en' : EL.Env} {r : R (Flow × EL.Env)} (h : ev c en = .ok (.bl false, en')) (hb : exs b en' = r) : ex (.ite c a b) en = r := by
  rw [q_ex_ite, h, R.bind_ok]; exact hb
/-- a comprehension whose length is asked for -/
theorem ev_count {α : Type} {emb : α → PV} {xs : List α} {p : α → Bool} {g : α → PV} {vs : List Nat} {t : CT} {it : CI} {c e : CE} {env0 env : EL.Env} (hI : evI it env0 = .ok (xs.map emb, env)) (hw : wipeOk env vs (asgT t) = true) (hr : restE (wipeE env vs) env vs = env)
    (hl : xs.length < sizeLine) (hb : ∀ x ∈ xs, ∃ e1, setT t (emb x) (wipeE env vs) = some e1 ∧ ev c e1 = .ok (.bl (p x), e1) ∧ wipeE e1 vs = wipeE env vs ∧ (p x = true → ev e e1 = .ok (g x, e1))) :
    ev (.blt .len (.cons (.lc false vs t it (.yes c) e) .nil)) env0 = .ok (.int ((xs.filter p).length : Nat), env) := by
  refine ev_blt1 (fun _ _ => rfl) (ev_lcT (dp := false) (c := .yes c) (p := p) (g := g) hI hw hr hl fun x hx => ?_) (by simp)
  obtain ⟨e1, h1, h2, h3, h4⟩ := hb x hx
  refine ⟨e1, h1, ?_, h3, h4⟩
  rw [q_evC_yes, h2]
  simp [bool?]
end EL

set_option maxRecDepth 100000
/-! ELN: the names of constants and of defs do not matter -/
namespace EL
open PySem PySem.Spec L2
mutual
def nmE : CE → CE
  | .var i => .var i
  | .mv i => .mv i
  | .lit v => .lit v
  | .glb x v => .lit v
  | .bin op A B => .bin op (nmE A) (nmE B)
  | .neg A => .neg (nmE A)
  | .cmp op A B => .cmp op (nmE A) (nmE B)
  | .chn o1 o2 A B C => .chn o1 o2 (nmE A) (nmE B) (nmE C)
  | .and A B => .and (nmE A) (nmE B)
  | .or A B => .or (nmE A) (nmE B)
  | .not A => .not (nmE A)
  | .ite A B C => .ite (nmE A) (nmE B) (nmE C)
  | .tup S => .tup (nmEs S)
  | .lst deep S => .lst deep (nmEs S)
  | .dic d P => .dic d (nmPs P)
  | .dic1 A B => .dic1 (nmE A) (nmE B)
  | .idx A B => .idx (nmE A) (nmE B)
  | .idx2 j a b => .idx2 j a b
  | .slc A O O1 => .slc (nmE A) (nmO O) (nmO O1)
  | .rev A => .rev (nmE A)
  | .call f F S => .call "" (nmF F) (nmEs S)
  | .prm f p S => .prm "" p (nmEs S)
  | .blt b S => .blt b (nmEs S)
  | .mth m A S => .mth m (nmE A) (nmEs S)
  | .ixl i A => .ixl i (nmE A)
  | .get i A d => .get i (nmE A) d
  | .sidx A B => .sidx (nmE A) (nmE B)
  | .brw j A => .brw j (nmE A)
  | .rpl A y z => .rpl (nmE A) y z
  | .lc deep vs t I O A => .lc deep vs t (nmI I) (nmO O) (nmE A)
  | .lc2 vs vs1 t I O t1 I1 O1 A => .lc2 vs vs1 t (nmI I) (nmO O) t1 (nmI I1) (nmO O1) (nmE A)
def nmEs : CEs → CEs
  | .nil => .nil
  | .cons e r => .cons (nmE e) (nmEs r)
def nmPs : CPs → CPs
  | .nil => .nil
  | .cons k v r => .cons (nmE k) (nmE v) (nmPs r)
def nmO : CO → CO
  | .no => .no
  | .yes e => .yes (nmE e)
def nmI : CI → CI
  | .rng1 A => .rng1 (nmE A)
  | .rng2 A B => .rng2 (nmE A) (nmE B)
  | .val A => .val (nmE A)
  | .keys A => .keys (nmE A)
  | .items A => .items (nmE A)
  | .values A => .values (nmE A)
  | .keysF j => .keysF j
  | .itemsF j => .itemsF j
def nmS : CS → CS
  | .expr A => .expr (nmE A)
  | .asg t A => .asg t (nmE A)
  | .par i j A B => .par i j (nmE A) (nmE B)
  | .sti i A B => .sti i (nmE A) (nmE B)
  | .sti2 i a b A => .sti2 i a b (nmE A)
  | .app i A => .app i (nmE A)
  | .ext i A => .ext i (nmE A)
  | .del i A => .del i (nmE A)
  | .ret O => .ret (nmO O)
  | .ite A L L1 => .ite (nmE A) (nmSs L) (nmSs L1)
  | .whl A L => .whl (nmE A) (nmSs L)
  | .for_ t I L => .for_ t (nmI I) (nmSs L)
  | .ali l g k b i x y => .ali l g k b i x y
  | .brk  => .brk
  | .cnt  => .cnt
  | .pass  => .pass
  | .rais  => .rais
def nmSs : CSs → CSs
  | .nil => .nil
  | .cons s r => .cons (nmS s) (nmSs r)
def nmF : CF → CF
  | .mk ps ns b => .mk ps ns (nmSs b)
end
mutual
theorem asg_n : ∀ s : CS, asgS (nmS s) = asgS s
  | .expr _ => by unfold nmS asgS; rfl
  | .asg _ _ => by unfold nmS asgS; rfl
  | .par _ _ _ _ => by unfold nmS asgS; rfl
  | .sti _ _ _ => by unfold nmS asgS; rfl
  | .sti2 _ _ _ _ => by unfold nmS asgS; rfl
  | .app _ _ => by unfold nmS asgS; rfl
  | .ext _ _ => by unfold nmS asgS; rfl
  | .del _ _ => by unfold nmS asgS; rfl
  | .ret _ => by unfold nmS asgS; rfl
  | .ite A L L1 => by unfold nmS asgS; rw [asgB_n L, asgB_n L1]
  | .whl A L => by unfold nmS asgS; rw [asgB_n L]
  | .for_ t I L => by unfold nmS asgS; rw [asgB_n L]
  | .ali _ _ _ _ _ _ _ => by unfold nmS asgS; rfl
  | .brk  => by unfold nmS asgS; rfl
  | .cnt  => by unfold nmS asgS; rfl
  | .pass  => by unfold nmS asgS; rfl
  | .rais  => by unfold nmS asgS; rfl
theorem asgB_n : ∀ b : CSs, asgB (nmSs b) = asgB b
  | .nil => by unfold nmSs; rfl
  | .cons s r => by unfold nmSs asgB; rw [asg_n s, asgB_n r]
end
theorem asA_n (c : CE) (r : R (PV × Env)) (env : Env) : asA (nmE c) r env = asA c r env := by
  cases c with
  | var i => unfold nmE; rfl
  | glb x v => unfold nmE; rfl
  | _ => unfold nmE; rfl
mutual
theorem ev_n : ∀ (e : CE) (env : Env), ev (nmE e) env = ev e env
  | .var _, env => by unfold nmE; rfl
  | .mv _, env => by unfold nmE; rfl
  | .lit _, env => by unfold nmE; rfl
  | .glb _ _, env => by unfold nmE; rfl
  | .bin op A B, env => by unfold nmE; simp only [q_ev_bin, ev_n A, ev_n B, asA_n]
  | .neg A, env => by unfold nmE; simp only [q_ev_neg, ev_n A, asA_n]
  | .cmp op A B, env => by unfold nmE; simp only [q_ev_cmp, ev_n A, ev_n B, asA_n]
  | .chn o1 o2 A B C, env => by unfold nmE; simp only [q_ev_chn, ev_n A, ev_n B, ev_n C, asA_n]
  | .and A B, env => by unfold nmE; simp only [q_ev_and, ev_n A, ev_n B, asA_n]
  | .or A B, env => by unfold nmE; simp only [q_ev_or, ev_n A, ev_n B, asA_n]
  | .not A, env => by unfold nmE; simp only [q_ev_not, ev_n A, asA_n]
  | .ite A B C, env => by unfold nmE; simp only [q_ev_ite, ev_n A, ev_n B, ev_n C, asA_n]
  | .tup S, env => by unfold nmE; simp only [q_ev_tup, evs_n S, evAs_n S, asA_n]
  | .lst deep S, env => by unfold nmE; simp only [q_ev_lst, evs_n S, evAs_n S, asA_n]
  | .dic d P, env => by unfold nmE; simp only [q_ev_dic, evp_n _ P, asA_n]
  | .dic1 A B, env => by unfold nmE; simp only [q_ev_dic1, ev_n A, ev_n B, asA_n]
  | .idx A B, env => by unfold nmE; simp only [q_ev_idx, ev_n A, ev_n B, asA_n]
  | .idx2 _ _ _, env => by unfold nmE; rfl
  | .slc A O O1, env => by unfold nmE; simp only [q_ev_slc, ev_n A, evO_n O, evC_n O, evO_n O1, evC_n O1, asA_n]
  | .rev A, env => by unfold nmE; simp only [q_ev_rev, ev_n A, asA_n]
  | .call f F S, env => by unfold nmE; simp only [q_ev_call, run_n F, evs_n S, evAs_n S, asA_n]
  | .prm f p S, env => by unfold nmE; simp only [q_ev_prm, evs_n S, evAs_n S, asA_n]
  | .blt b S, env => by unfold nmE; simp only [q_ev_blt, evs_n S, evAs_n S, asA_n]
  | .mth m A S, env => by unfold nmE; simp only [q_ev_mth, ev_n A, evs_n S, evAs_n S, asA_n]
  | .ixl i A, env => by unfold nmE; simp only [q_ev_ixl, ev_n A, asA_n]
  | .get i A d, env => by unfold nmE; simp only [q_ev_get, ev_n A, asA_n]
  | .sidx A B, env => by unfold nmE; simp only [q_ev_sidx, ev_n A, ev_n B, asA_n]
  | .brw j A, env => by unfold nmE; simp only [q_ev_brw, ev_n A, asA_n]
  | .rpl A y z, env => by unfold nmE; simp only [q_ev_rpl, ev_n A, asA_n]
  | .lc deep vs t I O A, env => by unfold nmE; rw [q_ev_lc, q_ev_lc, evI_n I, show lcB deep vs t (nmO O) (nmE A) = lcB deep vs t O A from by funext x acc en; unfold lcB; simp only [ev_n A, evC_n O]]
  | .lc2 vs vs1 t I O t1 I1 O1 A, env => by unfold nmE; unfold ev; simp only [evI_n I, evI_n I1, evC_n O, evC_n O1, ev_n A]
theorem evs_n : ∀ (e : CEs) (env : Env), evs (nmEs e) env = evs e env
  | .nil, _ => by unfold nmEs; rfl
  | .cons e r, _ => by unfold nmEs; simp only [q_evs_cons, ev_n e, evs_n r]
theorem evAs_n : ∀ (e : CEs) (env : Env), evAs (nmEs e) env = evAs e env
  | .nil, _ => by unfold nmEs; rfl
  | .cons e r, _ => by unfold nmEs; simp only [q_evAs_cons, ev_n e, evAs_n r, asA_n]
theorem evp_n (d : DK) : ∀ (e : CPs) (env : Env), evp d (nmPs e) env = evp d e env
  | .nil, _ => by unfold nmPs; rfl
  | .cons k v .nil, _ => by unfold nmPs; simp only [evp, ev_n k, ev_n v, nmPs]
  | .cons k v (.cons a b c), _ => by unfold nmPs; rw [nmPs]; simp only [evp]
theorem evO_n : ∀ (e : CO) (env : Env), evO (nmO e) env = evO e env
  | .no, _ => by unfold nmO; rfl
  | .yes e, _ => by unfold nmO; simp only [q_evO_yes, ev_n e]
theorem evC_n : ∀ (e : CO) (env : Env), evC (nmO e) env = evC e env
  | .no, _ => by unfold nmO; rfl
  | .yes e, _ => by unfold nmO; simp only [q_evC_yes, ev_n e]
theorem evI_n : ∀ (e : CI) (env : Env), evI (nmI e) env = evI e env
  | .rng1 A, _ => by unfold nmI; simp only [q_evI_rng1, ev_n A, asA_n]
  | .rng2 A B, _ => by unfold nmI; simp only [q_evI_rng2, ev_n A, ev_n B, asA_n]
  | .val A, _ => by unfold nmI; simp only [q_evI_val, ev_n A, asA_n]
  | .keys A, _ => by unfold nmI; simp only [q_evI_keys, ev_n A, asA_n]
  | .items A, _ => by unfold nmI; simp only [q_evI_items, ev_n A, asA_n]
  | .values A, _ => by unfold nmI; simp only [q_evI_values, ev_n A, asA_n]
  | .keysF j, _ => by unfold nmI; rfl
  | .itemsF j, _ => by unfold nmI; rfl
theorem ex_n : ∀ (s : CS) (env : Env), ex (nmS s) env = ex s env
  | .expr A, _ => by unfold nmS; simp only [q_ex_expr, ev_n A, asA_n]
  | .asg t A, _ => by unfold nmS; simp only [q_ex_asg, ev_n A, asA_n]
  | .par i j A B, _ => by unfold nmS; simp only [q_ex_par, ev_n A, ev_n B, asA_n]
  | .sti i A B, _ => by unfold nmS; simp only [q_ex_sti, ev_n A, ev_n B, asA_n]
  | .sti2 i a b A, _ => by unfold nmS; simp only [q_ex_sti2, ev_n A, asA_n]
  | .app i A, _ => by unfold nmS; simp only [q_ex_app, ev_n A, asA_n]
  | .ext i A, _ => by unfold nmS; simp only [q_ex_ext, ev_n A, asA_n]
  | .del i A, _ => by unfold nmS; simp only [q_ex_del, ev_n A, asA_n]
  | .ret .no, _ => by unfold nmS nmO; rfl
  | .ret (.yes e), _ => by unfold nmS nmO; simp only [q_ex_ret_2, ev_n e]
  | .ite A L L1, _ => by unfold nmS; simp only [q_ex_ite, ev_n A, exs_n L, exs_n L1, asA_n]
  | .whl A L, _ => by unfold nmS; simp only [q_ex_whl, funext (ev_n A), funext (exs_n L)]
  | .for_ t I L, _ => by unfold nmS; rw [q_ex_for, q_ex_for, evI_n I, show forB t (nmSs L) = forB t L from by funext x en; unfold forB; simp only [exs_n L]]
  | .ali _ _ _ _ _ _ _, _ => by unfold nmS; rfl
  | .brk , _ => by unfold nmS; rfl
  | .cnt , _ => by unfold nmS; rfl
  | .pass , _ => by unfold nmS; rfl
  | .rais , _ => by unfold nmS; rfl
theorem exs_n : ∀ (b : CSs) (env : Env), exs (nmSs b) env = exs b env
  | .nil, _ => by unfold nmSs; rfl
  | .cons s r, _ => by unfold nmSs; simp only [q_exs_cons, ex_n s, exs_n r]
theorem run_n : ∀ (c : CF) (vs : List PV), run (nmF c) vs = run c vs
  | .mk ps ns b, vs => by unfold nmF; unfold run; simp only [asgB_n, exs_n b]
end
theorem run_as {c d : CF} (h : nmF c = nmF d) (vs : List PV) : run c vs = run d vs := by rw [← run_n c, h, run_n d]
end EL

set_option maxRecDepth 100000
namespace EL
open PySem 
def t_law_grid_1 : CS := (.asg (.var 3) (.call "_law_take" c__law_take (.cons (.var 0) (.cons (.lit (.int 7)) .nil))))
def t_law_grid_2 : CS := (.asg (.var 4) (.idx (.lst false (.cons (.lit (.int 2)) (.cons (.lit (.int 3)) (.cons (.lit (.int 4)) (.cons (.lit (.int 5)) .nil))))) (.call "_law_take" c__law_take (.cons (.var 0) (.cons (.lit (.int 4)) .nil)))))
def t_law_grid_3 : CS := (.asg (.var 5) (.lst true .nil))
def t_law_grid_4_1 : CS := (.asg (.var 7) (.lst false .nil))
def t_law_grid_4_2_1 : CS := (.asg (.var 9) (.cmp .gt (.call "_law_take" c__law_take (.cons (.var 0) (.cons (.var 4) .nil))) (.lit (.int 0))))
def t_law_grid_4_2_2 : CS := (.ite (.cmp .eq (.var 3) (.lit (.int 1))) (.cons (.asg (.var 9) (.cmp .eq (.call "_law_take" c__law_take (.cons (.var 0) (.cons (.var 4) .nil))) (.lit (.int 0)))) .nil) .nil)
def t_law_grid_4_2_3 : CS := (.ite (.cmp .eq (.var 3) (.lit (.int 2))) (.cons (.asg (.var 9) (.cmp .eq (.bin .mod (.bin .add (.var 6) (.var 8)) (.lit (.int 2))) (.lit (.int 0)))) .nil) .nil)
def t_law_grid_4_2_4 : CS := (.ite (.cmp .eq (.var 3) (.lit (.int 3))) (.cons (.asg (.var 9) (.cmp .eq (.bin .mod (.var 6) (.lit (.int 2))) (.lit (.int 0)))) .nil) .nil)
def t_law_grid_4_2_5 : CS := (.ite (.cmp .eq (.var 3) (.lit (.int 4))) (.cons (.asg (.var 9) (.cmp .gt (.bin .mod (.bin .add (.var 6) (.var 8)) (.lit (.int 3))) (.lit (.int 0)))) .nil) .nil)
def t_law_grid_4_2_6 : CS := (.ite (.cmp .eq (.var 3) (.lit (.int 5))) (.cons (.asg (.var 9) (.or (.cmp .eq (.bin .mod (.var 8) (.lit (.int 3))) (.lit (.int 0))) (.cmp .eq (.bin .mod (.var 6) (.lit (.int 4))) (.lit (.int 0))))) .nil) .nil)
def t_law_grid_4_2_7 : CS := (.app 7 (.ite (.var 9) (.lit (.str (Str.ofString "x"))) (.lit (.str (Str.ofString ".")))))
def t_law_grid_4_2B : CSs := (.cons t_law_grid_4_2_1 (.cons t_law_grid_4_2_2 (.cons t_law_grid_4_2_3 (.cons t_law_grid_4_2_4 (.cons t_law_grid_4_2_5 (.cons t_law_grid_4_2_6 (.cons t_law_grid_4_2_7 .nil)))))))
def t_law_grid_4_2 : CS := (.for_ (.var 8) (.rng1 (.var 2)) t_law_grid_4_2B)
def t_law_grid_4_3 : CS := (.app 5 (.mv 7))
def t_law_grid_4B : CSs := (.cons t_law_grid_4_1 (.cons t_law_grid_4_2 (.cons t_law_grid_4_3 .nil)))
def t_law_grid_4 : CS := (.for_ (.var 6) (.rng1 (.var 1)) t_law_grid_4B)
def t_law_grid_5_1 : CS := (.asg (.var 6) (.call "_law_take" c__law_take (.cons (.var 0) (.cons (.var 1) .nil))))
def t_law_grid_5_2 : CS := (.asg (.var 8) (.call "_law_take" c__law_take (.cons (.var 0) (.cons (.var 2) .nil))))
def t_law_grid_5_3 : CS := (.sti2 5 (.var 6) (.var 8) (.ite (.cmp .eq (.idx2 5 (.var 6) (.var 8)) (.lit (.str (Str.ofString "x")))) (.lit (.str (Str.ofString "."))) (.lit (.str (Str.ofString "x")))))
def t_law_grid_5B : CSs := (.cons t_law_grid_5_1 (.cons t_law_grid_5_2 (.cons t_law_grid_5_3 .nil)))
def t_law_grid_5 : CS := (.for_ (.var 10) (.rng1 (.call "_law_take" c__law_take (.cons (.var 0) (.cons (.lit (.int 4)) .nil)))) t_law_grid_5B)
def t_law_grid_6 : CS := (.ret (.yes (.blt .tuple (.cons (.lc false [7] (.var 7) (.val (.var 5)) .no (.mth .join (.lit (.str (Str.ofString ""))) (.cons (.var 7) .nil))) .nil))))
def c__law_grid : CF := .mk 3 ["deal", "rows", "columns", "style", "chance", "grid", "r", "row", "c", "land", "k"] (.cons t_law_grid_1 (.cons t_law_grid_2 (.cons t_law_grid_3 (.cons t_law_grid_4 (.cons t_law_grid_5 (.cons t_law_grid_6 .nil))))))
end EL
namespace EL
open PySem 
def t_side_neighbours_1 : CS := (.asg (.tup [1, 2]) (.var 0))
def t_side_neighbours_2 : CS := (.ret (.yes (.lst false (.cons (.tup (.cons (.bin .sub (.var 1) (.lit (.int 1))) (.cons (.var 2) .nil))) (.cons (.tup (.cons (.var 1) (.cons (.bin .sub (.var 2) (.lit (.int 1))) .nil))) (.cons (.tup (.cons (.var 1) (.cons (.bin .add (.var 2) (.lit (.int 1))) .nil))) (.cons (.tup (.cons (.bin .add (.var 1) (.lit (.int 1))) (.cons (.var 2) .nil))) .nil)))))))
def c_side_neighbours : CF := .mk 1 ["square", "row", "column"] (.cons t_side_neighbours_1 (.cons t_side_neighbours_2 .nil))
def t_law_bool_1 : CS := (.ret (.yes (.and (.blt (.isi "bool") (.cons (.var 0) .nil)) (.cmp .eq (.var 0) (.var 1)))))
def c__law_bool : CF := .mk 2 ["answer", "due"] (.cons t_law_bool_1 .nil)
end EL

set_option maxRecDepth 100000
set_option maxHeartbeats 4000000
namespace EL
open PySem PySem.Spec L2
/-- a call of _law_take on slot 0, the number in a slot -/
theorem ev_takeV {env : Env} {i j : Nat} {d : Deal} {m : Int} (hs : slot env i = some d.pv) (hj : slot (env.set i none) j = some (.int m)) (ha : d.at_ < 1000000) (hm : 0 < m) :
    ev (.call "_law_take" c__law_take (.cons (.var i) (.cons (.var j) .nil))) env = .ok (.int (d.tk m), env.set i (some d.nx.pv)) := by
  have hl : i < env.length := slot_len hs
  have hj2 : slot env j = some (.int m) := by
    have hij : i ≠ j := fun e => by
      subst e
      have := slot_len hs
      rw [show slot (env.set i none) i = none by unfold slot; rw [List.getElem?_set_self this]; rfl] at hj
      cases hj
    unfold slot at hj ⊢
    rwa [List.getElem?_set_ne hij] at hj
  simp [asA, hs, hj2, hj, lend, run_take d ha hm, back]
theorem ev_takeX {env : Env} {i : Nat} {d : Deal} {m : Int} {e : CE} (he : asA e (ev e env) env = .ok (.val (.int m), env)) (hs : slot env i = some d.pv) (ha : d.at_ < 1000000) (hm : 0 < m) :
    ev (.call "_law_take" c__law_take (.cons (.var i) (.cons e .nil))) env = .ok (.int (d.tk m), env.set i (some d.nx.pv)) := by
  have hl : i < env.length := slot_len hs
  rw [q_ev_call, q_evAs_cons, show asA (.var i) (ev (.var i) env) env = .ok (.ref i, env) by simp [asA, hs], R.bind_ok, q_evAs_cons, he]
  simp [lend, hs, run_take d ha hm, back]
theorem take0V1 {x2 : Option PV} {r : Env} {d : Deal} {m : Int} (ha : d.at_ < 1000000) (hm : 0 < m) : ev (.call "_law_take" c__law_take (.cons (.var 0) (.cons (.var 1) .nil))) (some d.pv :: some (.int m) :: r) = .ok (.int (d.tk m), some d.nx.pv :: some (.int m) :: r) := ev_takeV (d := d) rfl (by rfl) ha hm
theorem take0V2 {x1 : Option PV} {r : Env} {d : Deal} {m : Int} (ha : d.at_ < 1000000) (hm : 0 < m) : ev (.call "_law_take" c__law_take (.cons (.var 0) (.cons (.var 2) .nil))) (some d.pv :: x1 :: some (.int m) :: r) = .ok (.int (d.tk m), some d.nx.pv :: x1 :: some (.int m) :: r) := ev_takeV (d := d) rfl (by rfl) ha hm
theorem take0V4 {x1 x2 x3 : Option PV} {r : Env} {d : Deal} {m : Int} (ha : d.at_ < 1000000) (hm : 0 < m) : ev (.call "_law_take" c__law_take (.cons (.var 0) (.cons (.var 4) .nil))) (some d.pv :: x1 :: x2 :: x3 :: some (.int m) :: r) = .ok (.int (d.tk m), some d.nx.pv :: x1 :: x2 :: x3 :: some (.int m) :: r) := ev_takeV (d := d) rfl (by rfl) ha hm
/-! ### _law_grid -/
abbrev gE (d : Deal) (M N : Nat) (st chn : Int) (G : List PV) (r : Option PV) (row : Option PV) (c land k : Option PV) : Env := [some d.pv, some (.int M), some (.int N), some (.int st), some (.int chn), some (.lst .deep G), r, row, c, land, k]
section
variable {d : Deal} {M N r c : Nat} {st chn : Int} {G row : List PV} {land k cc rr ro : Option PV} {l : Bool}
theorem g421 (ha : d.at_ < 1000000) (hm : 0 < chn) : ex t_law_grid_4_2_1 (gE d M N st chn G rr ro cc land k) = .ok (.nxt, gE d.nx M N st chn G rr ro cc (some (.bl (decide (0 < d.tk chn)))) k) := by
  simp [-q_ev_call, t_law_grid_4_2_1, gE, asA, getA, take0V4 ha hm, setT]
theorem g422 (ha : d.at_ < 1000000) (hm : 0 < chn) : ∃ (d' : Deal) (b : Bool), ex t_law_grid_4_2_2 (gE d M N st chn G rr ro cc (some (.bl l)) k) = .ok (.nxt, gE d' M N st chn G rr ro cc (some (.bl b)) k) ∧ d'.at_ ≤ d.at_ + 1 := by
  by_cases h : st = 1
  · exact ⟨d.nx, decide (d.tk chn = 0), by simp [-q_ev_call, t_law_grid_4_2_2, gE, asA, getA, take0V4 ha hm, setT, h], by simp⟩
  · exact ⟨d, l, by simp [-q_ev_call, t_law_grid_4_2_2, gE, asA, getA, setT, h], by simp⟩
theorem g423 : ∃ b : Bool, ex t_law_grid_4_2_3 (gE d M N st chn G (some (.int r)) ro (some (.int c)) (some (.bl l)) k) = .ok (.nxt, gE d M N st chn G (some (.int r)) ro (some (.int c)) (some (.bl b)) k) := by
  by_cases h : st = 2
  · exact ⟨decide (((r : Int) + c).fmod 2 = 0), by simp [t_law_grid_4_2_3, gE, asA, getA, setT, h]⟩
  · exact ⟨l, by simp [t_law_grid_4_2_3, gE, asA, getA, setT, h]⟩
theorem g424 : ∃ b : Bool, ex t_law_grid_4_2_4 (gE d M N st chn G (some (.int r)) ro (some (.int c)) (some (.bl l)) k) = .ok (.nxt, gE d M N st chn G (some (.int r)) ro (some (.int c)) (some (.bl b)) k) := by
  by_cases h : st = 3
  · exact ⟨decide ((r : Int).fmod 2 = 0), by simp [t_law_grid_4_2_4, gE, asA, getA, setT, h]⟩
  · exact ⟨l, by simp [t_law_grid_4_2_4, gE, asA, getA, setT, h]⟩
theorem g425 : ∃ b : Bool, ex t_law_grid_4_2_5 (gE d M N st chn G (some (.int r)) ro (some (.int c)) (some (.bl l)) k) = .ok (.nxt, gE d M N st chn G (some (.int r)) ro (some (.int c)) (some (.bl b)) k) := by
  by_cases h : st = 4
  · exact ⟨decide (0 < ((r : Int) + c).fmod 3), by simp [t_law_grid_4_2_5, gE, asA, getA, setT, h]⟩
  · exact ⟨l, by simp [t_law_grid_4_2_5, gE, asA, getA, setT, h]⟩
theorem g426 : ∃ b : Bool, ex t_law_grid_4_2_6 (gE d M N st chn G (some (.int r)) ro (some (.int c)) (some (.bl l)) k) = .ok (.nxt, gE d M N st chn G (some (.int r)) ro (some (.int c)) (some (.bl b)) k) := by
  by_cases h : st = 5
  · by_cases h2 : (c : Int).fmod 3 = 0
    · exact ⟨true, by simp [t_law_grid_4_2_6, gE, asA, getA, setT, h, h2]⟩
    · exact ⟨decide ((r : Int).fmod 4 = 0), by simp [t_law_grid_4_2_6, gE, asA, getA, setT, h, h2]⟩
  · exact ⟨l, by simp [t_law_grid_4_2_6, gE, asA, getA, setT, h]⟩
theorem g427 (hl : row.length ≤ 100000) : ex t_law_grid_4_2_7 (gE d M N st chn G rr (some (.lst .own row)) cc (some (.bl l)) k) = .ok (.nxt, gE d M N st chn G rr (some (.lst .own (row ++ [.str (sg l)]))) cc (some (.bl l)) k) := by
  cases l <;> simp [t_law_grid_4_2_7, gE, asA, getA, rdS, ownL, small_sz hl, sg_x, sg_o]
theorem g42B (bs : List Bool) (hb : bs.length ≤ 90000) (ha : d.at_ < 900000) (hm : 0 < chn) : ∃ (d' : Deal) (b : Bool), forB (.var 8) t_law_grid_4_2B (.int c) (gE d M N st chn G (some (.int r)) (some (.lst .own (bs.map fun b => .str (sg b)))) cc land k) =
    .ok (.nxt, gE d' M N st chn G (some (.int r)) (some (.lst .own ((bs ++ [b]).map fun b => .str (sg b)))) (some (.int c)) (some (.bl b)) k) ∧ d'.at_ ≤ d.at_ + 2 := by
  have h0 : forB (.var 8) t_law_grid_4_2B (.int c) (gE d M N st chn G (some (.int r)) (some (.lst .own (bs.map fun b => .str (sg b)))) cc land k) = exs t_law_grid_4_2B (gE d M N st chn G (some (.int r)) (some (.lst .own (bs.map fun b => .str (sg b)))) (some (.int c)) land k) := by
    simp [forB, setT]
  have e1 := g421 (d := d) (M := M) (N := N) (st := st) (G := G) (rr := some (.int r)) (ro := some (.lst .own (bs.map fun b => .str (sg b)))) (cc := some (.int c)) (land := land) (k := k) (by omega) hm
  obtain ⟨d2, b2, e2, h2⟩ := g422 (d := d.nx) (M := M) (N := N) (st := st) (G := G) (rr := some (.int r)) (ro := some (.lst .own (bs.map fun b => .str (sg b)))) (cc := some (.int c)) (k := k) (l := decide (0 < d.tk chn)) (by simp; omega) hm
  obtain ⟨b3, e3⟩ := g423 (d := d2) (M := M) (N := N) (st := st) (chn := chn) (G := G) (r := r) (ro := some (.lst .own (bs.map fun b => .str (sg b)))) (c := c) (k := k) (l := b2)
  obtain ⟨b4, e4⟩ := g424 (d := d2) (M := M) (N := N) (st := st) (chn := chn) (G := G) (r := r) (ro := some (.lst .own (bs.map fun b => .str (sg b)))) (c := c) (k := k) (l := b3)
  obtain ⟨b5, e5⟩ := g425 (d := d2) (M := M) (N := N) (st := st) (chn := chn) (G := G) (r := r) (ro := some (.lst .own (bs.map fun b => .str (sg b)))) (c := c) (k := k) (l := b4)
  obtain ⟨b6, e6⟩ := g426 (d := d2) (M := M) (N := N) (st := st) (chn := chn) (G := G) (r := r) (ro := some (.lst .own (bs.map fun b => .str (sg b)))) (c := c) (k := k) (l := b5)
  have e7 := g427 (d := d2) (M := M) (N := N) (st := st) (chn := chn) (G := G) (rr := some (.int r)) (row := bs.map fun b => .str (sg b)) (cc := some (.int c)) (k := k) (l := b6) (by rw [List.length_map]; omega)
  refine ⟨d2, b6, ?_, by simp at h2; omega⟩
  rw [h0]
  unfold t_law_grid_4_2B
  rw [exs_step e1, exs_step e2, exs_step e3, exs_step e4, exs_step e5, exs_step e6, exs_step e7, q_exs_nil]
  simp
end
section
variable {d : Deal} {M N r c : Nat} {st chn : Int} {land k cc rr ro : Option PV} {l : Bool}
def rowL (bs : List Bool) : PV := .lst .own (bs.map fun b => .str (sg b))
theorem g42 {G : List PV} (hC : N ≤ 100) (ha : d.at_ < 800000) (hm : 0 < chn) : ∃ (d' : Deal) (bs : List Bool) (c' l' : Option PV), ex t_law_grid_4_2 (gE d M N st chn G (some (.int r)) (some (rowL [])) cc land k) =
    .ok (.nxt, gE d' M N st chn G (some (.int r)) (some (rowL bs)) c' l' k) ∧ bs.length = N ∧ d'.at_ ≤ d.at_ + 2 * N := by
  obtain ⟨en, h1, d', bs, c', l', rfl, h2, h3⟩ := loop_rng (b := forB (.var 8) t_law_grid_4_2B) (n := N) (fun i en => ∃ (d' : Deal) (bs : List Bool) (c' l' : Option PV), en = gE d' M N st chn G (some (.int r)) (some (rowL bs)) c' l' k ∧ bs.length = i ∧ d'.at_ ≤ d.at_ + 2 * i)
    (env := gE d M N st chn G (some (.int r)) (some (rowL [])) cc land k) (fun i en hi ⟨d', bs, c', l', e, h2, h3⟩ => by
      subst e
      obtain ⟨d2, b, h4, h5⟩ := g42B (d := d') (M := M) (N := N) (r := r) (c := i) (st := st) (G := G) (cc := c') (land := l') (k := k) bs (by omega) (by omega) hm
      exact ⟨_, h4, d2, bs ++ [b], _, _, rfl, by simp [h2], by omega⟩) ⟨d, [], cc, land, rfl, rfl, by omega⟩
  refine ⟨d', bs, c', l', ?_, h2, h3⟩
  unfold t_law_grid_4_2
  rw [q_ex_for, evI_rng (i := (N : Int)) (env' := gE d M N st chn G (some (.int r)) (some (rowL [])) cc land k) (by simp [rdS]) (rng_ok (by omega)), R.bind_ok]
  exact h1
def gridL (g : List (List Bool)) : List PV := g.map rowL
theorem g4B {g : List (List Bool)} (hg : g.length ≤ 100) (hC : N ≤ 100) (ha : d.at_ < 700000) (hm : 0 < chn) : ∃ (d' : Deal) (bs : List Bool) (c' l' : Option PV), forB (.var 6) t_law_grid_4B (.int r) (gE d M N st chn (gridL g) rr ro cc land k) =
    .ok (.nxt, gE d' M N st chn (gridL (g ++ [bs])) (some (.int r)) none c' l' k) ∧ bs.length = N ∧ d'.at_ ≤ d.at_ + 200 := by
  have h0 : forB (.var 6) t_law_grid_4B (.int r) (gE d M N st chn (gridL g) rr ro cc land k) = exs t_law_grid_4B (gE d M N st chn (gridL g) (some (.int r)) ro cc land k) := by
    simp [forB, setT]
  have e1 : ex t_law_grid_4_1 (gE d M N st chn (gridL g) (some (.int r)) ro cc land k) = .ok (.nxt, gE d M N st chn (gridL g) (some (.int r)) (some (rowL [])) cc land k) := by
    simp [t_law_grid_4_1, setT, sLen, rowL]
  obtain ⟨d', bs, c', l', e2, h2, h3⟩ := g42 (d := d) (M := M) (N := N) (r := r) (st := st) (G := gridL g) (cc := cc) (land := land) (k := k) hC (by omega) hm
  have e3 : ex t_law_grid_4_3 (gE d' M N st chn (gridL g) (some (.int r)) (some (rowL bs)) c' l' k) = .ok (.nxt, gE d' M N st chn (gridL (g ++ [bs])) (some (.int r)) none c' l' k) := by
    have hz : (gridL g).length < sizeLine := by
      unfold gridL; rw [List.length_map]; exact small_sz (by omega)
    simp only [t_law_grid_4_3, q_ex_app, slot5, slot7, gE]
    simp [mvS, rowL, ownL, hz, frz1]
    simp [gridL, rowL]
  refine ⟨d', bs, c', l', ?_, h2, by omega⟩
  rw [h0]
  unfold t_law_grid_4B
  rw [exs_step e1, exs_step e2, exs_step e3, q_exs_nil]
theorem g4 (hR : M ≤ 100) (hC : N ≤ 100) (ha : d.at_ < 600000) (hm : 0 < chn) : ∃ (d' : Deal) (g : List (List Bool)) (r' c' l' : Option PV), ex t_law_grid_4 (gE d M N st chn [] none none none none k) =
    .ok (.nxt, gE d' M N st chn (gridL g) r' none c' l' k) ∧ g.length = M ∧ (∀ x ∈ g, x.length = N) ∧ d'.at_ ≤ d.at_ + 200 * M := by
  obtain ⟨en, h1, d', g, r', c', l', rfl, h2, h3, h4⟩ := loop_rng (b := forB (.var 6) t_law_grid_4B) (n := M) (fun i en => ∃ (d' : Deal) (g : List (List Bool)) (r' c' l' : Option PV), en = gE d' M N st chn (gridL g) r' none c' l' k ∧ g.length = i ∧ (∀ x ∈ g, x.length = N) ∧ d'.at_ ≤ d.at_ + 200 * i)
    (env := gE d M N st chn [] none none none none k) (fun i en hi ⟨d', g, r', c', l', e, h2, h3, h4⟩ => by
      subst e
      obtain ⟨d2, bs, c2, l2, h5, h6, h7⟩ := g4B (d := d') (M := M) (N := N) (r := i) (st := st) (g := g) (rr := r') (ro := none) (cc := c') (land := l') (k := k) (by omega) hC (by omega) hm
      exact ⟨_, h5, d2, g ++ [bs], _, _, _, rfl, by simp [h2], fun x hx => by
        rcases List.mem_append.mp hx with hx | hx
        · exact h3 x hx
        · rw [List.mem_singleton.mp hx]; exact h6, by omega⟩) ⟨d, [], none, none, none, rfl, rfl, by simp, by omega⟩
  refine ⟨d', g, r', c', l', ?_, h2, h3, h4⟩
  unfold t_law_grid_4
  rw [q_ex_for, evI_rng (i := (M : Int)) (env' := gE d M N st chn [] none none none none k) (by simp [rdS]) (rng_ok (by omega)), R.bind_ok]
  exact h1
theorem list_fun {α β : Type} (L : List α) (n : Nat) (h : L.length = n) (φ : α → β) (e : α) : L.map φ = (List.range n).map fun k => φ (L.getD k e) := by
  subst h
  refine List.ext_getElem (by simp) fun i h1 h2 => ?_
  have h3 : i < L.length := by simpa using h1
  simp [List.getD_eq_getElem?_getD, h3]
theorem gridL_fun {g : List (List Bool)} (h1 : g.length = M) (h2 : ∀ x ∈ g, x.length = N) : ∃ f, gridL g = gridV M N f := by
  refine ⟨fun r c => (g.getD r []).getD c false, ?_⟩
  unfold gridL gridV
  rw [list_fun g M h1 rowL []]
  refine List.map_congr_left fun r hr => ?_
  have hr' : r < g.length := by rw [h1]; exact List.mem_range.mp hr
  have hx : g.getD r [] ∈ g := by
    rw [List.getD_eq_getElem?_getD, List.getElem?_eq_getElem hr']
    exact List.getElem_mem hr'
  unfold rowL
  rw [list_fun (g.getD r []) N (h2 _ hx) (fun b => PV.str (sg b)) false]
theorem g5B {f : Nat → Nat → Bool} {x : PV} (hR0 : 0 < M) (hC0 : 0 < N) (ha : d.at_ < 900000) : ∃ (f' : Nat → Nat → Bool) (r' c' : Option PV), forB (.var 10) t_law_grid_5B x (gE d M N st chn (gridV M N f) rr none cc land k) =
    .ok (.nxt, gE d.nx.nx M N st chn (gridV M N f') r' none c' land (some x)) := by
  have h0 : forB (.var 10) t_law_grid_5B x (gE d M N st chn (gridV M N f) rr none cc land k) = exs t_law_grid_5B (gE d M N st chn (gridV M N f) rr none cc land (some x)) := by
    simp [forB, setT]
  have hR1 : (0 : Int) < M := by omega
  have hC1 : (0 : Int) < N := by omega
  have a1 := d.tk_nn hR1
  have a2 := d.tk_lt hR1
  have a3 := d.nx.tk_nn hC1
  have a4 := d.nx.tk_lt hC1
  have e1 : ex t_law_grid_5_1 (gE d M N st chn (gridV M N f) rr none cc land (some x)) = .ok (.nxt, gE d.nx M N st chn (gridV M N f) (some (.int (d.tk M))) none cc land (some x)) := by
    unfold t_law_grid_5_1
    rw [q_ex_asg, take0V1 (x2 := some (.int N)) (by omega) hR1, R.bind_ok]
    rfl
  have e2 : ex t_law_grid_5_2 (gE d.nx M N st chn (gridV M N f) (some (.int (d.tk M))) none cc land (some x)) = .ok (.nxt, gE d.nx.nx M N st chn (gridV M N f) (some (.int (d.tk M))) none (some (.int (d.nx.tk N))) land (some x)) := by
    unfold t_law_grid_5_2
    rw [q_ex_asg, take0V2 (x1 := some (.int M)) (by simp; omega) hC1, R.bind_ok]
    rfl
  generalize d.tk M = u at *
  generalize d.nx.tk N = v at *
  have ha1 : atI (gridV M N f) u = some (.lst .own ((List.range N).map fun c => .str (sg (f u.toNat c)))) := atI_mapR a1 (by omega)
  have ha2 : atI ((List.range N).map fun c => PV.str (sg (f u.toNat c))) v = some (.str (sg (f u.toNat v.toNat))) := atI_mapR a3 (by omega)
  have hx1 : ixN (gridV M N f).length u = some u.toNat := ixN_in a1 (by unfold gridV; simp; omega)
  have hx2 : (gridV M N f)[u.toNat]? = some (.lst .own ((List.range N).map fun c => .str (sg (f u.toNat c)))) := by
    unfold gridV
    rw [List.getElem?_map, List.getElem?_range (by omega)]; rfl
  have hx3 : ixN N v = some v.toNat := ixN_in a3 (by omega)
  have e3 : ex t_law_grid_5_3 (gE d.nx.nx M N st chn (gridV M N f) (some (.int u)) none (some (.int v)) land (some x)) = .ok (.nxt, gE d.nx.nx M N st chn (gridV M N (upd2 f u.toNat v.toNat (!f u.toNat v.toNat))) (some (.int u)) none (some (.int v)) land (some x)) := by
    have hs := gridV_set (C := N) (f := f) (r := u.toNat) (c := v.toNat) (b := !f u.toNat v.toNat) (show u.toNat < M by omega)
    cases hf : f u.toNat v.toNat with
    | true =>
      rw [hf] at hs
      simp [t_law_grid_5_3, asA, getA, evK, ha1, ha2, hx1, hx2, hx3, sg_x, sg_o, hf, setIx]
      simpa using hs
    | false =>
      rw [hf] at hs
      simp [t_law_grid_5_3, asA, getA, evK, ha1, ha2, hx1, hx2, hx3, sg_x, sg_o, hf, setIx]
      simpa using hs
  refine ⟨upd2 f u.toNat v.toNat (!f u.toNat v.toNat), some (.int u), some (.int v), ?_⟩
  rw [h0]
  unfold t_law_grid_5B
  rw [exs_step e1, exs_step e2, exs_step e3, q_exs_nil]
theorem g5 {f : Nat → Nat → Bool} (hR0 : 0 < M) (hC0 : 0 < N) (ha : d.at_ < 800000) : ∃ (d' : Deal) (f' : Nat → Nat → Bool) (r' c' k' : Option PV), ex t_law_grid_5 (gE d M N st chn (gridV M N f) rr none cc land none) =
    .ok (.nxt, gE d' M N st chn (gridV M N f') r' none c' land k') ∧ d'.at_ ≤ d.at_ + 8 := by
  have a1 := d.tk_nn (m := 4) (by decide)
  have a2 := d.tk_lt (m := 4) (by decide)
  obtain ⟨t, ht⟩ : ∃ t : Nat, d.tk 4 = (t : Int) := ⟨(d.tk 4).toNat, by omega⟩
  obtain ⟨en, h1, d', f', r', c', k', rfl, h2⟩ := loop_rng (b := forB (.var 10) t_law_grid_5B) (n := t) (fun i en => ∃ (d' : Deal) (f' : Nat → Nat → Bool) (r' c' k' : Option PV), en = gE d' M N st chn (gridV M N f') r' none c' land k' ∧ d'.at_ ≤ d.at_ + 1 + 2 * i)
    (env := gE d.nx M N st chn (gridV M N f) rr none cc land none) (fun i en hi ⟨d', f', r', c', k', e, h2⟩ => by
      subst e
      obtain ⟨f2, r2, c2, h5⟩ := g5B (d := d') (M := M) (N := N) (st := st) (chn := chn) (f := f') (rr := r') (cc := c') (land := land) (k := k') (x := .int (i : Nat)) hR0 hC0 (by omega)
      exact ⟨_, h5, d'.nx.nx, f2, _, _, _, rfl, by simp; omega⟩) ⟨d.nx, f, rr, cc, none, rfl, by simp⟩
  refine ⟨d', f', r', c', k', ?_, by omega⟩
  have e0 : ev (.call "_law_take" c__law_take (.cons (.var 0) (.cons (.lit (.int 4)) .nil))) (gE d M N st chn (gridV M N f) rr none cc land none) = .ok (.int (t : Int), gE d.nx M N st chn (gridV M N f) rr none cc land none) := by
    rw [take0 (by omega) (by decide), ht]
  unfold t_law_grid_5
  rw [q_ex_for, evI_rng e0 (rng_ok (by omega)), R.bind_ok]
  exact h1
theorem g6 {f : Nat → Nat → Bool} (hM : M ≤ 1000) (hN : N ≤ 1000) : ex t_law_grid_6 (gE d M N st chn (gridV M N f) rr none cc land k) = .ok (.ret (pcV M N f), [some d.pv, some (.int M), some (.int N), some (.int st), some (.int chn), some (.lst .frz (gridV M N f)), rr, none, cc, land, k]) := by
  have hl : ev (.lc false [7] (.var 7) (.val (.var 5)) .no (.mth .join (.lit (.str (Str.ofString ""))) (.cons (.var 7) .nil))) (gE d M N st chn (gridV M N f) rr none cc land k) = .ok (.lst .own ((List.range M).map fun r => frz (.str (rowT N (f r)))), [some d.pv, some (.int M), some (.int N), some (.int st), some (.int chn), some (.lst .frz (gridV M N f)), rr, none, cc, land, k]) := by
    refine ev_lcM (emb := fun r => .lst .frz ((List.range N).map fun c => .str (sg (f r c)))) (xs := List.range M) (g := fun r => .str (rowT N (f r))) ?_ (by rfl) (by rfl) (by simpa using small_sz (by omega)) ?_
    · simp only [q_evI_val, q_ev_var, rdS, gE, slot5, isOwn_ldeep, if_true, R.bind_ok, frz_deep]
      simp [itemsP, gridV]
    · intro r _
      refine ⟨[some d.pv, some (.int M), some (.int N), some (.int st), some (.int chn), some (.lst .frz (gridV M N f)), rr, some (.lst .frz ((List.range N).map fun c => .str (sg (f r c)))), cc, land, k], rfl, rfl, ?_⟩
      simp [asA, getA, getAs, sg_e, join_row (show N ≤ 100000 by omega)]
  have hf : flat .own = true := rfl
  unfold t_law_grid_6
  rw [q_ex_ret_2, q_ev_blt, q_evAs_cons, show ∀ r en, asA (.lc false [7] (.var 7) (.val (.var 5)) .no (.mth .join (.lit (.str (Str.ofString ""))) (.cons (.var 7) .nil))) r en = r.bind fun p => .ok (.val p.1, p.2) from fun _ _ => rfl, hl]
  simp [getA, getAs, bltP, hf, pcV]
end
/-- _law_grid makes a piece of signs -/
theorem run_grid {d : Deal} {M N : Nat} (hM0 : 0 < M) (hM : M ≤ 100) (hN0 : 0 < N) (hN : N ≤ 100) (ha : d.at_ < 500000) : ∃ (d' : Deal) (f : Nat → Nat → Bool), run c__law_grid [d.pv, .int M, .int N] = .ok (pcV M N f, [d'.pv, .int M, .int N]) ∧ d'.at_ ≤ d.at_ + 200 * M + 20 := by
  have b1 := d.nx.tk_nn (m := 4) (by decide)
  have b2 := d.nx.tk_lt (m := 4) (by decide)
  have e1 : ex t_law_grid_1 [some d.pv, some (.int M), some (.int N), none, none, none, none, none, none, none, none] = .ok (.nxt, [some d.nx.pv, some (.int M), some (.int N), some (.int (d.tk 7)), none, none, none, none, none, none, none]) := by
    unfold t_law_grid_1
    rw [q_ex_asg, take0 (by omega) (by decide), R.bind_ok]
    rfl
  obtain ⟨chn, hc, e2⟩ : ∃ chn : Int, 0 < chn ∧ ex t_law_grid_2 [some d.nx.pv, some (.int M), some (.int N), some (.int (d.tk 7)), none, none, none, none, none, none, none] = .ok (.nxt, [some d.nx.nx.pv, some (.int M), some (.int N), some (.int (d.tk 7)), some (.int chn), none, none, none, none, none, none]) := by
    have ht := take0 (d := d.nx) (r := [some (.int M), some (.int N), some (.int (d.tk 7)), none, none, none, none, none, none, none]) (m := 4) (by simp; omega) (by decide)
    refine ⟨d.nx.tk 4 + 2, by omega, ?_⟩
    generalize d.nx.tk 4 = u at *
    have hu : u = 0 ∨ u = 1 ∨ u = 2 ∨ u = 3 := by omega
    have a3 : ∀ (x y z w : PV) (xs : List PV), atI (x :: y :: z :: w :: xs) 3 = some w := fun x y z w xs => atI_nat (j := 3) rfl
    rcases hu with rfl | rfl | rfl | rfl <;> simp [-q_ev_call, t_law_grid_2, asA, getA, ht, setT, sLen, a3]
  have e3 : ex t_law_grid_3 [some d.nx.nx.pv, some (.int M), some (.int N), some (.int (d.tk 7)), some (.int chn), none, none, none, none, none, none] = .ok (.nxt, gE d.nx.nx M N (d.tk 7) chn [] none none none none none) := by
    simp [t_law_grid_3, setT, sLen]
  obtain ⟨d4, g, r4, c4, l4, e4, h1, h2, h3⟩ := g4 (d := d.nx.nx) (M := M) (N := N) (st := d.tk 7) (chn := chn) (k := none) hM hN (by simp; omega) hc
  obtain ⟨f, hf⟩ := gridL_fun h1 h2
  rw [hf] at e4
  simp only [Deal.at_nx] at h3
  obtain ⟨d5, f5, r5, c5, k5, e5, h5⟩ := g5 (d := d4) (M := M) (N := N) (st := d.tk 7) (chn := chn) (f := f) (rr := r4) (cc := c4) (land := l4) hM0 hN0 (by omega)
  have e6 := g6 (d := d5) (M := M) (N := N) (st := d.tk 7) (chn := chn) (f := f5) (rr := r5) (cc := c5) (land := l4) (k := k5) (by omega) (by omega)
  refine ⟨d5, f5, ?_, by omega⟩
  refine run_ok (en := [some d5.pv, some (.int M), some (.int N), some (.int (d.tk 7)), some (.int chn), some (.lst .frz (gridV M N f5)), r5, none, c5, l4, k5]) rfl (by decide) ?_ ?_ ?_
  · simp [freeA, asgB, asgS, asgT, t_law_grid_1, t_law_grid_2, t_law_grid_3, t_law_grid_4, t_law_grid_4B, t_law_grid_4_1, t_law_grid_4_2, t_law_grid_4_3, t_law_grid_4_2B, t_law_grid_4_2_1, t_law_grid_4_2_2, t_law_grid_4_2_3, t_law_grid_4_2_4, t_law_grid_4_2_5, t_law_grid_4_2_6, t_law_grid_4_2_7, t_law_grid_5, t_law_grid_5B, t_law_grid_5_1, t_law_grid_5_2, t_law_grid_5_3, t_law_grid_6]
  · show exs (.cons t_law_grid_1 (.cons t_law_grid_2 (.cons t_law_grid_3 (.cons t_law_grid_4 (.cons t_law_grid_5 (.cons t_law_grid_6 .nil)))))) [some d.pv, some (.int M), some (.int N), none, none, none, none, none, none, none, none] = _
    rw [exs_step e1, exs_step e2, exs_step e3, exs_step e4, exs_step e5, exs_ret e6]
  · simp [outs]
/-! ### side_neighbours, _law_bool -/
def sidesL (p : Int × Int) : List (Int × Int) := [(p.1 - 1, p.2), (p.1, p.2 - 1), (p.1, p.2 + 1), (p.1 + 1, p.2)]
theorem run_sides (p : Int × Int) : run c_side_neighbours [sq p] = .ok (.lst .own ((sidesL p).map sq), [sq p]) := by
  unfold c_side_neighbours
  rw [run_mk, if_pos ⟨rfl, by decide, by simp [freeA, asgB, asgS, asgT, t_side_neighbours_1, t_side_neighbours_2]⟩]
  simp [t_side_neighbours_1, t_side_neighbours_2, rdS, asA, getA, sLen_of, outs, sidesL, sq_mk]
theorem run_bool (a b : Bool) : run c__law_bool [.bl a, .bl b] = .ok (.bl (decide (a = b)), [.bl a, .bl b]) := by
  unfold c__law_bool
  rw [run_mk, if_pos ⟨rfl, by decide, by simp [freeA, asgB, asgS, asgT, t_law_bool_1]⟩]
  simp [t_law_bool_1, asA, getA, getAs, bltP, isTy, outs]
end EL

set_option maxRecDepth 100000
namespace EL
open PySem 
def t_neighbours_1 : CS := (.asg (.tup [1, 2]) (.var 0))
def t_neighbours_2 : CS := (.asg (.var 3) (.lst false .nil))
def t_neighbours_3_1_1 : CS := (.ite (.or (.cmp .ne (.var 4) (.lit (.int 0))) (.cmp .ne (.var 5) (.lit (.int 0)))) (.cons (.app 3 (.tup (.cons (.bin .add (.var 1) (.var 4)) (.cons (.bin .add (.var 2) (.var 5)) .nil)))) .nil) .nil)
def t_neighbours_3_1B : CSs := (.cons t_neighbours_3_1_1 .nil)
def t_neighbours_3_1 : CS := (.for_ (.var 5) (.val (.tup (.cons (.neg (.lit (.int 1))) (.cons (.lit (.int 0)) (.cons (.lit (.int 1)) .nil))))) t_neighbours_3_1B)
def t_neighbours_3B : CSs := (.cons t_neighbours_3_1 .nil)
def t_neighbours_3 : CS := (.for_ (.var 4) (.val (.tup (.cons (.neg (.lit (.int 1))) (.cons (.lit (.int 0)) (.cons (.lit (.int 1)) .nil))))) t_neighbours_3B)
def t_neighbours_4 : CS := (.ret (.yes (.mv 3)))
def c_neighbours : CF := .mk 1 ["square", "row", "column", "found", "down", "right"] (.cons t_neighbours_1 (.cons t_neighbours_2 (.cons t_neighbours_3 (.cons t_neighbours_4 .nil))))
def t_law_around_1 : CS := (.asg (.tup [1, 2]) (.var 0))
def t_law_around_2 : CS := (.asg (.var 3) (.lst false .nil))
def t_law_around_3_1_1 : CS := (.ite (.or (.cmp .ne (.var 4) (.lit (.int 0))) (.cmp .ne (.var 5) (.lit (.int 0)))) (.cons (.app 3 (.tup (.cons (.bin .add (.var 1) (.var 4)) (.cons (.bin .add (.var 2) (.var 5)) .nil)))) .nil) .nil)
def t_law_around_3_1B : CSs := (.cons t_law_around_3_1_1 .nil)
def t_law_around_3_1 : CS := (.for_ (.var 5) (.val (.lst false (.cons (.neg (.lit (.int 1))) (.cons (.lit (.int 0)) (.cons (.lit (.int 1)) .nil))))) t_law_around_3_1B)
def t_law_around_3B : CSs := (.cons t_law_around_3_1 .nil)
def t_law_around_3 : CS := (.for_ (.var 4) (.val (.lst false (.cons (.neg (.lit (.int 1))) (.cons (.lit (.int 0)) (.cons (.lit (.int 1)) .nil))))) t_law_around_3B)
def t_law_around_4 : CS := (.ret (.yes (.mv 3)))
def c__law_around : CF := .mk 1 ["square", "r", "c", "found", "down", "right"] (.cons t_law_around_1 (.cons t_law_around_2 (.cons t_law_around_3 (.cons t_law_around_4 .nil))))
end EL

set_option maxRecDepth 100000
set_option maxHeartbeats 4000000
namespace EL
open PySem PySem.Spec L2
theorem loopF_nil {b : PV → EL.Env → R (Flow × EL.Env)} {env : EL.Env} : loopF b [] env = .ok (.nxt, env) := rfl
theorem loopF_nxt {b : PV → EL.Env → R (Flow × EL.Env)} {x : PV} {xs : List PV} {env env' : EL.Env} (h : b x env = .ok (.nxt, env')) : loopF b (x :: xs) env = loopF b xs env' := by
  show (b x env).bind _ = _
  rw [h, R.bind_ok]
/-- the eight squares around one, in order -/
def aroundL (p : Int × Int) : List (Int × Int) := [(p.1 + -1, p.2 + -1), (p.1 + -1, p.2 + 0), (p.1 + -1, p.2 + 1), (p.1 + 0, p.2 + -1), (p.1 + 0, p.2 + 1), (p.1 + 1, p.2 + -1), (p.1 + 1, p.2 + 0), (p.1 + 1, p.2 + 1)]
abbrev nbE (p : Int × Int) (L : List (Int × Int)) (d r : Option PV) : EL.Env := [some (sq p), some (.int p.1), some (.int p.2), some (.lst .own (L.map sq)), d, r]
theorem nb_turn {p : Int × Int} {L : List (Int × Int)} {d r : Int} {x : Option PV} (hL : L.length ≤ 100) : forB (.var 5) t_neighbours_3_1B (.int r) (nbE p L (some (.int d)) x) = .ok (.nxt, nbE p (L ++ if d ≠ 0 ∨ r ≠ 0 then [(p.1 + d, p.2 + r)] else []) (some (.int d)) (some (.int r))) := by
  have hz : L.length < sizeLine := small_sz (by omega)
  have h0 : forB (.var 5) t_neighbours_3_1B (.int r) (nbE p L (some (.int d)) x) = exs t_neighbours_3_1B (nbE p L (some (.int d)) (some (.int r))) := by simp [forB, setT]
  rw [h0]
  unfold t_neighbours_3_1B
  by_cases h1 : d = 0
  · by_cases h2 : r = 0
    · subst h1; subst h2
      simp [t_neighbours_3_1_1, asA, getA]
    · subst h1
      simp [t_neighbours_3_1_1, asA, getA, h2, ownL, hz, sLen, sq_mk]
  · simp [t_neighbours_3_1_1, asA, getA, h1, ownL, hz, sLen, sq_mk]
theorem nb_row {p : Int × Int} {L : List (Int × Int)} {d : Int} {x : Option PV} (hL : L.length ≤ 90) : ex t_neighbours_3_1 (nbE p L (some (.int d)) x) = .ok (.nxt, nbE p (((L ++ if d ≠ 0 ∨ (-1 : Int) ≠ 0 then [(p.1 + d, p.2 + -1)] else []) ++ if d ≠ 0 ∨ (0 : Int) ≠ 0 then [(p.1 + d, p.2 + 0)] else []) ++ if d ≠ 0 ∨ (1 : Int) ≠ 0 then [(p.1 + d, p.2 + 1)] else []) (some (.int d)) (some (.int 1))) := by
  have ei : evI (.val (.tup (.cons (.neg (.lit (.int 1))) (.cons (.lit (.int 0)) (.cons (.lit (.int 1)) .nil))))) (nbE p L (some (.int d)) x) = .ok ([.int (-1), .int 0, .int 1], nbE p L (some (.int d)) x) := by
    simp [itemsP, sLen]
  have l1 : ∀ (c : Prop) [Decidable c] (q : Int × Int), (if c then [q] else []).length ≤ 1 := fun c _ q => by split <;> simp
  have := l1 (d ≠ 0 ∨ (-1 : Int) ≠ 0) (p.1 + d, p.2 + -1)
  have := l1 (d ≠ 0 ∨ (0 : Int) ≠ 0) (p.1 + d, p.2 + 0)
  unfold t_neighbours_3_1
  rw [q_ex_for, ei, R.bind_ok]
  simp only
  rw [loopF_nxt (nb_turn (by omega)), loopF_nxt (nb_turn (by rw [List.length_append]; omega)), loopF_nxt (nb_turn (by rw [List.length_append, List.length_append]; omega)), loopF_nil]
theorem run_around (p : Int × Int) : run c_neighbours [sq p] = .ok (.lst .own ((aroundL p).map sq), [sq p]) := by
  have e1 : ex t_neighbours_1 [some (sq p), none, none, none, none, none] = .ok (.nxt, [some (sq p), some (.int p.1), some (.int p.2), none, none, none]) := by simp [t_neighbours_1, rdS]
  have e2 : ex t_neighbours_2 [some (sq p), some (.int p.1), some (.int p.2), none, none, none] = .ok (.nxt, nbE p [] none none) := by simp [t_neighbours_2, setT, sLen]
  have ei : evI (.val (.tup (.cons (.neg (.lit (.int 1))) (.cons (.lit (.int 0)) (.cons (.lit (.int 1)) .nil))))) (nbE p [] none none) = .ok ([.int (-1), .int 0, .int 1], nbE p [] none none) := by
    simp [itemsP, sLen]
  have turn : ∀ (L : List (Int × Int)) (d : Int) (x y : Option PV), L.length ≤ 50 → forB (.var 4) t_neighbours_3B (.int d) (nbE p L x y) = .ok (.nxt, nbE p (((L ++ if d ≠ 0 ∨ (-1 : Int) ≠ 0 then [(p.1 + d, p.2 + -1)] else []) ++ if d ≠ 0 ∨ (0 : Int) ≠ 0 then [(p.1 + d, p.2 + 0)] else []) ++ if d ≠ 0 ∨ (1 : Int) ≠ 0 then [(p.1 + d, p.2 + 1)] else []) (some (.int d)) (some (.int 1))) := fun L d x y hL => by
    have h0 : forB (.var 4) t_neighbours_3B (.int d) (nbE p L x y) = exs t_neighbours_3B (nbE p L (some (.int d)) y) := by simp [forB, setT]
    rw [h0]
    unfold t_neighbours_3B
    rw [exs_step (nb_row (by omega)), q_exs_nil]
  have e3 : ex t_neighbours_3 (nbE p [] none none) = .ok (.nxt, nbE p (aroundL p) (some (.int 1)) (some (.int 1))) := by
    unfold t_neighbours_3
    rw [q_ex_for, ei, R.bind_ok]
    simp only
    rw [loopF_nxt (turn _ _ _ _ (by simp)), loopF_nxt (turn _ _ _ _ (by simp)), loopF_nxt (turn _ _ _ _ (by simp)), loopF_nil]
    simp [aroundL]
  exact run_ok (en := [some (sq p), some (.int p.1), some (.int p.2), none, some (.int 1), some (.int 1)]) rfl (by decide) (by simp [freeA, asgB, asgS, asgT, t_neighbours_1, t_neighbours_2, t_neighbours_3, t_neighbours_3B, t_neighbours_3_1, t_neighbours_3_1B, t_neighbours_3_1_1, t_neighbours_4]) ((exs_step e1).trans <| (exs_step e2).trans <| (exs_step e3).trans <| exs_ret (by simp [t_neighbours_4, mvS])) (by simp [outs])
abbrev laE (p : Int × Int) (L : List (Int × Int)) (d r : Option PV) : EL.Env := [some (sq p), some (.int p.1), some (.int p.2), some (.lst .own (L.map sq)), d, r]
theorem la_turn {p : Int × Int} {L : List (Int × Int)} {d r : Int} {x : Option PV} (hL : L.length ≤ 100) : forB (.var 5) t_law_around_3_1B (.int r) (laE p L (some (.int d)) x) = .ok (.nxt, laE p (L ++ if d ≠ 0 ∨ r ≠ 0 then [(p.1 + d, p.2 + r)] else []) (some (.int d)) (some (.int r))) := by
  have hz : L.length < sizeLine := small_sz (by omega)
  have h0 : forB (.var 5) t_law_around_3_1B (.int r) (laE p L (some (.int d)) x) = exs t_law_around_3_1B (laE p L (some (.int d)) (some (.int r))) := by simp [forB, setT]
  rw [h0]
  unfold t_law_around_3_1B
  by_cases h1 : d = 0
  · by_cases h2 : r = 0
    · subst h1; subst h2
      simp [t_law_around_3_1_1, asA, getA]
    · subst h1
      simp [t_law_around_3_1_1, asA, getA, h2, ownL, hz, sLen, sq_mk]
  · simp [t_law_around_3_1_1, asA, getA, h1, ownL, hz, sLen, sq_mk]
theorem la_row {p : Int × Int} {L : List (Int × Int)} {d : Int} {x : Option PV} (hL : L.length ≤ 90) : ex t_law_around_3_1 (laE p L (some (.int d)) x) = .ok (.nxt, laE p (((L ++ if d ≠ 0 ∨ (-1 : Int) ≠ 0 then [(p.1 + d, p.2 + -1)] else []) ++ if d ≠ 0 ∨ (0 : Int) ≠ 0 then [(p.1 + d, p.2 + 0)] else []) ++ if d ≠ 0 ∨ (1 : Int) ≠ 0 then [(p.1 + d, p.2 + 1)] else []) (some (.int d)) (some (.int 1))) := by
  have ei : evI (.val (.lst false (.cons (.neg (.lit (.int 1))) (.cons (.lit (.int 0)) (.cons (.lit (.int 1)) .nil))))) (laE p L (some (.int d)) x) = .ok ([.int (-1), .int 0, .int 1], laE p L (some (.int d)) x) := by
    simp [itemsP, sLen]
  have l1 : ∀ (c : Prop) [Decidable c] (q : Int × Int), (if c then [q] else []).length ≤ 1 := fun c _ q => by split <;> simp
  have := l1 (d ≠ 0 ∨ (-1 : Int) ≠ 0) (p.1 + d, p.2 + -1)
  have := l1 (d ≠ 0 ∨ (0 : Int) ≠ 0) (p.1 + d, p.2 + 0)
  unfold t_law_around_3_1
  rw [q_ex_for, ei, R.bind_ok]
  simp only
  rw [loopF_nxt (la_turn (by omega)), loopF_nxt (la_turn (by rw [List.length_append]; omega)), loopF_nxt (la_turn (by rw [List.length_append, List.length_append]; omega)), loopF_nil]
theorem run_law_around (p : Int × Int) : run c__law_around [sq p] = .ok (.lst .own ((aroundL p).map sq), [sq p]) := by
  have e1 : ex t_law_around_1 [some (sq p), none, none, none, none, none] = .ok (.nxt, [some (sq p), some (.int p.1), some (.int p.2), none, none, none]) := by simp [t_law_around_1, rdS]
  have e2 : ex t_law_around_2 [some (sq p), some (.int p.1), some (.int p.2), none, none, none] = .ok (.nxt, laE p [] none none) := by simp [t_law_around_2, setT, sLen]
  have ei : evI (.val (.lst false (.cons (.neg (.lit (.int 1))) (.cons (.lit (.int 0)) (.cons (.lit (.int 1)) .nil))))) (laE p [] none none) = .ok ([.int (-1), .int 0, .int 1], laE p [] none none) := by
    simp [itemsP, sLen]
  have turn : ∀ (L : List (Int × Int)) (d : Int) (x y : Option PV), L.length ≤ 50 → forB (.var 4) t_law_around_3B (.int d) (laE p L x y) = .ok (.nxt, laE p (((L ++ if d ≠ 0 ∨ (-1 : Int) ≠ 0 then [(p.1 + d, p.2 + -1)] else []) ++ if d ≠ 0 ∨ (0 : Int) ≠ 0 then [(p.1 + d, p.2 + 0)] else []) ++ if d ≠ 0 ∨ (1 : Int) ≠ 0 then [(p.1 + d, p.2 + 1)] else []) (some (.int d)) (some (.int 1))) := fun L d x y hL => by
    have h0 : forB (.var 4) t_law_around_3B (.int d) (laE p L x y) = exs t_law_around_3B (laE p L (some (.int d)) y) := by simp [forB, setT]
    rw [h0]
    unfold t_law_around_3B
    rw [exs_step (la_row (by omega)), q_exs_nil]
  have e3 : ex t_law_around_3 (laE p [] none none) = .ok (.nxt, laE p (aroundL p) (some (.int 1)) (some (.int 1))) := by
    unfold t_law_around_3
    rw [q_ex_for, ei, R.bind_ok]
    simp only
    rw [loopF_nxt (turn _ _ _ _ (by simp)), loopF_nxt (turn _ _ _ _ (by simp)), loopF_nxt (turn _ _ _ _ (by simp)), loopF_nil]
    simp [aroundL]
  exact run_ok (en := [some (sq p), some (.int p.1), some (.int p.2), none, some (.int 1), some (.int 1)]) rfl (by decide) (by simp [freeA, asgB, asgS, asgT, t_law_around_1, t_law_around_2, t_law_around_3, t_law_around_3B, t_law_around_3_1, t_law_around_3_1B, t_law_around_3_1_1, t_law_around_4]) ((exs_step e1).trans <| (exs_step e2).trans <| (exs_step e3).trans <| exs_ret (by simp [t_law_around_4, mvS])) (by simp [outs])
end EL

set_option maxRecDepth 100000
namespace EL
open PySem 
def t_law_split_1 : CS := (.asg (.tup [2, 3]) (.var 0))
def t_law_split_2 : CS := (.asg (.var 4) (.bin .fdiv (.idx (.var 1) (.lit (.int 0))) (.blt .len (.cons (.var 2) .nil))))
def t_law_split_3 : CS := (.asg (.var 5) (.bin .fdiv (.bin .sub (.idx (.var 1) (.lit (.int 1))) (.bin .mul (.var 4) (.var 3))) (.blt .len (.cons (.idx (.var 2) (.lit (.int 0))) .nil))))
def t_law_split_4 : CS := (.asg (.var 6) (.tup (.cons (.bin .sub (.idx (.var 1) (.lit (.int 0))) (.bin .mul (.var 4) (.blt .len (.cons (.var 2) .nil)))) (.cons (.bin .sub (.bin .sub (.idx (.var 1) (.lit (.int 1))) (.bin .mul (.var 4) (.var 3))) (.bin .mul (.var 5) (.blt .len (.cons (.idx (.var 2) (.lit (.int 0))) .nil)))) .nil))))
def t_law_split_5 : CS := (.ret (.yes (.lst false (.cons (.mv 6) (.cons (.tup (.cons (.mv 4) (.cons (.mv 5) .nil))) .nil)))))
def c__law_split : CF := .mk 2 ["floor", "square", "piece", "shift", "down", "right", "place"] (.cons t_law_split_1 (.cons t_law_split_2 (.cons t_law_split_3 (.cons t_law_split_4 (.cons t_law_split_5 .nil)))))
def t_law_at_1 : CS := (.asg (.var 3) (.idx (.call "_law_split" c__law_split (.cons (.var 0) (.cons (.tup (.cons (.var 1) (.cons (.var 2) .nil))) .nil))) (.lit (.int 0))))
def t_law_at_2 : CS := (.ret (.yes (.cmp .eq (.idx (.idx (.idx (.var 0) (.lit (.int 0))) (.idx (.var 3) (.lit (.int 0)))) (.idx (.var 3) (.lit (.int 1)))) (.lit (.str (Str.ofString "x"))))))
def c__law_at : CF := .mk 3 ["floor", "r", "c", "place"] (.cons t_law_at_1 (.cons t_law_at_2 .nil))
def t_law_all_1 : CS := (.asg (.var 1) (.lst false .nil))
def t_law_all_2_1_1 : CS := (.app 1 (.tup (.cons (.var 2) (.cons (.mv 3) .nil))))
def t_law_all_2_1B : CSs := (.cons t_law_all_2_1_1 .nil)
def t_law_all_2_1 : CS := (.for_ (.var 3) (.rng1 (.blt .len (.cons (.idx (.idx (.var 0) (.lit (.int 0))) (.lit (.int 0))) .nil))) t_law_all_2_1B)
def t_law_all_2B : CSs := (.cons t_law_all_2_1 .nil)
def t_law_all_2 : CS := (.for_ (.var 2) (.rng1 (.blt .len (.cons (.idx (.var 0) (.lit (.int 0))) .nil))) t_law_all_2B)
def t_law_all_3 : CS := (.ret (.yes (.mv 1)))
def c__law_all : CF := .mk 1 ["floor", "found", "r", "c"] (.cons t_law_all_1 (.cons t_law_all_2 (.cons t_law_all_3 .nil)))
def t_law_sides_1 : CS := (.asg (.tup [1, 2]) (.var 0))
def t_law_sides_2 : CS := (.ret (.yes (.lst false (.cons (.tup (.cons (.bin .sub (.var 1) (.lit (.int 1))) (.cons (.var 2) .nil))) (.cons (.tup (.cons (.var 1) (.cons (.bin .sub (.var 2) (.lit (.int 1))) .nil))) (.cons (.tup (.cons (.var 1) (.cons (.bin .add (.var 2) (.lit (.int 1))) .nil))) (.cons (.tup (.cons (.bin .add (.var 1) (.lit (.int 1))) (.cons (.var 2) .nil))) .nil)))))))
def c__law_sides : CF := .mk 1 ["square", "r", "c"] (.cons t_law_sides_1 (.cons t_law_sides_2 .nil))
def t_lift_1 : CS := (.asg (.tup [2, 3]) (.var 0))
def t_lift_2 : CS := (.ret (.yes (.tup (.cons (.bin .mul (.idx (.var 1) (.lit (.int 0))) (.blt .len (.cons (.var 2) .nil))) (.cons (.bin .add (.bin .mul (.idx (.var 1) (.lit (.int 0))) (.var 3)) (.bin .mul (.idx (.var 1) (.lit (.int 1))) (.blt .len (.cons (.idx (.var 2) (.lit (.int 0))) .nil)))) .nil)))))
def c_lift : CF := .mk 2 ["floor", "copy", "piece", "shift"] (.cons t_lift_1 (.cons t_lift_2 .nil))
def t_copy_of_1 : CS := (.asg (.tup [2, 3]) (.var 0))
def t_copy_of_2 : CS := (.asg (.var 4) (.bin .fdiv (.idx (.var 1) (.lit (.int 0))) (.blt .len (.cons (.var 2) .nil))))
def t_copy_of_3 : CS := (.ret (.yes (.tup (.cons (.var 4) (.cons (.bin .fdiv (.bin .sub (.idx (.var 1) (.lit (.int 1))) (.bin .mul (.var 4) (.var 3))) (.blt .len (.cons (.idx (.var 2) (.lit (.int 0))) .nil))) .nil)))))
def c_copy_of : CF := .mk 2 ["floor", "square", "piece", "shift", "down"] (.cons t_copy_of_1 (.cons t_copy_of_2 (.cons t_copy_of_3 .nil)))
def t_place_of_1 : CS := (.asg (.tup [2, 3]) (.call "lift" c_lift (.cons (.var 0) (.cons (.call "copy_of" c_copy_of (.cons (.var 0) (.cons (.var 1) .nil))) .nil))))
def t_place_of_2 : CS := (.ret (.yes (.tup (.cons (.bin .sub (.idx (.var 1) (.lit (.int 0))) (.var 2)) (.cons (.bin .sub (.idx (.var 1) (.lit (.int 1))) (.var 3)) .nil)))))
def c_place_of : CF := .mk 2 ["floor", "square", "down", "right"] (.cons t_place_of_1 (.cons t_place_of_2 .nil))
def t_is_land_1 : CS := (.asg (.tup [2, 3]) (.call "place_of" c_place_of (.cons (.var 0) (.cons (.var 1) .nil))))
def t_is_land_2 : CS := (.ret (.yes (.cmp .eq (.idx (.idx (.idx (.var 0) (.lit (.int 0))) (.var 2)) (.var 3)) (.glb "LAND" (.str (Str.ofString "x"))))))
def c_is_land : CF := .mk 2 ["floor", "square", "row", "column"] (.cons t_is_land_1 (.cons t_is_land_2 .nil))
def t_places_1 : CS := (.asg (.var 1) (.idx (.var 0) (.lit (.int 0))))
def t_places_2 : CS := (.ret (.yes (.lc2 [2, 3] [3] (.var 2) (.rng1 (.blt .len (.cons (.var 1) .nil))) .no (.var 3) (.rng1 (.blt .len (.cons (.idx (.var 1) (.lit (.int 0))) .nil))) .no (.tup (.cons (.var 2) (.cons (.var 3) .nil))))))
def c_places : CF := .mk 1 ["floor", "piece", "row", "column"] (.cons t_places_1 (.cons t_places_2 .nil))
end EL

set_option maxRecDepth 100000
set_option maxHeartbeats 4000000
namespace EL
open PySem PySem.Spec L2
theorem setT_v {i : Nat} {v : PV} {env : EL.Env} : setT (.var i) v env = some (env.set i (some v)) := rfl
theorem v_mulL (f : Fl) (xs : List PV) (k : Int) : binP .mul (.lst f xs) (.int k) = if flat f && decide (-(2 ^ 63) ≤ k) && decide (k < 2 ^ 63) && sLen (xs.length * k.toNat) then some (.lst .own (List.replicate k.toNat xs).flatten) else none := rfl
theorem v_mulS (x : Str) (k : Int) : binP .mul (.str x) (.int k) = if decide (-(2 ^ 63) ≤ k) && decide (k < 2 ^ 63) && sLen (x.length * k.toNat) then some (.str (Txt.mul x k)) else none := rfl
theorem foldl_ones (c : Nat) : ∀ (k : Nat) (a : Array Nat), (List.replicate k (#[c] : Array Nat)).foldl (· ++ ·) a = a ++ (List.replicate k c).toArray
  | 0, a => by simp
  | k + 1, a => by
    rw [List.replicate_succ, List.foldl_cons, foldl_ones c k]
    apply Array.ext'
    simp [List.replicate_succ]
theorem mul_sg {N : Nat} {b : Bool} (h0 : 0 < N) (h1 : N ≤ 100000) : binP .mul (.str (sg b)) (.int N) = some (.str (rowT N fun _ => b)) := by
  have z : sLen ((sg b).length * (N : Int).toNat) = true := sLen_of (by simp [sg, Str.length]; omega)
  rw [v_mulS, z, decide_eq_true (by omega), decide_eq_true (by omega)]
  have e : Txt.mul (sg b) N = rowT N fun _ => b := by
    unfold Txt.mul
    rw [if_neg (by omega)]
    have e2 : (List.range N).map (fun _ => ch b) = List.replicate N (ch b) := by rw [List.map_const', List.length_range]
    by_cases h : N = 1
    · subst h; rfl
    · rw [if_neg]
      · unfold rowT sg
        rw [Int.toNat_natCast, foldl_ones, e2]
        simp
      · have h2 : ¬ ((N : Int) = 1) := by omega
        simp [sg, Str.length, h2]
  rw [e]; rfl
theorem mul_one {v : PV} {M : Nat} {fl : Fl} (hf : flat fl = true) (h1 : M ≤ 100000) : binP .mul (.lst fl [v]) (.int M) = some (.lst .own ((List.range M).map fun _ => v)) := by
  have hz : ∀ n, (List.replicate n ([v] : List PV)).flatten = (List.range n).map fun _ => v := fun n => by
    rw [List.map_const', List.length_range]
    induction n with
    | zero => rfl
    | succ n ih => rw [List.replicate_succ, List.flatten_cons, ih, List.replicate_succ]; rfl
  have z : sLen ([v].length * (M : Int).toNat) = true := sLen_of (by simp; omega)
  rw [v_mulL, hf, z, decide_eq_true (by omega), decide_eq_true (by omega), Int.toNat_natCast, hz]
  rfl
/-! ### floors -/
def flV (M N : Nat) (f : Nat → Nat → Bool) (s : Int) : PV := .tup [pcV M N f, .int s]
structure FB (M N : Nat) (s : Int) : Prop where
  M0 : 0 < M
  M1 : M ≤ 1000
  N0 : 0 < N
  N1 : N ≤ 1000
  s0 : 0 ≤ s
  s1 : s < N
@[simp] theorem flV_ow {M N f s} : isOwn (flV M N f s) = false := rfl
@[simp] theorem flV_fz {M N f s} : frz (flV M N f s) = flV M N f s := rfl
@[simp] theorem flV_0 {M N f s} : idxP (flV M N f s) (.int 0) = some (pcV M N f) := by unfold flV; simp
@[simp] theorem flV_1 {M N f s} : idxP (flV M N f s) (.int 1) = some (.int s) := by unfold flV; simp
@[simp] theorem flV_set {M N f s} (i j : Nat) (env : EL.Env) : setT (.tup [i, j]) (flV M N f s) env = some ((env.set i (some (pcV M N f))).set j (some (.int s))) := rfl
theorem flV_mk {M N f s} : PV.tup [pcV M N f, .int s] = flV M N f s := rfl
def dnI (M : Nat) (p : Int × Int) : Int := p.1.fdiv M
def rtI (M N : Nat) (s : Int) (p : Int × Int) : Int := (p.2 - dnI M p * s).fdiv N
def plc (M N : Nat) (s : Int) (p : Int × Int) : Int × Int := (p.1 - dnI M p * M, p.2 - dnI M p * s - rtI M N s p * N)
/-- is the square land -/
def ld (M N : Nat) (f : Nat → Nat → Bool) (s : Int) (p : Int × Int) : Bool := f (plc M N s p).1.toNat (plc M N s p).2.toNat
section
variable {M N : Nat} {f : Nat → Nat → Bool} {s : Int}
theorem FB.dM (B : FB M N s) : divOk (M : Int) = true := divOk_nat B.M0 (by
  have h : M.log2 ≤ M := Nat.log2_le_self M
  have := B.M1
  omega)
theorem FB.dN (B : FB M N s) : divOk (N : Int) = true := divOk_nat B.N0 (by
  have h : N.log2 ≤ N := Nat.log2_le_self N
  have := B.N1
  omega)
theorem FB.mM (B : FB M N s) (i : Int) : mulOk i M = true := mul_r (small_nat (by have := B.M1; omega))
theorem FB.mN (B : FB M N s) (i : Int) : mulOk i N = true := mul_r (small_nat (by have := B.N1; omega))
theorem FB.ms (B : FB M N s) (i : Int) : mulOk i s = true := mul_r (by
  have h1 := B.s0
  have h2 := B.s1
  have h3 := B.N1
  unfold small
  exact decide_eq_true (by omega))
theorem FB.l0 (B : FB M N s) : bltP .len [.str (rowT N (f 0))] = some (.int (N : Nat)) := rowT_blen (by have := B.N1; omega)
theorem FB.i0 (B : FB M N s) : idxP (pcV M N f) (.int 0) = some (.str (rowT N (f 0))) := pcV_ix (by omega) (by have := B.M0; omega)
theorem plc_1 (B : FB M N s) (p : Int × Int) : 0 ≤ (plc M N s p).1 ∧ (plc M N s p).1 < M := by
  have h := B.M0
  have e : (plc M N s p).1 = p.1.fmod M := by
    show p.1 - p.1.fdiv M * M = _
    rw [Int.fmod_def, Int.mul_comm]
  rw [e]
  exact ⟨Int.fmod_nonneg_of_pos _ (by omega), Int.fmod_lt_of_pos _ (by omega)⟩
theorem plc_2 (B : FB M N s) (p : Int × Int) : 0 ≤ (plc M N s p).2 ∧ (plc M N s p).2 < N := by
  have h := B.N0
  have e : (plc M N s p).2 = (p.2 - dnI M p * s).fmod N := by
    show p.2 - dnI M p * s - (p.2 - dnI M p * s).fdiv N * N = _
    rw [Int.fmod_def, Int.mul_comm (N : Int)]
  rw [e]
  exact ⟨Int.fmod_nonneg_of_pos _ (by omega), Int.fmod_lt_of_pos _ (by omega)⟩
theorem run_split (B : FB M N s) (p : Int × Int) : run c__law_split [flV M N f s, sq p] = .ok (.lst .own [sq (plc M N s p), sq (dnI M p, rtI M N s p)], [flV M N f s, sq p]) := by
  have dM := B.dM
  have dN := B.dN
  have mM := B.mM
  have mN := B.mN
  have ms := B.ms
  have l0 := B.l0 (f := f)
  have i0 := B.i0 (f := f)
  unfold c__law_split
  rw [run_mk, if_pos ⟨rfl, by decide, by simp [freeA, asgB, asgS, asgT, t_law_split_1, t_law_split_2, t_law_split_3, t_law_split_4, t_law_split_5]⟩]
  simp [-v_lenS, t_law_split_1, t_law_split_2, t_law_split_3, t_law_split_4, t_law_split_5, asA, getA, getAs, rdS, mvS, setT_v, dM, dN, mM, mN, ms, l0, i0, sLen, sq_mk, outs, plc, rtI, dnI]
theorem run_at (B : FB M N s) (r c : Int) : run c__law_at [flV M N f s, .int r, .int c] = .ok (.bl (ld M N f s (r, c)), [flV M N f s, .int r, .int c]) := by
  have h1 := plc_1 B (r, c)
  have h2 := plc_2 B (r, c)
  have i1 := pcV_ix (C := N) (f := f) h1.1 h1.2
  have i2 := rowT_ix (f := f (plc M N s (r, c)).1.toNat) (show N ≤ 100000 by have := B.N1; omega) h2.1 h2.2
  unfold c__law_at
  rw [run_mk, if_pos ⟨rfl, by decide, by simp [freeA, asgB, asgS, asgT, t_law_at_1, t_law_at_2]⟩]
  simp [t_law_at_1, t_law_at_2, asA, getA, getAs, rdS, setT_v, lend, run_split B, back, sLen, sq_mk, outs, i1, i2, sg_x, ld]
theorem run_copy_of (B : FB M N s) (p : Int × Int) : run c_copy_of [flV M N f s, sq p] = .ok (sq (dnI M p, rtI M N s p), [flV M N f s, sq p]) := by
  have dM := B.dM
  have dN := B.dN
  have ms := B.ms
  have l0 := B.l0 (f := f)
  have i0 := B.i0 (f := f)
  unfold c_copy_of
  rw [run_mk, if_pos ⟨rfl, by decide, by simp [freeA, asgB, asgS, asgT, t_copy_of_1, t_copy_of_2, t_copy_of_3]⟩]
  simp [-v_lenS, t_copy_of_1, t_copy_of_2, t_copy_of_3, asA, getA, getAs, rdS, mvS, setT_v, dM, dN, ms, l0, i0, sLen, sq_mk, outs, rtI, dnI]
theorem run_lift (B : FB M N s) (c : Int × Int) : run c_lift [flV M N f s, sq c] = .ok (sq (c.1 * M, c.1 * s + c.2 * N), [flV M N f s, sq c]) := by
  have mM := B.mM
  have mN := B.mN
  have ms := B.ms
  have l0 := B.l0 (f := f)
  have i0 := B.i0 (f := f)
  unfold c_lift
  rw [run_mk, if_pos ⟨rfl, by decide, by simp [freeA, asgB, asgS, asgT, t_lift_1, t_lift_2]⟩]
  simp [-v_lenS, t_lift_1, t_lift_2, asA, getA, getAs, rdS, mvS, setT_v, mM, mN, ms, l0, i0, sLen, sq_mk, outs]
theorem run_place_of (B : FB M N s) (p : Int × Int) : run c_place_of [flV M N f s, sq p] = .ok (sq (plc M N s p), [flV M N f s, sq p]) := by
  unfold c_place_of
  rw [run_mk, if_pos ⟨rfl, by decide, by simp [freeA, asgB, asgS, asgT, t_place_of_1, t_place_of_2]⟩]
  simp [t_place_of_1, t_place_of_2, asA, getA, getAs, rdS, lend, run_copy_of B, run_lift B, back, sLen, sq_mk, outs]
  rw [show ((p.1 - dnI M p * M, p.2 - (dnI M p * s + rtI M N s p * N)) : Int × Int) = plc M N s p by unfold plc; rw [Int.sub_sub]]
theorem run_is_land (B : FB M N s) (p : Int × Int) : run c_is_land [flV M N f s, sq p] = .ok (.bl (ld M N f s p), [flV M N f s, sq p]) := by
  have h1 := plc_1 B p
  have h2 := plc_2 B p
  have i1 := pcV_ix (C := N) (f := f) h1.1 h1.2
  have i2 := rowT_ix (f := f (plc M N s p).1.toNat) (show N ≤ 100000 by have := B.N1; omega) h2.1 h2.2
  unfold c_is_land
  rw [run_mk, if_pos ⟨rfl, by decide, by simp [freeA, asgB, asgS, asgT, t_is_land_1, t_is_land_2]⟩]
  simp [t_is_land_1, t_is_land_2, asA, getA, getAs, rdS, lend, run_place_of B, back, outs, i1, i2, sg_x, ld]
theorem run_law_sides (p : Int × Int) : run c__law_sides [sq p] = .ok (.lst .own ((sidesL p).map sq), [sq p]) := by
  unfold c__law_sides
  rw [run_mk, if_pos ⟨rfl, by decide, by simp [freeA, asgB, asgS, asgT, t_law_sides_1, t_law_sides_2]⟩]
  simp [t_law_sides_1, t_law_sides_2, rdS, asA, getA, sLen, outs, sidesL, sq_mk]
/-- all places -/
def allP (M N : Nat) : List (Int × Int) := (List.range M).flatMap fun r => (List.range N).map fun c => (((r : Nat) : Int), ((c : Nat) : Int))
theorem mem_allP {p : Int × Int} : p ∈ allP M N ↔ 0 ≤ p.1 ∧ p.1 < M ∧ 0 ≤ p.2 ∧ p.2 < N := by
  unfold allP
  simp only [List.mem_flatMap, List.mem_map, List.mem_range]
  constructor
  · rintro ⟨r, hr, c, hc, rfl⟩
    simp; omega
  · rintro ⟨h1, h2, h3, h4⟩
    exact ⟨p.1.toNat, by omega, p.2.toNat, by omega, by rw [Int.toNat_of_nonneg h1, Int.toNat_of_nonneg h3]⟩
theorem sum_const (n k : Nat) : ((List.range n).map fun _ => k).sum = n * k := by
  rw [List.map_const', List.sum_replicate_nat, List.length_range]
theorem rngP_map (n : Nat) : rngP 0 (n : Int) = (List.range n).map fun k => PV.int ((k : Nat) : Int) := by
  unfold rngP
  rw [Int.sub_zero, Int.toNat_natCast]
  exact List.map_congr_left fun k _ => by simp
theorem run_places (B : FB M N s) (hM : M ≤ 100) (hN : N ≤ 100) : run c_places [flV M N f s] = .ok (.lst .own ((allP M N).map sq), [flV M N f s]) := by
  have l0 := B.l0 (f := f)
  have i0 := B.i0 (f := f)
  have e1 : ex t_places_1 [some (flV M N f s), none, none, none] = .ok (.nxt, [some (flV M N f s), some (pcV M N f), none, none]) := by
    simp [t_places_1, asA, getA, setT]
  have e2 : ev (.lc2 [2, 3] [3] (.var 2) (.rng1 (.blt .len (.cons (.var 1) .nil))) .no (.var 3) (.rng1 (.blt .len (.cons (.idx (.var 1) (.lit (.int 0))) .nil))) .no (.tup (.cons (.var 2) (.cons (.var 3) .nil)))) [some (flV M N f s), some (pcV M N f), none, none] =
      .ok (.lst .own ((List.range M).flatMap fun r => (List.range N).map fun c => frz (sq (((r : Nat) : Int), ((c : Nat) : Int)))), [some (flV M N f s), some (pcV M N f), none, none]) := by
    refine ev_lc2M (emb := fun k : Nat => PV.int (k : Int)) (emb1 := fun k : Nat => PV.int (k : Int)) (xs := List.range M) (ys := fun _ => List.range N) (g := fun r c => sq (((r : Nat) : Int), ((c : Nat) : Int))) ?_ (by rfl) (by rfl) ?_ ?_
    · rw [evI_rng (i := (M : Int)) (env' := [some (flV M N f s), some (pcV M N f), none, none]) (by simp [asA, getAs, getA]) (rng_ok (by omega)), rngP_map]
    · simp only [List.length_range]
      rw [sum_const]
      exact Nat.lt_of_le_of_lt (Nat.mul_le_mul hM hN) (small_sz (by decide))
    · intro r _
      refine ⟨[some (flV M N f s), some (pcV M N f), some (.int (r : Nat)), none], rfl, rfl, ?_, rfl, fun c _ => ⟨[some (flV M N f s), some (pcV M N f), some (.int (r : Nat)), some (.int (c : Nat))], rfl, rfl, ?_⟩⟩
      · rw [evI_rng (i := (N : Int)) (env' := [some (flV M N f s), some (pcV M N f), some (.int (r : Nat)), none]) (by simp [-v_lenS, asA, getAs, getA, i0, l0]) (rng_ok (by omega)), rngP_map]
      · simp [rdS, sLen, sq_mk]
  have e3 : ex t_places_2 [some (flV M N f s), some (pcV M N f), none, none] = .ok (.ret (.lst .own ((allP M N).map sq)), [some (flV M N f s), some (pcV M N f), none, none]) := by
    unfold t_places_2
    rw [q_ex_ret_2, e2, R.bind_ok]
    congr 4
    unfold allP
    simp [List.map_flatMap]
    rfl
  exact run_ok rfl (by decide) (by simp [freeA, asgB, asgS, asgT, t_places_1, t_places_2]) ((exs_step e1).trans (exs_ret e3)) (by simp [outs])
theorem run_all (B : FB M N s) (hM : M ≤ 100) (hN : N ≤ 100) : run c__law_all [flV M N f s] = .ok (.lst .own ((allP M N).map sq), [flV M N f s]) := by
  have l0 := B.l0 (f := f)
  have i0 := B.i0 (f := f)
  have e1 : ex t_law_all_1 [some (flV M N f s), none, none, none] = .ok (.nxt, [some (flV M N f s), some (.lst .own []), none, none]) := by
    simp [t_law_all_1, setT_v, sLen]
  have inner : ∀ (r : Nat) (L : List (Int × Int)) (x : Option PV), L.length ≤ 50000 → ∃ x', ex t_law_all_2_1 [some (flV M N f s), some (.lst .own (L.map sq)), some (.int (r : Nat)), x] = .ok (.nxt, [some (flV M N f s), some (.lst .own ((L ++ (List.range N).map fun c => (((r : Nat) : Int), ((c : Nat) : Int))).map sq)), some (.int (r : Nat)), x']) := by
    intro r L x hL
    obtain ⟨en, h1, x', rfl⟩ := loop_rng (b := forB (.var 3) t_law_all_2_1B) (n := N) (fun i en => ∃ x', en = [some (flV M N f s), some (.lst .own ((L ++ (List.range i).map fun c => (((r : Nat) : Int), ((c : Nat) : Int))).map sq)), some (.int (r : Nat)), x'])
      (env := [some (flV M N f s), some (.lst .own (L.map sq)), some (.int (r : Nat)), x]) (fun i en hi ⟨x', e⟩ => by
        subst e
        refine ⟨_, ?_, some (.int (i : Nat)), rfl⟩
        have hz : (((L ++ (List.range i).map fun c => (((r : Nat) : Int), ((c : Nat) : Int))).map sq).length) < sizeLine := small_sz (by simp; omega)
        unfold forB
        show exs t_law_all_2_1B [some (flV M N f s), some (.lst .own ((L ++ (List.range i).map fun c => (((r : Nat) : Int), ((c : Nat) : Int))).map sq)), some (.int (r : Nat)), some (.int (i : Nat))] = _
        have hq : (List.range (i + 1)).map (fun c : Nat => (((r : Nat) : Int), (c : Int))) = (List.range i).map (fun c : Nat => (((r : Nat) : Int), (c : Int))) ++ [(((r : Nat) : Int), ((i : Nat) : Int))] := by
          rw [List.range_succ, List.map_append]; rfl
        rw [hq, ← List.append_assoc]
        generalize L ++ (List.range i).map (fun c : Nat => (((r : Nat) : Int), (c : Int))) = L2 at *
        unfold t_law_all_2_1B
        rw [exs_step (env' := [some (flV M N f s), some (.lst .own ((L2 ++ [(((r : Nat) : Int), ((i : Nat) : Int))]).map sq)), some (.int (r : Nat)), some (.int (i : Nat))]) (by
          simp only [t_law_all_2_1_1, q_ex_app, slot1, ownL, if_true, q_ev_tup, q_evs_cons, q_ev_var, rdS, slot2, isOwn_int, Bool.false_eq_true, if_false, R.bind_ok, q_ev_mv, mvS, slot3, q_evs_nil, decide_eq_true hz]
          rw [List.length_map] at hz
          simp [sLen, sq_mk, hz]), q_exs_nil]) ⟨x, by simp⟩
    refine ⟨x', ?_⟩
    unfold t_law_all_2_1
    rw [q_ex_for, evI_rng (i := (N : Int)) (env' := [some (flV M N f s), some (.lst .own (L.map sq)), some (.int (r : Nat)), x]) (by simp [-v_lenS, asA, getAs, getA, i0, l0]) (rng_ok (by omega)), R.bind_ok]
    exact h1
  obtain ⟨en, h1, x2, x3, rfl⟩ := loop_rng (b := forB (.var 2) t_law_all_2B) (n := M) (fun i en => ∃ x2 x3, en = [some (flV M N f s), some (.lst .own ((allP i N).map sq)), x2, x3])
    (env := [some (flV M N f s), some (.lst .own []), none, none]) (fun i en hi ⟨x2, x3, e⟩ => by
      subst e
      have hl : (allP i N).length ≤ 50000 := by
        unfold allP
        rw [List.length_flatMap]
        simp only [List.length_map, List.length_range]
        rw [sum_const]
        exact Nat.le_trans (Nat.mul_le_mul (show i ≤ 100 by omega) hN) (by decide)
      obtain ⟨x', e1⟩ := inner i (allP i N) x3 hl
      have hq : allP (i + 1) N = allP i N ++ (List.range N).map fun c => (((i : Nat) : Int), ((c : Nat) : Int)) := by
        unfold allP
        rw [List.range_succ, List.flatMap_append]
        simp
      rw [← hq] at e1
      refine ⟨_, ?_, some (.int (i : Nat)), x', rfl⟩
      unfold forB
      show exs t_law_all_2B [some (flV M N f s), some (.lst .own ((allP i N).map sq)), some (.int (i : Nat)), x3] = _
      unfold t_law_all_2B
      rw [exs_step e1, q_exs_nil]) ⟨none, none, rfl⟩
  have e2 : ex t_law_all_2 [some (flV M N f s), some (.lst .own []), none, none] = .ok (.nxt, [some (flV M N f s), some (.lst .own ((allP M N).map sq)), x2, x3]) := by
    unfold t_law_all_2
    rw [q_ex_for, evI_rng (i := (M : Int)) (env' := [some (flV M N f s), some (.lst .own []), none, none]) (by simp [asA, getAs, getA]) (rng_ok (by omega)), R.bind_ok]
    exact h1
  exact run_ok (en := [some (flV M N f s), none, x2, x3]) rfl (by decide) (by simp [freeA, asgB, asgS, asgT, t_law_all_1, t_law_all_2, t_law_all_2B, t_law_all_2_1, t_law_all_2_1B, t_law_all_2_1_1, t_law_all_3]) ((exs_step e1).trans <| (exs_step e2).trans <| exs_ret (by simp [t_law_all_3, mvS])) (by simp [outs])
theorem allP_len (hM : M ≤ 100) (hN : N ≤ 100) : (allP M N).length ≤ 10000 := by
  unfold allP
  rw [List.length_flatMap]
  simp only [List.length_map, List.length_range]
  rw [sum_const]
  exact Nat.mul_le_mul hM hN
end
end EL

set_option maxRecDepth 100000
namespace EG
open PySem EL
def t_law_floor_1 : CS := (.asg (.var 1) (.bin .add (.lit (.int 1)) (.call "_law_take" c__law_take (.cons (.var 0) (.cons (.lit (.int 5)) .nil)))))
def t_law_floor_2 : CS := (.asg (.var 2) (.bin .add (.lit (.int 1)) (.call "_law_take" c__law_take (.cons (.var 0) (.cons (.lit (.int 5)) .nil)))))
def t_law_floor_3 : CS := (.ite (.cmp .eq (.call "_law_take" c__law_take (.cons (.var 0) (.cons (.lit (.int 10)) .nil))) (.lit (.int 0))) (.cons (.asg (.var 1) (.bin .add (.lit (.int 1)) (.call "_law_take" c__law_take (.cons (.var 0) (.cons (.lit (.int 8)) .nil))))) (.cons (.asg (.var 2) (.bin .add (.lit (.int 1)) (.call "_law_take" c__law_take (.cons (.var 0) (.cons (.lit (.int 8)) .nil))))) .nil)) .nil)
def t_law_floor_4 : CS := (.ret (.yes (.tup (.cons (.call "_law_grid" c__law_grid (.cons (.var 0) (.cons (.var 1) (.cons (.var 2) .nil)))) (.cons (.call "_law_take" c__law_take (.cons (.var 0) (.cons (.var 2) .nil))) .nil)))))
def c__law_floor : CF := .mk 1 ["deal", "rows", "columns"] (.cons t_law_floor_1 (.cons t_law_floor_2 (.cons t_law_floor_3 (.cons t_law_floor_4 .nil))))
def t_law_steps_1 : CS := (.asg (.var 2) (.call "_law_at" c__law_at (.cons (.var 0) (.cons (.idx (.var 1) (.lit (.int 0))) (.cons (.idx (.var 1) (.lit (.int 1))) .nil)))))
def t_law_steps_2 : CS := (.asg (.var 3) (.ite (.var 2) (.call "_law_sides" c__law_sides (.cons (.var 1) .nil)) (.call "_law_around" c__law_around (.cons (.var 1) .nil))))
def t_law_steps_3 : CS := (.ret (.yes (.lc false [4] (.var 4) (.val (.var 3)) (.yes (.cmp .eq (.call "_law_at" c__law_at (.cons (.var 0) (.cons (.idx (.var 4) (.lit (.int 0))) (.cons (.idx (.var 4) (.lit (.int 1))) .nil)))) (.var 2))) (.var 4))))
def c__law_steps : CF := .mk 2 ["floor", "square", "land", "near", "other"] (.cons t_law_steps_1 (.cons t_law_steps_2 (.cons t_law_steps_3 .nil)))
def t_law_reversed_1 : CS := (.asg (.var 1) (.lc false [2] (.var 2) (.val (.idx (.var 0) (.lit (.int 0)))) .no (.rpl (.rpl (.rpl (.var 2) (Str.ofString "x") (Str.ofString "o")) (Str.ofString ".") (Str.ofString "x")) (Str.ofString "o") (Str.ofString "."))))
def t_law_reversed_2 : CS := (.ret (.yes (.tup (.cons (.blt .tuple (.cons (.var 1) .nil)) (.cons (.idx (.var 0) (.lit (.int 1))) .nil)))))
def c__law_reversed : CF := .mk 1 ["floor", "rows", "row"] (.cons t_law_reversed_1 (.cons t_law_reversed_2 .nil))
end EG

set_option maxRecDepth 100000
set_option maxHeartbeats 4000000
namespace EG
open PySem PySem.Spec L2 EL
theorem run_floor {d : Deal} (ha : d.at_ < 400000) : ∃ (M N : Nat) (f : Nat → Nat → Bool) (s : Int) (d' : Deal), run c__law_floor [d.pv] = .ok (flV M N f s, [d'.pv]) ∧ FB M N s ∧ M ≤ 12 ∧ N ≤ 12 ∧ d'.at_ ≤ d.at_ + 2500 := by
  obtain ⟨M, N, d4, hM, hM2, hN, hN2, h4, e⟩ : ∃ (M N : Nat) (d4 : Deal), 0 < M ∧ M ≤ 12 ∧ 0 < N ∧ N ≤ 12 ∧ d4.at_ ≤ d.at_ + 5 ∧ exs (.cons t_law_floor_1 (.cons t_law_floor_2 (.cons t_law_floor_3 (.cons t_law_floor_4 .nil)))) [some d.pv, none, none] = exs (.cons t_law_floor_4 .nil) [some d4.pv, some (.int (M : Nat)), some (.int (N : Nat))] := by
    have a1 := d.tk_nn (m := 5) (by decide)
    have a2 := d.tk_lt (m := 5) (by decide)
    have a3 := d.nx.tk_nn (m := 5) (by decide)
    have a4 := d.nx.tk_lt (m := 5) (by decide)
    have a5 := d.nx.nx.nx.tk_nn (m := 8) (by decide)
    have a6 := d.nx.nx.nx.tk_lt (m := 8) (by decide)
    have a7 := d.nx.nx.nx.nx.tk_nn (m := 8) (by decide)
    have a8 := d.nx.nx.nx.nx.tk_lt (m := 8) (by decide)
    have e1 : ex t_law_floor_1 [some d.pv, none, none] = .ok (.nxt, [some d.nx.pv, some (.int (1 + d.tk 5)), none]) := by
      simp (disch := first | decide | omega | (simp; omega)) [-q_ev_call, take0, t_law_floor_1, asA, getA, setT_v]
    have e2 : ex t_law_floor_2 [some d.nx.pv, some (.int (1 + d.tk 5)), none] = .ok (.nxt, [some d.nx.nx.pv, some (.int (1 + d.tk 5)), some (.int (1 + d.nx.tk 5))]) := by
      simp (disch := first | decide | omega | (simp; omega)) [-q_ev_call, take0, t_law_floor_2, asA, getA, setT_v]
    by_cases h : d.nx.nx.tk 10 = 0
    · refine ⟨(1 + d.nx.nx.nx.tk 8).toNat, (1 + d.nx.nx.nx.nx.tk 8).toNat, d.nx.nx.nx.nx.nx, by omega, by omega, by omega, by omega, by simp, ?_⟩
      have e3 : ex t_law_floor_3 [some d.nx.nx.pv, some (.int (1 + d.tk 5)), some (.int (1 + d.nx.tk 5))] = .ok (.nxt, [some d.nx.nx.nx.nx.nx.pv, some (.int (1 + d.nx.nx.nx.tk 8)), some (.int (1 + d.nx.nx.nx.nx.tk 8))]) := by
        simp (disch := first | decide | omega | (simp; omega)) [-q_ev_call, take0, t_law_floor_3, asA, getA, setT_v, h]
      rw [exs_step e1, exs_step e2, exs_step e3, show (((1 + d.nx.nx.nx.tk 8).toNat : Nat) : Int) = 1 + d.nx.nx.nx.tk 8 by omega, show (((1 + d.nx.nx.nx.nx.tk 8).toNat : Nat) : Int) = 1 + d.nx.nx.nx.nx.tk 8 by omega]
    · refine ⟨(1 + d.tk 5).toNat, (1 + d.nx.tk 5).toNat, d.nx.nx.nx, by omega, by omega, by omega, by omega, by simp, ?_⟩
      have e3 : ex t_law_floor_3 [some d.nx.nx.pv, some (.int (1 + d.tk 5)), some (.int (1 + d.nx.tk 5))] = .ok (.nxt, [some d.nx.nx.nx.pv, some (.int (1 + d.tk 5)), some (.int (1 + d.nx.tk 5))]) := by
        simp (disch := first | decide | omega | (simp; omega)) [-q_ev_call, take0, t_law_floor_3, asA, getA, setT_v, h]
      rw [exs_step e1, exs_step e2, exs_step e3, show (((1 + d.tk 5).toNat : Nat) : Int) = 1 + d.tk 5 by omega, show (((1 + d.nx.tk 5).toNat : Nat) : Int) = 1 + d.nx.tk 5 by omega]
  obtain ⟨d5, f, r, h5⟩ := run_grid (d := d4) (M := M) (N := N) hM (by omega) hN (by omega) (by omega)
  have hN1 : (0 : Int) < N := by omega
  have b1 := d5.tk_nn hN1
  have b2 := d5.tk_lt hN1
  refine ⟨M, N, f, d5.tk N, d5.nx, ?_, ⟨hM, by omega, hN, by omega, b1, b2⟩, hM2, hN2, by simp; omega⟩
  have ht := take0V2 (d := d5) (x1 := some (.int (M : Nat))) (r := []) (m := N) (by omega) hN1
  have e4 : ex t_law_floor_4 [some d4.pv, some (.int (M : Nat)), some (.int (N : Nat))] = .ok (.ret (flV M N f (d5.tk N)), [some d5.nx.pv, some (.int (M : Nat)), some (.int (N : Nat))]) := by
    have eg : ev (.call "_law_grid" c__law_grid (.cons (.var 0) (.cons (.var 1) (.cons (.var 2) .nil)))) [some d4.pv, some (.int (M : Nat)), some (.int (N : Nat))] = .ok (pcV M N f, [some d5.pv, some (.int (M : Nat)), some (.int (N : Nat))]) := by
      simp [asA, lend, r, back]
    simp only [t_law_floor_4, q_ex_ret_2, q_ev_tup, q_evs_cons, eg, R.bind_ok, ht, q_evs_nil]
    simp [sLen, flV_mk]
  exact run_ok rfl (by decide) (by simp [freeA, asgB, asgS, asgT, t_law_floor_1, t_law_floor_2, t_law_floor_3, t_law_floor_4]) (e.trans (exs_ret e4)) (by simp [outs])

/-! ### signs exchanged -/
theorem replL_one {a b : Nat} : ∀ l : List Nat, StrLaws.replL [a] [b] l = l.map fun c => if c = a then b else c
  | [] => StrLaws.replL_nil
  | c :: r => by
    by_cases h : c = a
    · subst h
      rw [StrLaws.replL_hit (by simp) (by simp)]
      simp [replL_one r]
    · rw [StrLaws.replL_miss (by simp [h]), replL_one r]
      simp [h]
theorem replace_one {a b : Nat} (x : Str) : Txt.replace x ⟨#[a]⟩ ⟨#[b]⟩ = ⟨(x.cps.toList.map fun c => if c = a then b else c).toArray⟩ := by
  have h := StrLaws.replace_list (x := x) (y := ⟨#[a]⟩) (z := ⟨#[b]⟩) (Nat.le_refl 1)
  have h2 : (Txt.replace x ⟨#[a]⟩ ⟨#[b]⟩).cps.toList = x.cps.toList.map fun c => if c = a then b else c := h.trans (replL_one _)
  generalize Txt.replace x ⟨#[a]⟩ ⟨#[b]⟩ = y at *
  cases y
  simp only at h2
  rw [← h2]
theorem sg_oo : Str.ofString "o" = ⟨#[111]⟩ := by decide +kernel
theorem sg_xx : Str.ofString "x" = ⟨#[120]⟩ := by decide +kernel
theorem sg_dd : Str.ofString "." = ⟨#[46]⟩ := by decide +kernel
theorem row_swap (N : Nat) (g : Nat → Bool) : Txt.replace (Txt.replace (Txt.replace (rowT N g) (Str.ofString "x") (Str.ofString "o")) (Str.ofString ".") (Str.ofString "x")) (Str.ofString "o") (Str.ofString ".") = rowT N fun c => !g c := by
  rw [sg_oo, sg_xx, sg_dd, replace_one, replace_one, replace_one]
  unfold rowT
  simp only [List.map_map]
  congr 2
  refine List.map_congr_left fun c _ => ?_
  simp only [Function.comp]
  cases g c <;> decide
theorem repl_len {a b : Nat} (x : Str) : (Txt.replace x ⟨#[a]⟩ ⟨#[b]⟩).length = x.length := by
  rw [replace_one]; simp [Str.length]
section
variable {M N : Nat} {f : Nat → Nat → Bool} {s : Int}
theorem run_reversed (hM : M ≤ 1000) (hN : N ≤ 1000) : run c__law_reversed [flV M N f s] = .ok (flV M N (fun r c => !f r c) s, [flV M N f s]) := by
  have el : ev (.lc false [2] (.var 2) (.val (.idx (.var 0) (.lit (.int 0)))) .no (.rpl (.rpl (.rpl (.var 2) (Str.ofString "x") (Str.ofString "o")) (Str.ofString ".") (Str.ofString "x")) (Str.ofString "o") (Str.ofString "."))) [some (flV M N f s), none, none] = .ok (.lst .own ((List.range M).map fun r => frz (.str (rowT N fun c => !f r c))), [some (flV M N f s), none, none]) := by
    refine ev_lcM (emb := fun r => .str (rowT N (f r))) (xs := List.range M) (g := fun r => .str (rowT N fun c => !f r c)) ?_ (by rfl) (by rfl) (by simpa using small_sz (by omega)) ?_
    · simp [asA, getA, flV, pcV, itemsP]
    · intro r _
      refine ⟨[some (flV M N f s), none, some (.str (rowT N (f r)))], rfl, rfl, ?_⟩
      have l1 : (Txt.replace (rowT N (f r)) (Str.ofString "x") (Str.ofString "o")).length = N := by rw [sg_oo, sg_xx, repl_len, rowT_len]
      have l2 : (Txt.replace (Txt.replace (rowT N (f r)) (Str.ofString "x") (Str.ofString "o")) (Str.ofString ".") (Str.ofString "x")).length = N := by rw [sg_xx, sg_dd, repl_len, ← sg_xx, l1]
      have c1 : (Str.ofString "o").length = 1 := by rw [sg_oo]; rfl
      have c2 : (Str.ofString "x").length = 1 := by rw [sg_xx]; rfl
      have c3 : (Str.ofString ".").length = 1 := by rw [sg_dd]; rfl
      have hs := row_swap N (f r)
      have b : N + (N + 1) * 1 ≤ 16777216 := by omega
      simp only [q_ev_rpl, q_ev_var, rdS, slot2]
      simp only [isOwn, Bool.false_eq_true, if_false, R.bind_ok, rowT_len, c1, l1, c2, l2, c3, b, decide_true, if_true, hs]
  have e1 : ex t_law_reversed_1 [some (flV M N f s), none, none] = .ok (.nxt, [some (flV M N f s), some (.lst .own ((List.range M).map fun r => .str (rowT N fun c => !f r c))), none]) := by
    unfold t_law_reversed_1
    rw [ex_asg el rfl]
    rfl
  refine run_ok (en := [some (flV M N f s), some (.lst .own ((List.range M).map fun r => .str (rowT N fun c => !f r c))), none]) rfl (by decide) (by simp [freeA, asgB, asgS, asgT, t_law_reversed_1, t_law_reversed_2]) ((exs_step e1).trans (exs_ret ?_)) (by simp [outs])
  simp [t_law_reversed_2, asA, getA, getAs, bltP, flat, sLen, flV, pcV]
/-! ### steps -/
def nearL (l : Bool) (p : Int × Int) : List (Int × Int) := if l then sidesL p else aroundL p
theorem nearL_len (l : Bool) (p : Int × Int) : (nearL l p).length ≤ 8 := by unfold nearL; split <;> simp [sidesL, aroundL]
def stepsL (M N : Nat) (f : Nat → Nat → Bool) (s : Int) (p : Int × Int) : List (Int × Int) := (nearL (ld M N f s p) p).filter fun q => decide (ld M N f s q = ld M N f s p)
theorem run_steps (B : FB M N s) (p : Int × Int) : run c__law_steps [flV M N f s, sq p] = .ok (.lst .own ((stepsL M N f s p).map sq), [flV M N f s, sq p]) := by
  have ra := fun r c => run_at (f := f) B r c
  have r1 := run_law_sides p
  have r2 := run_law_around p
  have e1 : ex t_law_steps_1 [some (flV M N f s), some (sq p), none, none, none] = .ok (.nxt, [some (flV M N f s), some (sq p), some (.bl (ld M N f s p)), none, none]) := by
    simp [t_law_steps_1, asA, getA, lend, ra, back, setT_v]
  have e2 : ex t_law_steps_2 [some (flV M N f s), some (sq p), some (.bl (ld M N f s p)), none, none] = .ok (.nxt, [some (flV M N f s), some (sq p), some (.bl (ld M N f s p)), some (.lst .own ((nearL (ld M N f s p) p).map sq)), none]) := by
    cases h : ld M N f s p with
    | true => simp [t_law_steps_2, rdS, asA, lend, r1, back, setT_v, nearL]
    | false => simp [t_law_steps_2, rdS, asA, lend, r2, back, setT_v, nearL]
  have el := ev_lcT (dp := false) (vs := [4]) (t := .var 4) (it := .val (.var 3)) (c := .yes (.cmp .eq (.call "_law_at" c__law_at (.cons (.var 0) (.cons (.idx (.var 4) (.lit (.int 0))) (.cons (.idx (.var 4) (.lit (.int 1))) .nil)))) (.var 2))) (e := .var 4) (emb := sq) (xs := nearL (ld M N f s p) p) (p := fun q => decide (ld M N f s q = ld M N f s p)) (g := sq)
    (env0 := [some (flV M N f s), some (sq p), some (.bl (ld M N f s p)), some (.lst .own ((nearL (ld M N f s p) p).map sq)), none]) (env := [some (flV M N f s), some (sq p), some (.bl (ld M N f s p)), some (.lst .frz ((nearL (ld M N f s p) p).map sq)), none])
    (by simp [rdS, itemsP]) (by rfl) (by rfl) (small_sz (by have := nearL_len (ld M N f s p) p; omega))
    (fun q _ => ⟨[some (flV M N f s), some (sq p), some (.bl (ld M N f s p)), some (.lst .frz ((nearL (ld M N f s p) p).map sq)), some (sq q)], rfl, by simp [asA, getA, lend, ra, back, bool?], rfl, fun _ => by simp [rdS]⟩)
  refine run_ok (en := [some (flV M N f s), some (sq p), some (.bl (ld M N f s p)), some (.lst .frz ((nearL (ld M N f s p) p).map sq)), none]) rfl (by decide) (by simp [freeA, asgB, asgS, asgT, t_law_steps_1, t_law_steps_2, t_law_steps_3]) ((exs_step e1).trans <| (exs_step e2).trans <| exs_ret ?_) (by simp [outs])
  unfold t_law_steps_3
  rw [ex_ret el]
  rfl
end
end EG

set_option maxRecDepth 100000
namespace EN
open PySem EL
def t_law_size_1 : CS := (.ite (.cmp .eq (.call "_law_take" c__law_take (.cons (.var 0) (.cons (.lit (.int 8)) .nil))) (.lit (.int 0))) (.cons (.ret (.yes (.bin .add (.lit (.int 1)) (.call "_law_take" c__law_take (.cons (.var 0) (.cons (.var 2) .nil)))))) .nil) .nil)
def t_law_size_2 : CS := (.ret (.yes (.bin .add (.lit (.int 1)) (.call "_law_take" c__law_take (.cons (.var 0) (.cons (.var 1) .nil))))))
def c__law_size : CF := .mk 3 ["deal", "small", "most"] (.cons t_law_size_1 (.cons t_law_size_2 .nil))
def t_law_floor_1 : CS := (.asg (.var 3) (.call "_law_size" c__law_size (.cons (.var 0) (.cons (.var 1) (.cons (.var 2) .nil)))))
def t_law_floor_2 : CS := (.asg (.var 4) (.call "_law_size" c__law_size (.cons (.var 0) (.cons (.var 1) (.cons (.var 2) .nil)))))
def t_law_floor_3 : CS := (.ret (.yes (.tup (.cons (.call "_law_grid" c__law_grid (.cons (.var 0) (.cons (.var 3) (.cons (.var 4) .nil)))) (.cons (.call "_law_take" c__law_take (.cons (.var 0) (.cons (.var 4) .nil))) .nil)))))
def c__law_floor : CF := .mk 3 ["deal", "small", "most", "rows", "columns"] (.cons t_law_floor_1 (.cons t_law_floor_2 (.cons t_law_floor_3 .nil)))
def t_law_far_1 : CS := (.asg (.var 1) (.bin .sub (.call "_law_take" c__law_take (.cons (.var 0) (.cons (.lit (.int 40)) .nil))) (.lit (.int 20))))
def t_law_far_2 : CS := (.ite (.cmp .eq (.call "_law_take" c__law_take (.cons (.var 0) (.cons (.lit (.int 3)) .nil))) (.lit (.int 0))) (.cons (.asg (.var 1) (.bin .sub (.bin .add (.bin .mul (.call "_law_take" c__law_take (.cons (.var 0) (.cons (.lit (.int 1009)) .nil))) (.lit (.int 1009))) (.call "_law_take" c__law_take (.cons (.var 0) (.cons (.lit (.int 1009)) .nil)))) (.lit (.int 509040)))) .nil) .nil)
def t_law_far_3 : CS := (.ite (.cmp .eq (.call "_law_take" c__law_take (.cons (.var 0) (.cons (.lit (.int 8)) .nil))) (.lit (.int 0))) (.cons (.asg (.var 1) (.bin .add (.bin .add (.bin .mul (.var 1) (.bin .pow (.lit (.int 10)) (.lit (.int 18)))) (.bin .mul (.call "_law_take" c__law_take (.cons (.var 0) (.cons (.lit (.int 1009)) .nil))) (.lit (.int 1009)))) (.call "_law_take" c__law_take (.cons (.var 0) (.cons (.lit (.int 1009)) .nil))))) .nil) .nil)
def t_law_far_4 : CS := (.ret (.yes (.mv 1)))
def c__law_far : CF := .mk 1 ["deal", "number"] (.cons t_law_far_1 (.cons t_law_far_2 (.cons t_law_far_3 (.cons t_law_far_4 .nil))))
def t_law_square_1 : CS := (.ret (.yes (.tup (.cons (.bin .add (.idx (.var 1) (.lit (.int 0))) (.bin .mul (.idx (.var 2) (.lit (.int 0))) (.blt .len (.cons (.idx (.var 0) (.lit (.int 0))) .nil)))) (.cons (.bin .add (.bin .add (.idx (.var 1) (.lit (.int 1))) (.bin .mul (.idx (.var 2) (.lit (.int 0))) (.idx (.var 0) (.lit (.int 1))))) (.bin .mul (.idx (.var 2) (.lit (.int 1))) (.blt .len (.cons (.idx (.idx (.var 0) (.lit (.int 0))) (.lit (.int 0))) .nil)))) .nil)))))
def c__law_square : CF := .mk 3 ["floor", "place", "copy"] (.cons t_law_square_1 .nil)
def t_square_of_1 : CS := (.asg (.tup [3, 4]) (.call "lift" c_lift (.cons (.var 0) (.cons (.var 2) .nil))))
def t_square_of_2 : CS := (.ret (.yes (.tup (.cons (.bin .add (.idx (.var 1) (.lit (.int 0))) (.var 3)) (.cons (.bin .add (.idx (.var 1) (.lit (.int 1))) (.var 4)) .nil)))))
def c_square_of : CF := .mk 3 ["floor", "place", "copy", "down", "right"] (.cons t_square_of_1 (.cons t_square_of_2 .nil))
end EN

set_option maxRecDepth 100000
set_option maxHeartbeats 4000000
namespace EN
open PySem PySem.Spec L2 EL
/-! ### _law_far -/
def far1 (d : Deal) : Int × Deal := if d.nx.tk 3 = 0 then (d.nx.nx.tk 1009 * 1009 + d.nx.nx.nx.tk 1009 - 509040, d.nx.nx.nx.nx) else (d.tk 40 - 20, d.nx.nx)
def far2 (x : Int × Deal) : Int × Deal := if x.2.tk 8 = 0 then (x.1 * 10 ^ 18 + x.2.nx.tk 1009 * 1009 + x.2.nx.nx.tk 1009, x.2.nx.nx.nx) else (x.1, x.2.nx)
def far (d : Deal) : Int × Deal := far2 (far1 d)
theorem far1_at (d : Deal) : (far1 d).2.at_ ≤ d.at_ + 4 := by
  unfold far1; split <;> simp
theorem far_at (d : Deal) : (far d).2.at_ ≤ d.at_ + 7 := by
  have := far1_at d
  unfold far far2; split <;> simp <;> omega
theorem far_bd (d : Deal) : -(10 ^ 26) < (far d).1 ∧ (far d).1 < 10 ^ 26 := by
  have b1 : -(10 ^ 7) < (far1 d).1 ∧ (far1 d).1 < 10 ^ 7 := by
    unfold far1
    have h1 := d.nx.nx.tk_nn (m := 1009) (by decide)
    have h2 := d.nx.nx.tk_lt (m := 1009) (by decide)
    have h3 := d.nx.nx.nx.tk_nn (m := 1009) (by decide)
    have h4 := d.nx.nx.nx.tk_lt (m := 1009) (by decide)
    have h5 := d.tk_nn (m := 40) (by decide)
    have h6 := d.tk_lt (m := 40) (by decide)
    split <;> simp <;> omega
  unfold far far2
  generalize far1 d = x at *
  have h1 := x.2.nx.tk_nn (m := 1009) (by decide)
  have h2 := x.2.nx.tk_lt (m := 1009) (by decide)
  have h3 := x.2.nx.nx.tk_nn (m := 1009) (by decide)
  have h4 := x.2.nx.nx.tk_lt (m := 1009) (by decide)
  split <;> simp <;> omega
theorem run_far' (d : Deal) (h : d.at_ < 900000) : run c__law_far [d.pv] = .ok (.int (far d).1, [(far d).2.pv]) := by
  have p : powOk 10 18 = true := by decide
  have m0 : ∀ i : Int, mulOk i 1009 = true := fun i => mul_r rfl
  have m1 : ∀ i : Int, mulOk i 1000000000000000000 = true := fun i => mul_r rfl
  unfold c__law_far
  rw [run_mk, if_pos ⟨rfl, by decide, by simp [freeA, asgB, asgS, asgT, t_law_far_1, t_law_far_2, t_law_far_3, t_law_far_4]⟩]
  simp only [far, far1]
  by_cases h1 : d.nx.tk 3 = 0
  · simp only [h1, if_true, far2]
    by_cases h2 : d.nx.nx.nx.nx.tk 8 = 0
    · simp (disch := first | decide | omega | (simp; omega)) [-q_ev_call, t_law_far_1, t_law_far_2, t_law_far_3, t_law_far_4, take0, asA, getA, mvS, rdS, setT, outs, h1, h2, p, m0, m1]
    · simp (disch := first | decide | omega | (simp; omega)) [-q_ev_call, t_law_far_1, t_law_far_2, t_law_far_3, t_law_far_4, take0, asA, getA, mvS, rdS, setT, outs, h1, h2, p, m0, m1]
  · simp only [h1, if_false, far2]
    by_cases h2 : d.nx.nx.tk 8 = 0
    · simp (disch := first | decide | omega | (simp; omega)) [-q_ev_call, t_law_far_1, t_law_far_2, t_law_far_3, t_law_far_4, take0, asA, getA, mvS, rdS, setT, outs, h1, h2, p, m0, m1]
    · simp (disch := first | decide | omega | (simp; omega)) [-q_ev_call, t_law_far_1, t_law_far_2, t_law_far_3, t_law_far_4, take0, asA, getA, mvS, rdS, setT, outs, h1, h2, p, m0, m1]
theorem run_far (d : Deal) (h : d.at_ < 900000) : ∃ (x : Int) (d' : Deal), run c__law_far [d.pv] = .ok (.int x, [d'.pv]) ∧ -(10 ^ 26) < x ∧ x < 10 ^ 26 ∧ d'.at_ ≤ d.at_ + 7 :=
  ⟨_, _, run_far' d h, (far_bd d).1, (far_bd d).2, far_at d⟩
/-! ### a drawn floor -/
theorem run_size {d : Deal} {sm mo : Nat} (h1 : 0 < sm) (h2 : 0 < mo) (ha : d.at_ < 900000) : ∃ (n : Nat) (d' : Deal), run c__law_size [d.pv, .int sm, .int mo] = .ok (.int (n : Nat), [d'.pv, .int sm, .int mo]) ∧ 0 < n ∧ (n ≤ sm ∨ n ≤ mo) ∧ d'.at_ ≤ d.at_ + 2 := by
  have s1 : (0 : Int) < sm := by omega
  have s2 : (0 : Int) < mo := by omega
  have a1 := d.nx.tk_nn s2
  have a2 := d.nx.tk_lt s2
  have a3 := d.nx.tk_nn s1
  have a4 := d.nx.tk_lt s1
  have hF : freeA [d.pv, .int sm, .int mo] (asgB (.cons t_law_size_1 (.cons t_law_size_2 .nil))) = true := by simp [freeA, asgB, asgS, asgT, t_law_size_1, t_law_size_2]
  have t0 := take0 (d := d) (r := [some (.int sm), some (.int mo)]) (m := 8) (by omega) (by decide)
  by_cases h : d.tk 8 = 0
  · have t1 := take0V2 (d := d.nx) (x1 := some (.int sm)) (r := []) (m := mo) (by simp; omega) s2
    refine ⟨(1 + d.nx.tk mo).toNat, d.nx.nx, run_ok (en := [some d.nx.nx.pv, some (.int sm), some (.int mo)]) rfl (by decide) hF (exs_ret ?_) (by simp [outs]), by omega, .inr (by omega), by simp⟩
    rw [show (((1 + d.nx.tk mo).toNat : Nat) : Int) = 1 + d.nx.tk mo by omega]
    rw [h] at t0
    simp [-q_ev_call, t_law_size_1, t0, t1, asA, getA]
  · have t1 := take0V1 (d := d.nx) (x2 := none) (r := [some (.int mo)]) (m := sm) (by simp; omega) s1
    refine ⟨(1 + d.nx.tk sm).toNat, d.nx.nx, run_ok (en := [some d.nx.nx.pv, some (.int sm), some (.int mo)]) rfl (by decide) hF ((exs_step (env' := [some d.nx.pv, some (.int sm), some (.int mo)]) ?_).trans (exs_ret ?_)) (by simp [outs]), by omega, .inl (by omega), by simp⟩
    · simp [-q_ev_call, t_law_size_1, t0, asA, getA, h]
    · rw [show (((1 + d.nx.tk sm).toNat : Nat) : Int) = 1 + d.nx.tk sm by omega]
      simp [-q_ev_call, t_law_size_2, t1, asA, getA]
theorem run_floor {d : Deal} {sm mo : Nat} (h1 : 0 < sm) (h2 : 0 < mo) (h3 : sm ≤ 12) (h4 : mo ≤ 12) (ha : d.at_ < 400000) : ∃ (M N : Nat) (f : Nat → Nat → Bool) (s : Int) (d' : Deal), run c__law_floor [d.pv, .int sm, .int mo] = .ok (flV M N f s, [d'.pv, .int sm, .int mo]) ∧ FB M N s ∧ M ≤ 12 ∧ N ≤ 12 ∧ d'.at_ ≤ d.at_ + 2500 := by
  obtain ⟨M, d1, r1, g1, g2, g3⟩ := run_size (d := d) h1 h2 (by omega)
  obtain ⟨N, d2, r2, g4, g5, g6⟩ := run_size (d := d1) h1 h2 (by omega)
  obtain ⟨d3, f, r3, g7⟩ := run_grid (d := d2) (M := M) (N := N) g1 (by omega) g4 (by omega) (by omega)
  have hN1 : (0 : Int) < N := by omega
  have b1 := d3.tk_nn hN1
  have b2 := d3.tk_lt hN1
  refine ⟨M, N, f, d3.tk N, d3.nx, run_ok (en := [some d3.nx.pv, some (.int sm), some (.int mo), some (.int (M : Nat)), some (.int (N : Nat))]) rfl (by decide) (by simp [freeA, asgB, asgS, asgT, t_law_floor_1, t_law_floor_2, t_law_floor_3]) ((exs_step (env' := [some d1.pv, some (.int sm), some (.int mo), some (.int (M : Nat)), none]) ?_).trans <| (exs_step (env' := [some d2.pv, some (.int sm), some (.int mo), some (.int (M : Nat)), some (.int (N : Nat))]) ?_).trans <| exs_ret ?_) (by simp [outs]), ⟨g1, by omega, g4, by omega, b1, b2⟩, by omega, by omega, by simp; omega⟩
  · simp [t_law_floor_1, asA, lend, r1, back, setT_v]
  · simp [t_law_floor_2, asA, lend, r2, back, setT_v]
  · have eg : ev (.call "_law_grid" c__law_grid (.cons (.var 0) (.cons (.var 3) (.cons (.var 4) .nil)))) [some d2.pv, some (.int sm), some (.int mo), some (.int (M : Nat)), some (.int (N : Nat))] = .ok (pcV M N f, [some d3.pv, some (.int sm), some (.int mo), some (.int (M : Nat)), some (.int (N : Nat))]) := by
      simp [asA, lend, r3, back]
    have ht := take0V4 (d := d3) (x1 := some (.int sm)) (x2 := some (.int mo)) (x3 := some (.int (M : Nat))) (r := []) (m := N) (by omega) hN1
    simp only [t_law_floor_3, q_ex_ret_2, q_ev_tup, q_evs_cons, eg, R.bind_ok, ht, q_evs_nil]
    simp [sLen, flV_mk]
section
variable {M N : Nat} {f : Nat → Nat → Bool} {s : Int}
/-- the square of a place in a copy -/
def sqr (M N : Nat) (s : Int) (p c : Int × Int) : Int × Int := (p.1 + c.1 * M, p.2 + c.1 * s + c.2 * N)
theorem run_law_square (B : FB M N s) (p c : Int × Int) : run c__law_square [flV M N f s, sq p, sq c] = .ok (sq (sqr M N s p c), [flV M N f s, sq p, sq c]) := by
  have mM := B.mM
  have mN := B.mN
  have ms := B.ms
  have l0 := B.l0 (f := f)
  have i0 := B.i0 (f := f)
  refine run_ok (en := [some (flV M N f s), some (sq p), some (sq c)]) rfl (by decide) (by simp [freeA, asgB, asgS, asgT, t_law_square_1]) (exs_ret ?_) (by simp [outs])
  simp [-v_lenS, t_law_square_1, asA, getA, getAs, mM, mN, ms, l0, i0, sLen, sq_mk, sqr]
theorem run_square_of (B : FB M N s) (p c : Int × Int) : run c_square_of [flV M N f s, sq p, sq c] = .ok (sq (sqr M N s p c), [flV M N f s, sq p, sq c]) := by
  have rl := run_lift (f := f) B c
  refine run_ok (en := [some (flV M N f s), some (sq p), some (sq c), some (.int (c.1 * M)), some (.int (c.1 * s + c.2 * N))]) rfl (by decide) (by simp [freeA, asgB, asgS, asgT, t_square_of_1, t_square_of_2]) ((exs_step (env' := [some (flV M N f s), some (sq p), some (sq c), some (.int (c.1 * M)), some (.int (c.1 * s + c.2 * N))]) ?_).trans (exs_ret ?_)) (by simp [outs])
  · simp [t_square_of_1, asA, lend, rl, back]
  · simp [t_square_of_2, asA, getA, sLen, sq_mk]
    unfold sqr
    rw [Int.add_assoc]
/-- place and copy of it -/
theorem dn_sqr (B : FB M N s) {p : Int × Int} (c : Int × Int) (hp : p ∈ allP M N) : dnI M (sqr M N s p c) = c.1 := by
  obtain ⟨h1, h2, h3, h4⟩ := mem_allP.mp hp
  have hM := B.M0
  unfold dnI sqr
  rw [Int.fdiv_eq_ediv_of_nonneg _ (by omega), Int.add_mul_ediv_right _ _ (by omega), Int.ediv_eq_zero_of_lt h1 h2]
  omega
theorem rt_sqr (B : FB M N s) {p : Int × Int} (c : Int × Int) (hp : p ∈ allP M N) : rtI M N s (sqr M N s p c) = c.2 := by
  obtain ⟨h1, h2, h3, h4⟩ := mem_allP.mp hp
  have hN := B.N0
  unfold rtI
  rw [dn_sqr B c hp]
  show (p.2 + c.1 * s + c.2 * N - c.1 * s).fdiv N = c.2
  rw [show p.2 + c.1 * s + c.2 * (N : Int) - c.1 * s = p.2 + c.2 * N by omega, Int.fdiv_eq_ediv_of_nonneg _ (by omega), Int.add_mul_ediv_right _ _ (by omega), Int.ediv_eq_zero_of_lt h3 h4]
  omega
theorem plc_sqr (B : FB M N s) {p : Int × Int} (c : Int × Int) (hp : p ∈ allP M N) : plc M N s (sqr M N s p c) = p := by
  unfold plc
  rw [dn_sqr B c hp, rt_sqr B c hp]
  unfold sqr
  refine Prod.ext ?_ ?_
  · show p.1 + c.1 * M - c.1 * M = p.1
    omega
  · show p.2 + c.1 * s + c.2 * N - c.1 * s - c.2 * N = p.2
    omega
theorem sqr_plc (q : Int × Int) : sqr M N s (plc M N s q) (dnI M q, rtI M N s q) = q := by
  unfold sqr plc
  refine Prod.ext ?_ ?_
  · show q.1 - dnI M q * M + dnI M q * M = q.1
    omega
  · show q.2 - dnI M q * s - rtI M N s q * N + dnI M q * s + rtI M N s q * N = q.2
    omega
theorem plc_all (B : FB M N s) (q : Int × Int) : plc M N s q ∈ allP M N := by
  have h1 := plc_1 B q
  have h2 := plc_2 B q
  exact mem_allP.mpr ⟨h1.1, h1.2, h2.1, h2.2⟩
end
end EN

set_option maxRecDepth 100000
namespace EB
open PySem EL
def t_law_size_1 : CS := (.ite (.cmp .eq (.call "_law_take" c__law_take (.cons (.var 0) (.cons (.lit (.int 10)) .nil))) (.lit (.int 0))) (.cons (.ret (.yes (.bin .add (.lit (.int 1)) (.call "_law_take" c__law_take (.cons (.var 0) (.cons (.lit (.int 12)) .nil)))))) .nil) .nil)
def t_law_size_2 : CS := (.ret (.yes (.bin .add (.lit (.int 1)) (.call "_law_take" c__law_take (.cons (.var 0) (.cons (.lit (.int 5)) .nil))))))
def c__law_size : CF := .mk 1 ["deal"] (.cons t_law_size_1 (.cons t_law_size_2 .nil))
def t_law_piece_1 : CS := (.asg (.var 1) (.call "_law_size" c__law_size (.cons (.var 0) .nil)))
def t_law_piece_2 : CS := (.ret (.yes (.call "_law_grid" c__law_grid (.cons (.var 0) (.cons (.var 1) (.cons (.call "_law_size" c__law_size (.cons (.var 0) .nil)) .nil))))))
def c__law_piece : CF := .mk 1 ["deal", "rows"] (.cons t_law_piece_1 (.cons t_law_piece_2 .nil))
def t_law_trail_1 : CS := (.asg (.var 3) (.tup (.cons (.lit (.int 0)) (.cons (.bin .sub (.call "_law_take" c__law_take (.cons (.var 0) (.cons (.bin .mul (.lit (.int 3)) (.var 2)) .nil))) (.var 2)) .nil))))
def t_law_trail_2 : CS := (.asg (.var 4) (.lst false (.cons (.var 3) .nil)))
def t_law_trail_3_1 : CS := (.asg (.tup [6, 7]) (.idx (.lst false (.cons (.tup (.cons (.neg (.lit (.int 1))) (.cons (.lit (.int 0)) .nil))) (.cons (.tup (.cons (.lit (.int 0)) (.cons (.neg (.lit (.int 1))) .nil))) (.cons (.tup (.cons (.lit (.int 0)) (.cons (.lit (.int 1)) .nil))) (.cons (.tup (.cons (.lit (.int 1)) (.cons (.lit (.int 0)) .nil))) .nil))))) (.call "_law_take" c__law_take (.cons (.var 0) (.cons (.lit (.int 4)) .nil)))))
def t_law_trail_3_2 : CS := (.ite (.chn .le .lt (.lit (.int 0)) (.bin .add (.idx (.var 3) (.lit (.int 0))) (.var 6)) (.var 1)) (.cons (.asg (.var 3) (.tup (.cons (.bin .add (.idx (.var 3) (.lit (.int 0))) (.var 6)) (.cons (.bin .add (.idx (.var 3) (.lit (.int 1))) (.var 7)) .nil)))) (.cons (.app 4 (.var 3)) .nil)) .nil)
def t_law_trail_3B : CSs := (.cons t_law_trail_3_1 (.cons t_law_trail_3_2 .nil))
def t_law_trail_3 : CS := (.for_ (.var 5) (.rng1 (.call "_law_take" c__law_take (.cons (.var 0) (.cons (.lit (.int 13)) .nil)))) t_law_trail_3B)
def t_law_trail_4_1 : CS := (.app 4 (.tup (.cons (.mv 8) (.cons (.idx (.var 3) (.lit (.int 1))) .nil))))
def t_law_trail_4B : CSs := (.cons t_law_trail_4_1 .nil)
def t_law_trail_4 : CS := (.for_ (.var 8) (.rng2 (.bin .add (.idx (.var 3) (.lit (.int 0))) (.lit (.int 1))) (.var 1)) t_law_trail_4B)
def t_law_trail_5 : CS := (.ret (.yes (.mv 4)))
def c__law_trail : CF := .mk 3 ["deal", "rows", "columns", "here", "way", "turn", "down", "right", "row"] (.cons t_law_trail_1 (.cons t_law_trail_2 (.cons t_law_trail_3 (.cons t_law_trail_4 (.cons t_law_trail_5 .nil)))))
def t_law_put_1 : CS := (.asg (.var 3) (.lc false [4] (.var 4) (.val (.var 0)) .no (.var 4)))
def t_law_put_2_1 : CS := (.asg (.var 6) (.bin .mod (.var 5) (.blt .len (.cons (.idx (.var 0) (.lit (.int 0))) .nil))))
def t_law_put_2_2 : CS := (.sti 3 (.var 4) (.bin .add (.bin .add (.slc (.idx (.var 3) (.var 4)) .no (.yes (.var 6))) (.var 2)) (.slc (.idx (.var 3) (.var 4)) (.yes (.bin .add (.var 6) (.lit (.int 1)))) .no)))
def t_law_put_2B : CSs := (.cons t_law_put_2_1 (.cons t_law_put_2_2 .nil))
def t_law_put_2 : CS := (.for_ (.tup [4, 5]) (.val (.var 1)) t_law_put_2B)
def t_law_put_3 : CS := (.ret (.yes (.blt .tuple (.cons (.var 3) .nil))))
def c__law_put : CF := .mk 3 ["piece", "places", "sign", "rows", "row", "column", "c"] (.cons t_law_put_1 (.cons t_law_put_2 (.cons t_law_put_3 .nil)))
def t_is_in_1 : CS := (.ret (.yes (.chn .le .lt (.lit (.int 0)) (.idx (.var 1) (.lit (.int 0))) (.blt .len (.cons (.var 0) .nil)))))
def c_is_in : CF := .mk 2 ["piece", "square"] (.cons t_is_in_1 .nil)
def t_is_band_land_1 : CS := (.ret (.yes (.and (.call "is_in" c_is_in (.cons (.var 0) (.cons (.var 1) .nil))) (.cmp .eq (.idx (.idx (.var 0) (.idx (.var 1) (.lit (.int 0)))) (.bin .mod (.idx (.var 1) (.lit (.int 1))) (.blt .len (.cons (.idx (.var 0) (.lit (.int 0))) .nil)))) (.glb "LAND" (.str (Str.ofString "x")))))))
def c_is_band_land : CF := .mk 2 ["piece", "square"] (.cons t_is_band_land_1 .nil)
def t_shows_crossing_1 : CS := (.ite (.or (.cmp .eq (.blt .len (.cons (.var 1) .nil)) (.lit (.int 0))) (.or (.cmp .ne (.idx (.idx (.var 1) (.lit (.int 0))) (.lit (.int 0))) (.lit (.int 0))) (.cmp .ne (.idx (.idx (.var 1) (.neg (.lit (.int 1)))) (.lit (.int 0))) (.bin .sub (.blt .len (.cons (.var 0) .nil)) (.lit (.int 1)))))) (.cons (.ret (.yes (.lit (.bl false)))) .nil) .nil)
def t_shows_crossing_2_1 : CS := (.ite (.or (.not (.call "is_band_land" c_is_band_land (.cons (.var 0) (.cons (.idx (.var 1) (.var 2)) .nil)))) (.and (.cmp .gt (.var 2) (.lit (.int 0))) (.cmp .notIn (.idx (.var 1) (.var 2)) (.call "side_neighbours" c_side_neighbours (.cons (.idx (.var 1) (.bin .sub (.var 2) (.lit (.int 1)))) .nil))))) (.cons (.ret (.yes (.lit (.bl false)))) .nil) .nil)
def t_shows_crossing_2B : CSs := (.cons t_shows_crossing_2_1 .nil)
def t_shows_crossing_2 : CS := (.for_ (.var 2) (.rng1 (.blt .len (.cons (.var 1) .nil))) t_shows_crossing_2B)
def t_shows_crossing_3 : CS := (.ret (.yes (.lit (.bl true))))
def c_shows_crossing : CF := .mk 2 ["piece", "squares", "k"] (.cons t_shows_crossing_1 (.cons t_shows_crossing_2 (.cons t_shows_crossing_3 .nil)))
def t_law_way_1_1 : CS := (.asg (.tup [4, 5]) (.idx (.var 1) (.var 3)))
def t_law_way_1_2 : CS := (.ite (.or (.cmp .lt (.var 4) (.lit (.int 0))) (.or (.cmp .ge (.var 4) (.blt .len (.cons (.var 0) .nil))) (.cmp .ne (.idx (.idx (.var 0) (.var 4)) (.bin .mod (.var 5) (.blt .len (.cons (.idx (.var 0) (.lit (.int 0))) .nil)))) (.var 2)))) (.cons (.ret (.yes (.lit (.bl false)))) .nil) .nil)
def t_law_way_1_3 : CS := (.ite (.cmp .gt (.var 3) (.lit (.int 0))) (.cons (.asg (.var 6) (.blt .abs (.cons (.bin .sub (.var 4) (.idx (.idx (.var 1) (.bin .sub (.var 3) (.lit (.int 1)))) (.lit (.int 0)))) .nil))) (.cons (.asg (.var 7) (.blt .abs (.cons (.bin .sub (.var 5) (.idx (.idx (.var 1) (.bin .sub (.var 3) (.lit (.int 1)))) (.lit (.int 1)))) .nil))) (.cons (.ite (.or (.cmp .ne (.blt .max2 (.cons (.var 6) (.cons (.var 7) .nil))) (.lit (.int 1))) (.and (.cmp .eq (.var 2) (.lit (.str (Str.ofString "x")))) (.cmp .ne (.bin .add (.var 6) (.var 7)) (.lit (.int 1))))) (.cons (.ret (.yes (.lit (.bl false)))) .nil) .nil) .nil))) .nil)
def t_law_way_1B : CSs := (.cons t_law_way_1_1 (.cons t_law_way_1_2 (.cons t_law_way_1_3 .nil)))
def t_law_way_1 : CS := (.for_ (.var 3) (.rng1 (.blt .len (.cons (.var 1) .nil))) t_law_way_1B)
def t_law_way_2 : CS := (.ret (.yes (.cmp .gt (.blt .len (.cons (.var 1) .nil)) (.lit (.int 0)))))
def c__law_way : CF := .mk 3 ["piece", "way", "sign", "k", "row", "column", "down", "right"] (.cons t_law_way_1 (.cons t_law_way_2 .nil))
def t_law_crosses_1 : CS := (.ret (.yes (.and (.call "_law_way" c__law_way (.cons (.var 0) (.cons (.var 1) (.cons (.lit (.str (Str.ofString "x"))) .nil)))) (.and (.cmp .eq (.idx (.idx (.var 1) (.lit (.int 0))) (.lit (.int 0))) (.lit (.int 0))) (.cmp .eq (.idx (.idx (.var 1) (.neg (.lit (.int 1)))) (.lit (.int 0))) (.bin .sub (.blt .len (.cons (.var 0) .nil)) (.lit (.int 1))))))))
def c__law_crosses : CF := .mk 2 ["piece", "way"] (.cons t_law_crosses_1 .nil)
end EB

set_option maxRecDepth 100000
set_option maxHeartbeats 4000000
namespace EB
open PySem PySem.Spec L2 EL
theorem run_size {d : Deal} (ha : d.at_ < 900000) : ∃ (n : Nat) (d' : Deal), run c__law_size [d.pv] = .ok (.int (n : Nat), [d'.pv]) ∧ 0 < n ∧ n ≤ 12 ∧ d'.at_ ≤ d.at_ + 2 := by
  have a1 := d.nx.tk_nn (m := 12) (by decide)
  have a2 := d.nx.tk_lt (m := 12) (by decide)
  have a3 := d.nx.tk_nn (m := 5) (by decide)
  have a4 := d.nx.tk_lt (m := 5) (by decide)
  have hF : ([d.pv].length = 1 ∧ 1 ≤ ["deal"].length ∧ freeA [d.pv] (asgB (.cons t_law_size_1 (.cons t_law_size_2 .nil))) = true) := ⟨rfl, by decide, by simp [freeA, asgB, asgS, asgT, t_law_size_1, t_law_size_2]⟩
  by_cases h : d.tk 10 = 0
  · refine ⟨(1 + d.nx.tk 12).toNat, d.nx.nx, ?_, by omega, by omega, by simp⟩
    unfold c__law_size
    rw [run_mk, if_pos hF, show (((1 + d.nx.tk 12).toNat : Nat) : Int) = 1 + d.nx.tk 12 by omega]
    simp (disch := first | decide | omega | (simp; omega)) [-q_ev_call, t_law_size_1, t_law_size_2, take0, asA, getA, outs, h]
  · refine ⟨(1 + d.nx.tk 5).toNat, d.nx.nx, ?_, by omega, by omega, by simp⟩
    unfold c__law_size
    rw [run_mk, if_pos hF, show (((1 + d.nx.tk 5).toNat : Nat) : Int) = 1 + d.nx.tk 5 by omega]
    simp (disch := first | decide | omega | (simp; omega)) [-q_ev_call, t_law_size_1, t_law_size_2, take0, asA, getA, outs, h]
theorem run_piece {d : Deal} (ha : d.at_ < 400000) : ∃ (M N : Nat) (f : Nat → Nat → Bool) (d' : Deal), run c__law_piece [d.pv] = .ok (pcV M N f, [d'.pv]) ∧ 0 < M ∧ M ≤ 12 ∧ 0 < N ∧ N ≤ 12 ∧ d'.at_ ≤ d.at_ + 2500 := by
  obtain ⟨M, d1, e1, h1, h2, h3⟩ := run_size (d := d) (by omega)
  obtain ⟨N, d2, e2, h4, h5, h6⟩ := run_size (d := d1) (by omega)
  obtain ⟨d3, f, e3, h7⟩ := run_grid (d := d2) (M := M) (N := N) h1 (by omega) h4 (by omega) (by omega)
  refine ⟨M, N, f, d3, ?_, h1, h2, h4, h5, by omega⟩
  unfold c__law_piece
  rw [run_mk, if_pos ⟨rfl, by decide, by simp [freeA, asgB, asgS, asgT, t_law_piece_1, t_law_piece_2]⟩]
  simp [t_law_piece_1, t_law_piece_2, asA, lend, e1, e2, e3, back, setT, outs]
/-! ### squares of a band -/
def inB (M : Nat) (p : Int × Int) : Bool := decide (0 ≤ p.1) && decide (p.1 < M)
def bl (M N : Nat) (f : Nat → Nat → Bool) (p : Int × Int) : Bool := inB M p && f p.1.toNat (p.2.fmod N).toNat
section
variable {M N : Nat} {f : Nat → Nat → Bool}
theorem run_is_in (p : Int × Int) : run c_is_in [pcV M N f, sq p] = .ok (.bl (inB M p), [pcV M N f, sq p]) := by
  unfold c_is_in inB
  rw [run_mk, if_pos ⟨rfl, by decide, by simp [freeA, asgB, asgS, asgT, t_is_in_1]⟩]
  by_cases h : 0 ≤ p.1
  · simp [t_is_in_1, asA, getA, getAs, rdS, outs, h]
  · simp [t_is_in_1, asA, getA, getAs, rdS, outs, h]
theorem run_band_land (p : Int × Int) (hM : 0 < M) (hN : 0 < N) (hN2 : N ≤ 1000) : run c_is_band_land [pcV M N f, sq p] = .ok (.bl (bl M N f p), [pcV M N f, sq p]) := by
  have n0 : (0 : Int) < N := by omega
  have a1 := Int.fmod_nonneg_of_pos p.2 n0
  have a2 := Int.fmod_lt_of_pos p.2 n0
  have n1 : ¬ (N : Int) = 0 := by omega
  have n2 : ¬ N = 0 := by omega
  have l0 := rowT_blen (C := N) (f := f 0) (by omega)
  have i0 : idxP (pcV M N f) (.int 0) = some (.str (rowT N (f 0))) := pcV_ix (by omega) (by omega)
  unfold c_is_band_land bl
  rw [run_mk, if_pos ⟨rfl, by decide, by simp [freeA, asgB, asgS, asgT, t_is_band_land_1]⟩]
  cases h : inB M p with
  | false => simp [t_is_band_land_1, asA, getA, getAs, lend, run_is_in, back, outs, h]
  | true =>
    have h' := h
    unfold inB at h'
    rw [Bool.and_eq_true, decide_eq_true_eq, decide_eq_true_eq] at h'
    have i1 := pcV_ix (C := N) (f := f) h'.1 h'.2
    have i2 := rowT_ix (f := f p.1.toNat) (show N ≤ 100000 by omega) a1 a2
    cases h2 : f p.1.toNat (p.2.fmod N).toNat <;> simp [-v_lenS, t_is_band_land_1, asA, getA, getAs, rdS, lend, run_is_in, back, outs, h, i0, l0, n1, n2, i1, i2, sg_x, h2]
/-- a crossing -/
def XP (M N : Nat) (f : Nat → Nat → Bool) (w : List (Int × Int)) : Prop := w ≠ [] ∧ (gs w 0).1 = 0 ∧ (gs w (w.length - 1)).1 = M - 1 ∧ ∀ k, k < w.length → bl M N f (gs w k) = true ∧ (0 < k → gs w k ∈ sidesL (gs w (k - 1)))
def xpB (M N : Nat) (f : Nat → Nat → Bool) (w : List (Int × Int)) (k : Nat) : Bool := bl M N f (gs w k) && (decide (k = 0) || decide (gs w k ∈ sidesL (gs w (k - 1))))
theorem sx_turn {fl : Fl} {w : List (Int × Int)} {k : Nat} {x : Option PV} (hf : fl ≠ .deep) (hM : 0 < M) (hN : 0 < N) (hN2 : N ≤ 1000) (hk : k < w.length) :
    forB (.var 2) t_shows_crossing_2B (.int (k : Nat)) [some (pcV M N f), some (.lst fl (w.map sq)), x] = .ok (if xpB M N f w k then .nxt else .ret (.bl false), [some (pcV M N f), some (.lst fl (w.map sq)), some (.int (k : Nat))]) := by
  have i1 : idxP (.lst fl (w.map sq)) (.int (k : Nat)) = some (sq (gs w k)) := by
    rw [sqs_ix hf (by omega) (by omega), Int.toNat_natCast]
  have r1 := run_band_land (M := M) (N := N) (f := f) (gs w k) hM hN hN2
  unfold xpB
  cases h1 : bl M N f (gs w k) with
  | false =>
    rw [h1] at r1
    simp [forB, setT, t_shows_crossing_2B, t_shows_crossing_2_1, asA, getA, rdS, i1, lend, r1, back]
  | true =>
    rw [h1] at r1
    by_cases h2 : k = 0
    · subst h2
      simp only [Int.ofNat_zero] at i1 ⊢
      simp [forB, setT, t_shows_crossing_2B, t_shows_crossing_2_1, asA, getA, rdS, i1, lend, r1, back]
    · have i2 : idxP (.lst fl (w.map sq)) (.int ((k : Nat) - 1)) = some (sq (gs w (k - 1))) := by
        rw [sqs_ix hf (by omega) (by omega), show ((k : Int) - 1).toNat = k - 1 by omega]
      have k0 : 0 < k := by omega
      by_cases h3 : gs w k ∈ sidesL (gs w (k - 1))
      · simp [forB, setT, t_shows_crossing_2B, t_shows_crossing_2_1, asA, getA, rdS, i1, i2, lend, r1, back, h2, k0, run_sides, h3]
      · simp [forB, setT, t_shows_crossing_2B, t_shows_crossing_2_1, asA, getA, rdS, i1, i2, lend, r1, back, h2, k0, run_sides, h3]
theorem run_sx {fl : Fl} {w : List (Int × Int)} (hf : fl ≠ .deep) (hM : 0 < M) (hN : 0 < N) (hN2 : N ≤ 1000) (hw : w.length < 1000000) :
    ∃ b : Bool, run c_shows_crossing [pcV M N f, .lst fl (w.map sq)] = .ok (.bl b, [pcV M N f, .lst fl (w.map sq)]) ∧ (b = true ↔ XP M N f w) := by
  have hF : ([pcV M N f, .lst fl (w.map sq)].length = 2 ∧ 2 ≤ ["piece", "squares", "k"].length ∧ freeA [pcV M N f, .lst fl (w.map sq)] (asgB (.cons t_shows_crossing_1 (.cons t_shows_crossing_2 (.cons t_shows_crossing_3 .nil)))) = true) := ⟨rfl, by decide, by simp [freeA, asgB, asgS, asgT, t_shows_crossing_1, t_shows_crossing_2, t_shows_crossing_3, t_shows_crossing_2B, t_shows_crossing_2_1]⟩
  have ho : ∀ x, outs [some (pcV M N f), some (.lst fl (w.map sq)), x] [pcV M N f, .lst fl (w.map sq)] 0 = some [pcV M N f, .lst fl (w.map sq)] := fun x => by
    cases h : isOwn (PV.lst fl (w.map sq)) <;> simp [outs, h]
  by_cases h0 : w = []
  · subst h0
    refine ⟨false, ?_, by simp [XP]⟩
    unfold c_shows_crossing
    rw [run_mk, if_pos hF]
    rw [exs_ret (env' := [some (pcV M N f), some (.lst fl (([] : List (Int × Int)).map sq)), none]) (v := .bl false) (by simp [t_shows_crossing_1, asA, getA, getAs])]
    rw [R.bind_ok]
    simp only
    rw [ho]; rfl
  have hl : 0 < w.length := List.length_pos_iff.mpr h0
  have i1 : idxP (.lst fl (w.map sq)) (.int 0) = some (sq (gs w 0)) := sqs_ix hf (by omega) (by omega)
  have i2 : idxP (.lst fl (w.map sq)) (.int (-1)) = some (sq (gs w (w.length - 1))) := sqs_last hf h0
  by_cases h1 : (gs w 0).1 = 0
  · by_cases h2 : (gs w (w.length - 1)).1 = M - 1
    · have e1 : ex t_shows_crossing_1 [some (pcV M N f), some (.lst fl (w.map sq)), none] = .ok (.nxt, [some (pcV M N f), some (.lst fl (w.map sq)), none]) := by
        simp [t_shows_crossing_1, asA, getA, getAs, h0, i1, i2, h1, h2]
      have el : ev (.blt .len (.cons (.var 1) .nil)) [some (pcV M N f), some (.lst fl (w.map sq)), none] = .ok (.int (w.length : Nat), [some (pcV M N f), some (.lst fl (w.map sq)), none]) := by
        simp [asA, getAs, getA]
      have key := loop_scanR (b := forB (.var 2) t_shows_crossing_2B) (n := w.length) (fun i en => ∃ x, en = [some (pcV M N f), some (.lst fl (w.map sq)), x]) (fun en => ∃ x, en = [some (pcV M N f), some (.lst fl (w.map sq)), x]) (.bl false) (xpB M N f w)
        (env := [some (pcV M N f), some (.lst fl (w.map sq)), none]) (fun i en hi ⟨x, e⟩ _ => by
          subst e
          have := sx_turn (f := f) (x := x) hf hM hN hN2 hi
          cases h : xpB M N f w i with
          | true => rw [h] at this; exact ⟨_, this, _, rfl⟩
          | false => rw [h] at this; exact ⟨_, this, _, rfl⟩) ⟨_, rfl⟩
      have all : (∀ k, k < w.length → xpB M N f w k = true) ↔ ∀ k, k < w.length → bl M N f (gs w k) = true ∧ (0 < k → gs w k ∈ sidesL (gs w (k - 1))) := by
        refine forall_congr' fun k => imp_congr Iff.rfl ?_
        unfold xpB
        simp only [Bool.and_eq_true, Bool.or_eq_true, decide_eq_true_eq]
        refine and_congr Iff.rfl ⟨fun h hk => h.resolve_left (by omega), fun h => ?_⟩
        by_cases hk : k = 0
        · exact .inl hk
        · exact .inr (h (by omega))
      unfold c_shows_crossing
      rw [run_mk, if_pos hF]
      show ∃ b, ((exs (.cons t_shows_crossing_1 (.cons t_shows_crossing_2 (.cons t_shows_crossing_3 .nil))) [some (pcV M N f), some (.lst fl (w.map sq)), none]).bind _) = _ ∧ _
      rw [exs_step e1]
      rcases key with ⟨ha, en, e2, x, rfl⟩ | ⟨⟨i, hi, hn⟩, en, e2, x, rfl⟩
      · refine ⟨true, ?_, ⟨fun _ => ⟨h0, h1, h2, all.mp ha⟩, fun _ => rfl⟩⟩
        have e3 : ex t_shows_crossing_2 [some (pcV M N f), some (.lst fl (w.map sq)), none] = .ok (.nxt, [some (pcV M N f), some (.lst fl (w.map sq)), x]) := by
          unfold t_shows_crossing_2
          rw [q_ex_for, evI_rng el (rng_ok (by omega)), R.bind_ok]
          exact e2
        rw [exs_step e3, exs_ret (v := .bl true) (env' := [some (pcV M N f), some (.lst fl (w.map sq)), x]) (by simp [t_shows_crossing_3]), R.bind_ok]
        simp only
        rw [ho]; rfl
      · refine ⟨false, ?_, ⟨fun h => by simp at h, fun h => by
          have := all.mpr h.2.2.2 i hi
          rw [hn] at this; exact this⟩⟩
        have e3 : ex t_shows_crossing_2 [some (pcV M N f), some (.lst fl (w.map sq)), none] = .ok (.ret (.bl false), [some (pcV M N f), some (.lst fl (w.map sq)), x]) := by
          unfold t_shows_crossing_2
          rw [q_ex_for, evI_rng el (rng_ok (by omega)), R.bind_ok]
          exact e2
        rw [exs_ret e3, R.bind_ok]
        simp only
        rw [ho]; rfl
    · refine ⟨false, ?_, ⟨fun h => by simp at h, fun h => absurd h.2.2.1 h2⟩⟩
      unfold c_shows_crossing
      rw [run_mk, if_pos hF]
      rw [exs_ret (env' := [some (pcV M N f), some (.lst fl (w.map sq)), none]) (v := .bl false) (by simp [t_shows_crossing_1, asA, getA, getAs, h0, i1, i2, h1, h2])]
      rw [R.bind_ok]
      simp only
      rw [ho]; rfl
  · refine ⟨false, ?_, ⟨fun h => by simp at h, fun h => absurd h.2.1 h1⟩⟩
    unfold c_shows_crossing
    rw [run_mk, if_pos hF]
    rw [exs_ret (env' := [some (pcV M N f), some (.lst fl (w.map sq)), none]) (v := .bl false) (by simp [t_shows_crossing_1, asA, getA, getAs, h0, i1, i2, h1])]
    rw [R.bind_ok]
    simp only
    rw [ho]; rfl
/-! ### _law_way -/
def ab (i : Int) : Int := if i < 0 then -i else i
def mx (i j : Int) : Int := if j > i then j else i
theorem ab_spec (i : Int) : (0 ≤ i ∧ ab i = i) ∨ (i < 0 ∧ ab i = -i) := by
  unfold ab
  by_cases h : i < 0
  · rw [if_pos h]; exact .inr ⟨h, rfl⟩
  · rw [if_neg h]; exact .inl ⟨by omega, rfl⟩
theorem mx_spec (i j : Int) : (j > i ∧ mx i j = j) ∨ (j ≤ i ∧ mx i j = i) := by
  unfold mx
  by_cases h : j > i
  · rw [if_pos h]; exact .inl ⟨h, rfl⟩
  · rw [if_neg h]; exact .inr ⟨by omega, rfl⟩
def adj (s : Bool) (p q : Int × Int) : Bool := decide (mx (ab (p.1 - q.1)) (ab (p.2 - q.2)) = 1) && (!s || decide (ab (p.1 - q.1) + ab (p.2 - q.2) = 1))
theorem adj_sides (p q : Int × Int) : adj true p q = true ↔ p ∈ sidesL q := by
  obtain ⟨a, b⟩ := p
  obtain ⟨c, e⟩ := q
  have h1 := ab_spec (a - c)
  have h2 := ab_spec (b - e)
  have h3 := mx_spec (ab (a - c)) (ab (b - e))
  simp only [adj, sidesL, Bool.and_eq_true, decide_eq_true_eq, Bool.not_true, Bool.false_or, List.mem_cons, Prod.mk.injEq, List.not_mem_nil, or_false]
  omega
def cell (M N : Nat) (f : Nat → Nat → Bool) (s : Bool) (p : Int × Int) : Bool := inB M p && decide (f p.1.toNat (p.2.fmod N).toNat = s)
def wayB (M N : Nat) (f : Nat → Nat → Bool) (s : Bool) (w : List (Int × Int)) (k : Nat) : Bool := cell M N f s (gs w k) && (decide (k = 0) || adj s (gs w k) (gs w (k - 1)))
abbrev wE (M N : Nat) (f : Nat → Nat → Bool) (fl : Fl) (w : List (Int × Int)) (s : Bool) (a b c e g : Option PV) : EL.Env := [some (pcV M N f), some (.lst fl (w.map sq)), some (.str (sg s)), a, b, c, e, g]
theorem way_turn {fl : Fl} {w : List (Int × Int)} {s : Bool} {k : Nat} {x1 x2 x3 x4 x5 : Option PV} (hf : fl ≠ .deep) (hM : 0 < M) (hN : 0 < N) (hN2 : N ≤ 1000) (hk : k < w.length) :
    ∃ y2 y3 y4 y5, forB (.var 3) t_law_way_1B (.int (k : Nat)) (wE M N f fl w s x1 x2 x3 x4 x5) = .ok (if wayB M N f s w k then .nxt else .ret (.bl false), wE M N f fl w s (some (.int (k : Nat))) y2 y3 y4 y5) := by
  have i1 : idxP (.lst fl (w.map sq)) (.int (k : Nat)) = some (sq (gs w k)) := by
    rw [sqs_ix hf (by omega) (by omega), Int.toNat_natCast]
  have h0 : forB (.var 3) t_law_way_1B (.int (k : Nat)) (wE M N f fl w s x1 x2 x3 x4 x5) = exs t_law_way_1B (wE M N f fl w s (some (.int (k : Nat))) x2 x3 x4 x5) := by
    simp [forB, setT]
  have e1 : ex t_law_way_1_1 (wE M N f fl w s (some (.int (k : Nat))) x2 x3 x4 x5) = .ok (.nxt, wE M N f fl w s (some (.int (k : Nat))) (some (.int (gs w k).1)) (some (.int (gs w k).2)) x4 x5) := by
    simp [t_law_way_1_1, asA, getA, rdS, i1]
  have n0 : (0 : Int) < N := by omega
  have a1 := Int.fmod_nonneg_of_pos (gs w k).2 n0
  have a2 := Int.fmod_lt_of_pos (gs w k).2 n0
  have n1 : ¬ (N : Int) = 0 := by omega
  have n2 : ¬ N = 0 := by omega
  have l0 := rowT_blen (C := N) (f := f 0) (by omega)
  have i0 : idxP (pcV M N f) (.int 0) = some (.str (rowT N (f 0))) := pcV_ix (by omega) (by omega)
  have e2 : ex t_law_way_1_2 (wE M N f fl w s (some (.int (k : Nat))) (some (.int (gs w k).1)) (some (.int (gs w k).2)) x4 x5) = .ok (if cell M N f s (gs w k) then .nxt else .ret (.bl false), wE M N f fl w s (some (.int (k : Nat))) (some (.int (gs w k).1)) (some (.int (gs w k).2)) x4 x5) := by
    generalize gs w k = p at *
    unfold cell inB
    by_cases h1 : p.1 < 0
    · have : ¬ 0 ≤ p.1 := by omega
      simp [t_law_way_1_2, asA, getA, h1, this]
    · have h1' : 0 ≤ p.1 := by omega
      by_cases h2 : p.1 < M
      · have h2' : ¬ (M : Int) ≤ p.1 := by omega
        have i1 := pcV_ix (C := N) (f := f) h1' h2
        have i2 := rowT_ix (f := f p.1.toNat) (show N ≤ 100000 by omega) a1 a2
        by_cases h3 : f p.1.toNat (p.2.fmod N).toNat = s
        · simp [-v_lenS, t_law_way_1_2, asA, getA, getAs, rdS, h1, h1', h2, h2', i0, l0, n1, n2, i1, i2, h3]
        · simp [-v_lenS, t_law_way_1_2, asA, getA, getAs, rdS, h1, h1', h2, h2', i0, l0, n1, n2, i1, i2, h3]
      · have h2' : (M : Int) ≤ p.1 := by omega
        simp [t_law_way_1_2, asA, getA, getAs, h1, h1', h2, h2']
  unfold wayB
  rw [h0]
  unfold t_law_way_1B
  rw [exs_step e1]
  cases hc : cell M N f s (gs w k) with
  | false =>
    rw [hc] at e2
    exact ⟨_, _, _, _, exs_ret e2⟩
  | true =>
    rw [hc] at e2
    rw [exs_step e2]
    by_cases hk0 : k = 0
    · subst hk0
      refine ⟨some (.int (gs w 0).1), some (.int (gs w 0).2), x4, x5, ?_⟩
      simp only [decide_true, Bool.true_or, Bool.and_true, if_true]
      rw [exs_step (env' := wE M N f fl w s (some (.int (0 : Nat))) (some (.int (gs w 0).1)) (some (.int (gs w 0).2)) x4 x5) (by simp [t_law_way_1_3, asA, getA]), q_exs_nil]
    · have i2 : idxP (.lst fl (w.map sq)) (.int ((k : Nat) - 1)) = some (sq (gs w (k - 1))) := by
        rw [sqs_ix hf (by omega) (by omega), show ((k : Int) - 1).toNat = k - 1 by omega]
      have k0 : 0 < k := by omega
      refine ⟨some (.int (gs w k).1), some (.int (gs w k).2), some (.int (ab ((gs w k).1 - (gs w (k - 1)).1))), some (.int (ab ((gs w k).2 - (gs w (k - 1)).2))), ?_⟩
      generalize gs w k = p at *
      generalize gs w (k - 1) = q at *
      have e3 : ex t_law_way_1_3 (wE M N f fl w s (some (.int (k : Nat))) (some (.int p.1)) (some (.int p.2)) x4 x5) = .ok (if adj s p q then .nxt else .ret (.bl false), wE M N f fl w s (some (.int (k : Nat))) (some (.int p.1)) (some (.int p.2)) (some (.int (ab (p.1 - q.1)))) (some (.int (ab (p.2 - q.2))))) := by
        unfold adj
        have mxe : ∀ i j : Int, (if j > i then j else i) = mx i j := fun _ _ => rfl
        have abe : ∀ i : Int, (if i < 0 then -i else i) = ab i := fun _ => rfl
        generalize hu : ab (p.1 - q.1) = u
        generalize hv : ab (p.2 - q.2) = v
        by_cases g1 : mx u v = 1
        · cases s with
          | false => simp [t_law_way_1_3, asA, getA, getAs, rdS, k0, i2, setT, abe, mxe, hu, hv, g1, sg_x]
          | true =>
            by_cases g2 : u + v = 1
            · simp [t_law_way_1_3, asA, getA, getAs, rdS, k0, i2, setT, abe, mxe, hu, hv, g1, sg_x, g2]
            · simp [t_law_way_1_3, asA, getA, getAs, rdS, k0, i2, setT, abe, mxe, hu, hv, g1, sg_x, g2]
        · simp [t_law_way_1_3, asA, getA, getAs, rdS, k0, i2, setT, abe, mxe, hu, hv, g1, sg_x]
      rw [decide_eq_false hk0, Bool.false_or, Bool.true_and]
      cases ha : adj s p q with
      | false =>
        rw [ha] at e3
        rw [exs_ret e3]
        rfl
      | true =>
        rw [ha] at e3
        rw [exs_step e3, q_exs_nil]
        rfl
theorem run_way {fl : Fl} {w : List (Int × Int)} {s : Bool} (hf : fl ≠ .deep) (hM : 0 < M) (hN : 0 < N) (hN2 : N ≤ 1000) (hw : w.length < 1000000) :
    ∃ b : Bool, run c__law_way [pcV M N f, .lst fl (w.map sq), .str (sg s)] = .ok (.bl b, [pcV M N f, .lst fl (w.map sq), .str (sg s)]) ∧ (b = true ↔ (w ≠ [] ∧ ∀ k, k < w.length → wayB M N f s w k = true)) := by
  have hF : freeA [pcV M N f, .lst fl (w.map sq), .str (sg s)] (asgB (.cons t_law_way_1 (.cons t_law_way_2 .nil))) = true := by
    simp [freeA, asgB, asgS, asgT, t_law_way_1, t_law_way_2, t_law_way_1B, t_law_way_1_1, t_law_way_1_2, t_law_way_1_3]
  have ho : ∀ a b c e g, outs (wE M N f fl w s a b c e g) [pcV M N f, .lst fl (w.map sq), .str (sg s)] 0 = some [pcV M N f, .lst fl (w.map sq), .str (sg s)] := fun a b c e g => by
    cases h : isOwn (PV.lst fl (w.map sq)) <;> simp [outs, h]
  have el : ev (.blt .len (.cons (.var 1) .nil)) (wE M N f fl w s none none none none none) = .ok (.int (w.length : Nat), wE M N f fl w s none none none none none) := by
    simp [asA, getAs, getA]
  have key := loop_scanR (b := forB (.var 3) t_law_way_1B) (n := w.length) (fun i en => ∃ a b c e g, en = wE M N f fl w s a b c e g) (fun en => ∃ a b c e g, en = wE M N f fl w s a b c e g) (.bl false) (wayB M N f s w)
    (env := wE M N f fl w s none none none none none) (fun i en hi ⟨a, b, c, e, g, he⟩ _ => by
      subst he
      obtain ⟨y2, y3, y4, y5, this⟩ := way_turn (f := f) (s := s) (x1 := a) (x2 := b) (x3 := c) (x4 := e) (x5 := g) hf hM hN hN2 hi
      cases h : wayB M N f s w i with
      | true => rw [h] at this; exact ⟨_, this, _, _, _, _, _, rfl⟩
      | false => rw [h] at this; exact ⟨_, this, _, _, _, _, _, rfl⟩) ⟨_, _, _, _, _, rfl⟩
  rcases key with ⟨ha, en, e2, a, b, c, e, g, rfl⟩ | ⟨⟨i, hi, hn⟩, en, e2, a, b, c, e, g, rfl⟩
  · have e3 : ex t_law_way_1 (wE M N f fl w s none none none none none) = .ok (.nxt, wE M N f fl w s a b c e g) := by
      unfold t_law_way_1
      rw [q_ex_for, evI_rng el (rng_ok (by omega)), R.bind_ok]
      exact e2
    refine ⟨decide (0 < w.length), run_ok rfl (by decide) hF ((exs_step e3).trans (exs_ret (env' := wE M N f fl w s a b c e g) (by simp [t_law_way_2, asA, getA, getAs]))) (ho _ _ _ _ _), ?_⟩
    rw [decide_eq_true_eq, List.length_pos_iff]
    exact ⟨fun h => ⟨h, ha⟩, fun h => h.1⟩
  · have e3 : ex t_law_way_1 (wE M N f fl w s none none none none none) = .ok (.ret (.bl false), wE M N f fl w s a b c e g) := by
      unfold t_law_way_1
      rw [q_ex_for, evI_rng el (rng_ok (by omega)), R.bind_ok]
      exact e2
    refine ⟨false, run_ok rfl (by decide) hF (exs_ret e3) (ho _ _ _ _ _), ⟨fun h => by simp at h, fun h => ?_⟩⟩
    have := h.2 i hi
    rw [hn] at this; exact this
theorem run_crosses {fl : Fl} {w : List (Int × Int)} (hf : fl ≠ .deep) (hM : 0 < M) (hN : 0 < N) (hN2 : N ≤ 1000) (hw : w.length < 1000000) :
    ∃ b : Bool, run c__law_crosses [pcV M N f, .lst fl (w.map sq)] = .ok (.bl b, [pcV M N f, .lst fl (w.map sq)]) ∧ (b = true ↔ XP M N f w) := by
  have hF : freeA [pcV M N f, .lst fl (w.map sq)] (asgB (.cons t_law_crosses_1 .nil)) = true := by
    simp [freeA, asgB, asgS, asgT, t_law_crosses_1]
  have ho : outs [some (pcV M N f), some (.lst fl (w.map sq))] [pcV M N f, .lst fl (w.map sq)] 0 = some [pcV M N f, .lst fl (w.map sq)] := by
    cases h : isOwn (PV.lst fl (w.map sq)) <;> simp [outs, h]
  obtain ⟨b, e1, h1⟩ := run_way (f := f) (s := true) hf hM hN hN2 hw
  have ec : ev (.call "_law_way" c__law_way (.cons (.var 0) (.cons (.var 1) (.cons (.lit (.str (Str.ofString "x"))) .nil)))) [some (pcV M N f), some (.lst fl (w.map sq))] = .ok (.bl b, [some (pcV M N f), some (.lst fl (w.map sq))]) := by
    cases h : isOwn (PV.lst fl (w.map sq)) <;> simp [asA, lend, h, sg_x, e1, back]
  have all : (∀ k, k < w.length → wayB M N f true w k = true) ↔ ∀ k, k < w.length → bl M N f (gs w k) = true ∧ (0 < k → gs w k ∈ sidesL (gs w (k - 1))) := by
    refine forall_congr' fun k => imp_congr Iff.rfl ?_
    unfold wayB cell bl
    simp only [Bool.and_eq_true, Bool.or_eq_true, decide_eq_true_eq, adj_sides]
    refine and_congr Iff.rfl ⟨fun h hk => h.resolve_left (by omega), fun h => ?_⟩
    by_cases hk : k = 0
    · exact .inl hk
    · exact .inr (h (by omega))
  cases b with
  | false =>
    refine ⟨false, run_ok rfl (by decide) hF (exs_ret (env' := [some (pcV M N f), some (.lst fl (w.map sq))]) (by simp only [t_law_crosses_1, q_ex_ret_2, q_ev_and]; show ((ev _ [some (pcV M N f), some (.lst fl (w.map sq))]).bind _).bind _ = _; rw [ec]; simp)) ho, ⟨fun h => by simp at h, fun h => ?_⟩⟩
    exact h1.mpr ⟨h.1, all.mpr h.2.2.2⟩
  | true =>
    obtain ⟨h0, h2⟩ := h1.mp rfl
    have hl : 0 < w.length := List.length_pos_iff.mpr h0
    have i1 : idxP (.lst fl (w.map sq)) (.int 0) = some (sq (gs w 0)) := sqs_ix hf (by omega) (by omega)
    have i2 : idxP (.lst fl (w.map sq)) (.int (-1)) = some (sq (gs w (w.length - 1))) := sqs_last hf h0
    refine ⟨decide ((gs w 0).1 = 0) && decide ((gs w (w.length - 1)).1 = M - 1), run_ok rfl (by decide) hF (exs_ret (env' := [some (pcV M N f), some (.lst fl (w.map sq))]) ?_) ho, ?_⟩
    · simp only [t_law_crosses_1, q_ex_ret_2, q_ev_and]
      show ((ev _ [some (pcV M N f), some (.lst fl (w.map sq))]).bind _).bind _ = _
      rw [ec]
      by_cases g1 : (gs w 0).1 = 0
      · simp [asA, getA, getAs, i1, i2, g1]
      · simp [asA, getA, getAs, i1, i2, g1]
    · rw [Bool.and_eq_true, decide_eq_true_eq, decide_eq_true_eq]
      exact ⟨fun h => ⟨h0, h.1, h.2, all.mp h2⟩, fun h => ⟨h.2.1, h.2.2.1⟩⟩
/-! ### _law_put -/
def putF (N : Nat) (w : List (Int × Int)) (b : Bool) (f : Nat → Nat → Bool) : Nat → Nat → Bool := w.foldl (fun f p => upd2 f p.1.toNat (p.2.fmod N).toNat b) f
theorem putF_app (w : List (Int × Int)) (p : Int × Int) (b : Bool) (f : Nat → Nat → Bool) : putF N (w ++ [p]) b f = upd2 (putF N w b f) p.1.toNat (p.2.fmod N).toNat b := by
  unfold putF; rw [List.foldl_append]; rfl
theorem putF_keep (w : List (Int × Int)) (b : Bool) : ∀ (f : Nat → Nat → Bool) (r c : Nat), f r c = b → putF N w b f r c = b := by
  induction w with
  | nil => exact fun f r c h => h
  | cons p w ih =>
    intro f r c h
    refine ih _ r c ?_
    show (if r = p.1.toNat ∧ c = (p.2.fmod N).toNat then b else f r c) = b
    split
    · rfl
    · exact h
theorem putF_mem (b : Bool) {p : Int × Int} : ∀ {w : List (Int × Int)} (f : Nat → Nat → Bool), p ∈ w → putF N w b f p.1.toNat (p.2.fmod N).toNat = b
  | q :: w, f, h => by
    rcases List.mem_cons.mp h with rfl | h
    · refine putF_keep w b _ _ _ ?_
      exact if_pos ⟨rfl, rfl⟩
    · exact putF_mem b (w := w) (upd2 f q.1.toNat (q.2.fmod N).toNat b) h
def rowsV (M N : Nat) (f : Nat → Nat → Bool) : List PV := (List.range M).map fun r => .str (rowT N (f r))
theorem rowT_cut {g : Nat → Bool} {c : Int} {b : Bool} (h0 : 0 ≤ c) (h1 : c < N) : (⟨(cut (rowT N g).cps.toList none (some c)).toArray⟩ : Str) ++ sg b ++ ⟨(cut (rowT N g).cps.toList (some (c + 1)) none).toArray⟩ = rowT N fun k => if k = c.toNat then b else g k := by
  obtain ⟨k, rfl⟩ : ∃ k : Nat, c = (k : Int) := ⟨c.toNat, by omega⟩
  have hk : k < N := by omega
  have e1 : cut (rowT N g).cps.toList none (some (k : Int)) = ((List.range N).map fun c => ch (g c)).take k := by
    unfold cut
    rw [HT.sIx_none, HT.sIx_nat, rowT_list]
    simp only [List.length_map, List.length_range, List.drop_zero, Nat.sub_zero]
    rw [Nat.min_eq_left (by omega)]
  have e2 : cut (rowT N g).cps.toList (some ((k : Int) + 1)) none = ((List.range N).map fun c => ch (g c)).drop (k + 1) := by
    unfold cut
    rw [HT.sIx_none, show (k : Int) + 1 = ((k + 1 : Nat) : Int) by omega, HT.sIx_nat, rowT_list]
    simp only [List.length_map, List.length_range]
    rw [Nat.min_eq_left (by omega)]
    exact List.take_of_length_le (by simp)
  rw [e1, e2]
  show (⟨(_ ++ #[ch b]) ++ _⟩ : Str) = ⟨_⟩
  congr 1
  apply Array.ext'
  simp only [Array.toList_append, List.toList_toArray, Int.toNat_natCast]
  refine List.ext_getElem ?_ fun i h1 h2 => ?_
  · simp; omega
  · have hi : i < N := by simpa using h2
    simp only [List.getElem_map, List.getElem_range]
    by_cases g1 : i < k
    · rw [List.getElem_append_left (by simp; omega), List.getElem_append_left (by simp; omega), List.getElem_take, List.getElem_map, List.getElem_range, if_neg (by omega)]
    · by_cases g2 : i = k
      · subst g2
        rw [List.getElem_append_left (by simp; omega), List.getElem_append_right (by simp; omega)]
        simp
      · rw [List.getElem_append_right (by simp; omega), List.getElem_drop, List.getElem_map, List.getElem_range, if_neg g2]
        congr 2
        simp; omega
theorem run_put {fl : Fl} {w : List (Int × Int)} {b : Bool} (hf : flat fl = true) (hM : 0 < M) (hM2 : M ≤ 1000) (hN : 0 < N) (hN2 : N ≤ 1000) (hw : ∀ p ∈ w, inB M p = true) :
    run c__law_put [pcV M N f, .lst fl (w.map sq), .str (sg b)] = .ok (pcV M N (putF N w b f), [pcV M N f, .lst .frz (w.map sq), .str (sg b)]) := by
  have e1 : ex t_law_put_1 [some (pcV M N f), some (.lst fl (w.map sq)), some (.str (sg b)), none, none, none, none] = .ok (.nxt, [some (pcV M N f), some (.lst fl (w.map sq)), some (.str (sg b)), some (.lst .own (rowsV M N f)), none, none, none]) := by
    have hl : ev (.lc false [4] (.var 4) (.val (.var 0)) .no (.var 4)) [some (pcV M N f), some (.lst fl (w.map sq)), some (.str (sg b)), none, none, none, none] = .ok (.lst .own ((List.range M).map fun r => frz (.str (rowT N (f r)))), [some (pcV M N f), some (.lst fl (w.map sq)), some (.str (sg b)), none, none, none, none]) := by
      refine ev_lcM (emb := fun r => .str (rowT N (f r))) (xs := List.range M) (g := fun r => .str (rowT N (f r))) ?_ (by rfl) (by rfl) (by simpa using small_sz (by omega)) ?_
      · simp [rdS, itemsP, pcV]
      · intro r _
        exact ⟨[some (pcV M N f), some (.lst fl (w.map sq)), some (.str (sg b)), none, some (.str (rowT N (f r))), none, none], rfl, rfl, by simp [rdS]⟩
    unfold t_law_put_1
    rw [q_ex_asg, hl, R.bind_ok]
    rfl
  have n0 : (0 : Int) < N := by omega
  have n1 : ¬ (N : Int) = 0 := by omega
  have n2 : ¬ N = 0 := by omega
  have l0 := rowT_blen (C := N) (f := f 0) (by omega)
  have i0 : idxP (pcV M N f) (.int 0) = some (.str (rowT N (f 0))) := pcV_ix (by omega) (by omega)
  have eg : evI (.val (.var 1)) [some (pcV M N f), some (.lst fl (w.map sq)), some (.str (sg b)), some (.lst .own (rowsV M N f)), none, none, none] = .ok (w.map sq, [some (pcV M N f), some (.lst .frz (w.map sq)), some (.str (sg b)), some (.lst .own (rowsV M N f)), none, none, none]) := by
    cases fl with
    | own => simp [rdS, itemsP]
    | frz => simp [rdS, itemsP]
    | deep => cases hf
    | ro => cases hf
  have ho : ∀ x y z u, outs [some (pcV M N f), some (.lst .frz (w.map sq)), some (.str (sg b)), x, y, z, u] [pcV M N f, .lst fl (w.map sq), .str (sg b)] 0 = some [pcV M N f, .lst .frz (w.map sq), .str (sg b)] := fun x y z u => by
    cases fl with
    | own => simp [outs]
    | frz => simp [outs]
    | deep => cases hf
    | ro => cases hf
  obtain ⟨en, h1, x, y, z, rfl⟩ := loop_list (emb := sq) (b := forB (.tup [4, 5]) t_law_put_2B) (xs := w) (fun i en => ∃ x y z, en = [some (pcV M N f), some (.lst .frz (w.map sq)), some (.str (sg b)), some (.lst .own (rowsV M N (putF N (w.take i) b f))), x, y, z])
    (env := [some (pcV M N f), some (.lst .frz (w.map sq)), some (.str (sg b)), some (.lst .own (rowsV M N f)), none, none, none]) (fun i p en hp ⟨x, y, z, e⟩ => by
      subst e
      have hpm := hw p (List.mem_of_getElem? hp)
      unfold inB at hpm
      rw [Bool.and_eq_true, decide_eq_true_eq, decide_eq_true_eq] at hpm
      have a1 := Int.fmod_nonneg_of_pos p.2 n0
      have a2 := Int.fmod_lt_of_pos p.2 n0
      have ht : w.take (i + 1) = w.take i ++ [p] := by rw [List.take_succ, hp]; rfl
      have pf := putF_app (N := N) (w.take i) p b f
      rw [← ht] at pf
      generalize putF N (w.take i) b f = h at *
      generalize putF N (w.take (i + 1)) b f = h2 at *
      subst pf
      have i3 : idxP (.lst .own (rowsV M N h)) (.int p.1) = some (.str (rowT N (h p.1.toNat))) := by
        rw [v_ixO]
        unfold rowsV
        rw [atI_mapR hpm.1 hpm.2]
        rfl
      have i4 : ixN (rowsV M N h).length p.1 = some p.1.toNat := ixN_in hpm.1 (by unfold rowsV; simp; omega)
      have s1 : ∀ lo hi, slcP (.str (rowT N (h p.1.toNat))) lo hi = some (.str ⟨(cut (rowT N (h p.1.toNat)).cps.toList lo hi).toArray⟩) := fun lo hi => by
        show (if sLen (rowT N (h p.1.toNat)).length then some (PV.str ⟨(cut (rowT N (h p.1.toNat)).cps.toList lo hi).toArray⟩) else none) = _
        rw [rowT_len, sLen_of (show N ≤ 100000 by omega)]
        rfl
      have hcl : ∀ lo hi, (cut (rowT N (h p.1.toNat)).cps.toList lo hi).length ≤ N := fun lo hi => by
        have := cut_le (rowT N (h p.1.toNat)).cps.toList lo hi
        rw [rowT_list] at this
        simpa using this
      have hca := rowT_cut (g := h p.1.toNat) (b := b) a1 a2
      generalize hv : p.2.fmod N = v at *
      generalize ha : cut (rowT N (h p.1.toNat)).cps.toList none (some v) = ca at *
      generalize hb : cut (rowT N (h p.1.toNat)).cps.toList (some (v + 1)) none = cb at *
      have l1 : ca.length ≤ N := ha ▸ hcl _ _
      have l2 : cb.length ≤ N := hb ▸ hcl _ _
      have z1 : sLen (ca.length + (sg b).length) = true := sLen_of (by simp [sg, Str.length]; omega)
      have z2 : sLen ((⟨ca.toArray⟩ ++ sg b : Str).length + cb.length) = true := sLen_of (by
        show ((ca.toArray ++ #[ch b]).size + cb.length) ≤ _
        simp; omega)
      have st : (rowsV M N h).set p.1.toNat (.str (rowT N fun k => if k = v.toNat then b else h p.1.toNat k)) = rowsV M N (upd2 h p.1.toNat v.toNat b) := by
        unfold rowsV
        rw [set_range]
        refine List.map_congr_left fun r hr => ?_
        unfold upd2
        by_cases e : r = p.1.toNat
        · subst e; simp
        · simp [e]
      have e2 : ex t_law_put_2_1 [some (pcV M N f), some (.lst .frz (w.map sq)), some (.str (sg b)), some (.lst .own (rowsV M N h)), some (.int p.1), some (.int p.2), z] = .ok (.nxt, [some (pcV M N f), some (.lst .frz (w.map sq)), some (.str (sg b)), some (.lst .own (rowsV M N h)), some (.int p.1), some (.int p.2), some (.int v)]) := by
        simp [-v_lenS, t_law_put_2_1, asA, getA, getAs, i0, l0, n1, n2, hv, setT]
      have e3 : ex t_law_put_2_2 [some (pcV M N f), some (.lst .frz (w.map sq)), some (.str (sg b)), some (.lst .own (rowsV M N h)), some (.int p.1), some (.int p.2), some (.int v)] = .ok (.nxt, [some (pcV M N f), some (.lst .frz (w.map sq)), some (.str (sg b)), some (.lst .own (rowsV M N (upd2 h p.1.toNat v.toNat b))), some (.int p.1), some (.int p.2), some (.int v)]) := by
        have lz1 : (⟨ca.toArray⟩ : Str).length = ca.length := by simp [Str.length]
        have lz2 : (⟨cb.toArray⟩ : Str).length = cb.length := by simp [Str.length]
        simp only [t_law_put_2_2, q_ex_sti, q_ev_bin, q_ev_slc, q_ev_idx, asA, slot3, slot4, slot6, slot2, R.bind_ok, q_ev_var, rdS, getA, isOwn_int, Bool.false_eq_true, if_false, i3, R.of_some, q_evO_no, q_evO_yes, int?, s1, ha, q_ev_lit, v_add, hb, v_addS, lz1, lz2, z1, z2, if_true, hca, stiP, setIx, i4, frz_str, st]
        rfl
      refine ⟨_, ?_, some (.int p.1), some (.int p.2), some (.int v), rfl⟩
      unfold forB
      rw [sq_set]
      show exs t_law_put_2B [some (pcV M N f), some (.lst .frz (w.map sq)), some (.str (sg b)), some (.lst .own (rowsV M N h)), some (.int p.1), some (.int p.2), z] = _
      unfold t_law_put_2B
      rw [exs_step e2, exs_step e3, q_exs_nil]) ⟨none, none, none, rfl⟩
  rw [List.take_length] at h1
  have e2 : ex t_law_put_2 [some (pcV M N f), some (.lst fl (w.map sq)), some (.str (sg b)), some (.lst .own (rowsV M N f)), none, none, none] = .ok (.nxt, [some (pcV M N f), some (.lst .frz (w.map sq)), some (.str (sg b)), some (.lst .own (rowsV M N (putF N w b f))), x, y, z]) := by
    unfold t_law_put_2
    rw [q_ex_for, eg, R.bind_ok]
    exact h1
  have e3 : ex t_law_put_3 [some (pcV M N f), some (.lst .frz (w.map sq)), some (.str (sg b)), some (.lst .own (rowsV M N (putF N w b f))), x, y, z] = .ok (.ret (pcV M N (putF N w b f)), [some (pcV M N f), some (.lst .frz (w.map sq)), some (.str (sg b)), some (.lst .own (rowsV M N (putF N w b f))), x, y, z]) := by
    have hf : flat .own = true := rfl
    simp [t_law_put_3, asA, getAs, getA, bltP, hf, pcV, rowsV]
  refine run_ok rfl (by decide) ?_ ((exs_step e1).trans ((exs_step e2).trans (exs_ret e3))) (ho _ _ _ _)
  simp [freeA, asgB, asgS, asgT, t_law_put_1, t_law_put_2, t_law_put_2B, t_law_put_2_1, t_law_put_2_2, t_law_put_3]
/-! ### _law_trail -/
structure TR (M : Nat) (w : List (Int × Int)) (h : Int × Int) : Prop where
  ne : w ≠ []
  st : (gs w 0).1 = 0
  la : gs w (w.length - 1) = h
  inb : ∀ p ∈ w, inB M p = true
  ad : ∀ k, k < w.length → 0 < k → gs w k ∈ sidesL (gs w (k - 1))
theorem gs_app1 {w : List (Int × Int)} {p : Int × Int} {k : Nat} (h : k < w.length) : gs (w ++ [p]) k = gs w k := gs_of (by rw [List.getElem?_append_left h]; exact gs_get h)
theorem gs_app2 {w : List (Int × Int)} {p : Int × Int} : gs (w ++ [p]) w.length = p := gs_of (by rw [List.getElem?_append_right (Nat.le_refl _)]; simp)
theorem TR.app {w : List (Int × Int)} {h p : Int × Int} (T : TR M w h) (hp : inB M p = true) (ha : p ∈ sidesL h) : TR M (w ++ [p]) p := by
  have hl : 0 < w.length := List.length_pos_iff.mpr T.ne
  refine ⟨by simp, by rw [gs_app1 hl]; exact T.st, ?_, fun q hq => ?_, fun k hk h0 => ?_⟩
  · rw [show (w ++ [p]).length - 1 = w.length by simp]; exact gs_app2
  · rcases List.mem_append.mp hq with hq | hq
    · exact T.inb q hq
    · rw [List.mem_singleton.mp hq]; exact hp
  · by_cases e : k = w.length
    · subst e
      rw [gs_app2, gs_app1 (by omega), T.la]; exact ha
    · have : k < w.length := by simp at hk; omega
      rw [gs_app1 this, gs_app1 (by omega)]
      exact T.ad k this h0
theorem TR.xp {w : List (Int × Int)} {h : Int × Int} (T : TR M w h) (hh : h.1 = M - 1) (hl : ∀ p ∈ w, f p.1.toNat (p.2.fmod N).toNat = true) : XP M N f w := by
  refine ⟨T.ne, T.st, by rw [T.la]; exact hh, fun k hk => ⟨?_, fun h0 => T.ad k hk h0⟩⟩
  unfold bl
  rw [T.inb _ (gs_mem hk), hl _ (gs_mem hk)]; rfl
abbrev tE (d : Deal) (M N : Nat) (h : Int × Int) (w : List (Int × Int)) (a b c e : Option PV) : EL.Env := [some d.pv, some (.int M), some (.int N), some (sq h), some (.lst .own (w.map sq)), a, b, c, e]
theorem trail3 {d : Deal} {h : Int × Int} {w : List (Int × Int)} {x5 x6 x7 x8 : Option PV} {x : PV} (T : TR M w h) (ha : d.at_ < 900000) (hl : w.length ≤ 1000) : ∃ h' w' y6 y7, forB (.var 5) t_law_trail_3B x (tE d M N h w x5 x6 x7 x8) = .ok (.nxt, tE d.nx M N h' w' (some x) y6 y7 x8) ∧ TR M w' h' ∧ w'.length ≤ w.length + 1 := by
  have a1 := d.tk_nn (m := 4) (by decide)
  have a2 := d.tk_lt (m := 4) (by decide)
  obtain ⟨q, hq1, hq2, e1⟩ : ∃ q : Int × Int, (∃ v ∈ [((-1 : Int), (0 : Int)), (0, -1), (0, 1), (1, 0)], q = v) ∧ (h.1 + q.1, h.2 + q.2) ∈ sidesL h ∧ ex t_law_trail_3_1 (tE d M N h w (some x) x6 x7 x8) = .ok (.nxt, tE d.nx M N h w (some x) (some (.int q.1)) (some (.int q.2)) x8) := by
    have ht := take0 (d := d) (r := [some (.int M), some (.int N), some (sq h), some (.lst .own (w.map sq)), some x, x6, x7, x8]) (m := 4) (by omega) (by decide)
    generalize d.tk 4 = u at *
    have a3 : ∀ (x y z w : PV) (xs : List PV), atI (x :: y :: z :: w :: xs) 3 = some w := fun x y z w xs => atI_nat (j := 3) rfl
    have hu : u = 0 ∨ u = 1 ∨ u = 2 ∨ u = 3 := by omega
    rcases hu with rfl | rfl | rfl | rfl
    · exact ⟨(-1, 0), ⟨_, by simp, rfl⟩, by simp [sidesL]; omega, by simp [-q_ev_call, t_law_trail_3_1, asA, getA, ht, sLen, a3, sq_mk]⟩
    · exact ⟨(0, -1), ⟨_, by simp, rfl⟩, by simp [sidesL]; omega, by simp [-q_ev_call, t_law_trail_3_1, asA, getA, ht, sLen, a3, sq_mk]⟩
    · exact ⟨(0, 1), ⟨_, by simp, rfl⟩, by simp [sidesL], by simp [-q_ev_call, t_law_trail_3_1, asA, getA, ht, sLen, a3, sq_mk]⟩
    · exact ⟨(1, 0), ⟨_, by simp, rfl⟩, by simp [sidesL], by simp [-q_ev_call, t_law_trail_3_1, asA, getA, ht, sLen, a3, sq_mk]⟩
  have h0 : forB (.var 5) t_law_trail_3B x (tE d M N h w x5 x6 x7 x8) = exs t_law_trail_3B (tE d M N h w (some x) x6 x7 x8) := by
    simp [forB, setT]
  rw [h0]
  unfold t_law_trail_3B
  by_cases hi : inB M (h.1 + q.1, h.2 + q.2) = true
  · refine ⟨(h.1 + q.1, h.2 + q.2), w ++ [(h.1 + q.1, h.2 + q.2)], some (.int q.1), some (.int q.2), ?_, T.app hi hq2, by simp⟩
    have hi' := hi
    unfold inB at hi'
    rw [Bool.and_eq_true, decide_eq_true_eq, decide_eq_true_eq] at hi'
    have hz : w.length < sizeLine := small_sz (by omega)
    rw [exs_step e1, exs_step (env' := tE d.nx M N (h.1 + q.1, h.2 + q.2) (w ++ [(h.1 + q.1, h.2 + q.2)]) (some x) (some (.int q.1)) (some (.int q.2)) x8) (by
      simp [t_law_trail_3_2, asA, getA, rdS, hi'.1, hi'.2, sq_mk, setT, ownL, hz]), q_exs_nil]
  · refine ⟨h, w, some (.int q.1), some (.int q.2), ?_, T, by simp⟩
    have hi' : ¬ (0 ≤ h.1 + q.1 ∧ h.1 + q.1 < M) := fun x => hi (by unfold inB; rw [Bool.and_eq_true, decide_eq_true_eq, decide_eq_true_eq]; exact x)
    rw [exs_step e1, exs_step (env' := tE d.nx M N h w (some x) (some (.int q.1)) (some (.int q.2)) x8) (by
      by_cases g1 : 0 ≤ h.1 + q.1
      · have g2 : ¬ h.1 + q.1 < M := fun g => hi' ⟨g1, g⟩
        simp [t_law_trail_3_2, asA, getA, rdS, g1, g2]
      · simp [t_law_trail_3_2, asA, getA, rdS, g1]), q_exs_nil]
theorem run_trail {d : Deal} (hM : 0 < M) (hM2 : M ≤ 100) (hN : 0 < N) (ha : d.at_ < 800000) : ∃ (d' : Deal) (w : List (Int × Int)) (h : Int × Int), run c__law_trail [d.pv, .int M, .int N] = .ok (.lst .own (w.map sq), [d'.pv, .int M, .int N]) ∧ TR M w h ∧ h.1 = M - 1 ∧ w.length ≤ M + 14 ∧ d'.at_ ≤ d.at_ + 20 := by
  have n0 : (0 : Int) < 3 * N := by omega
  have e1 : ex t_law_trail_1 [some d.pv, some (.int M), some (.int N), none, none, none, none, none, none] = .ok (.nxt, [some d.nx.pv, some (.int M), some (.int N), some (sq (0, d.tk (3 * N) - N)), none, none, none, none, none]) := by
    have ht := ev_takeX (env := [some d.pv, some (.int M), some (.int N), none, none, none, none, none, none]) (i := 0) (d := d) (m := 3 * N) (e := .bin .mul (.lit (.int 3)) (.var 2)) (by simp [asA, getA, mul_l (show small 3 = true from rfl)]) rfl (by omega) n0
    simp [-q_ev_call, t_law_trail_1, asA, getA, ht, sLen, sq_mk, setT]
  have e2 : ex t_law_trail_2 [some d.nx.pv, some (.int M), some (.int N), some (sq (0, d.tk (3 * N) - N)), none, none, none, none, none] = .ok (.nxt, tE d.nx M N (0, d.tk (3 * N) - N) [(0, d.tk (3 * N) - N)] none none none none) := by
    simp [t_law_trail_2, rdS, setT, sLen]
  generalize d.tk (3 * N) - N = c0 at *
  have T0 : TR M [((0 : Int), c0)] (0, c0) := ⟨by simp, rfl, rfl, fun p hp => by rw [List.mem_singleton.mp hp]; simp [inB]; omega, fun k hk h0 => by simp at hk; omega⟩
  have b1 := d.nx.tk_nn (m := 13) (by decide)
  have b2 := d.nx.tk_lt (m := 13) (by decide)
  obtain ⟨t, ht⟩ : ∃ t : Nat, d.nx.tk 13 = (t : Int) := ⟨(d.nx.tk 13).toNat, by omega⟩
  obtain ⟨en, h1, d3, h3, w3, x5, x6, x7, rfl, T3, l3, a3⟩ := loop_rng (b := forB (.var 5) t_law_trail_3B) (n := t) (fun i en => ∃ d3 h3 w3 x5 x6 x7, en = tE d3 M N h3 w3 x5 x6 x7 none ∧ TR M w3 h3 ∧ w3.length ≤ 1 + i ∧ d3.at_ ≤ d.at_ + 2 + i)
    (env := tE d.nx.nx M N (0, c0) [(0, c0)] none none none none) (fun i en hi ⟨d3, h3, w3, x5, x6, x7, e, T3, l3, a3⟩ => by
      subst e
      obtain ⟨h', w', y6, y7, g1, g2, g3⟩ := trail3 (N := N) (x5 := x5) (x6 := x6) (x7 := x7) (x8 := none) (x := .int (i : Nat)) T3 (show d3.at_ < 900000 by omega) (by omega)
      exact ⟨_, g1, d3.nx, h', w', _, _, _, rfl, g2, by omega, by simp; omega⟩) ⟨_, _, _, _, _, _, rfl, T0, by simp, by simp⟩
  have e3 : ex t_law_trail_3 (tE d.nx M N (0, c0) [(0, c0)] none none none none) = .ok (.nxt, tE d3 M N h3 w3 x5 x6 x7 none) := by
    have e0 : ev (.call "_law_take" c__law_take (.cons (.var 0) (.cons (.lit (.int 13)) .nil))) (tE d.nx M N (0, c0) [(0, c0)] none none none none) = .ok (.int (t : Int), tE d.nx.nx M N (0, c0) [(0, c0)] none none none none) := by
      rw [take0 (by simp; omega) (by decide), ht]
    unfold t_law_trail_3
    rw [q_ex_for, evI_rng e0 (rng_ok (by omega)), R.bind_ok]
    exact h1
  have hin : inB M h3 = true := by
    have hl : 0 < w3.length := List.length_pos_iff.mpr T3.ne
    rw [← T3.la]; exact T3.inb _ (gs_mem (by omega))
  unfold inB at hin
  rw [Bool.and_eq_true, decide_eq_true_eq, decide_eq_true_eq] at hin
  obtain ⟨en, h4, w4, x8, rfl, T4, l4⟩ := loopF_inv (b := forB (.var 8) t_law_trail_4B) (fun i en => ∃ w4 x8, en = tE d3 M N h3 w4 x5 x6 x7 x8 ∧ TR M w4 (h3.1 + i, h3.2) ∧ w4.length ≤ 14 + i) (xs := rngP (h3.1 + 1) M) (k := 0)
    (env := tE d3 M N h3 w3 x5 x6 x7 none) (fun i x en hx ⟨w4, x8, e, T4, l4⟩ => by
      obtain ⟨hi, rfl⟩ := rngP2_get hx
      subst e
      rw [Nat.zero_add] at T4 l4 ⊢
      have hz : w4.length < sizeLine := small_sz (by omega)
      refine ⟨_, ?_, w4 ++ [(h3.1 + (i + 1 : Nat), h3.2)], some (.int (h3.1 + (i + 1 : Nat))), rfl, T4.app (by unfold inB; rw [Bool.and_eq_true, decide_eq_true_eq, decide_eq_true_eq]; constructor <;> simp <;> omega) ?_, by simp; omega⟩
      · have e9 : h3.1 + 1 + (i : Int) = h3.1 + ((i + 1 : Nat) : Int) := by omega
        rw [e9]
        simp [forB, setT, t_law_trail_4B, t_law_trail_4_1, ownL, mvS, asA, getA, sq_mk, hz, sLen]
      · simp [sidesL]; omega) ⟨w3, none, rfl, by simpa using T3, by omega⟩
  rw [rngP2_len, Nat.zero_add] at T4 l4
  have e4 : ex t_law_trail_4 (tE d3 M N h3 w3 x5 x6 x7 none) = .ok (.nxt, tE d3 M N h3 w4 x5 x6 x7 x8) := by
    unfold t_law_trail_4
    rw [q_ex_for, evI_rng2 (i := h3.1 + 1) (j := M) (env' := tE d3 M N h3 w3 x5 x6 x7 none) (env2 := tE d3 M N h3 w3 x5 x6 x7 none) (by simp [asA, getA]) (by simp [rdS]) (by unfold rngOk; exact decide_eq_true (by omega)) (rng_ok (by omega)), R.bind_ok]
    exact h4
  refine ⟨d3, w4, _, ?_, T4, by simp; omega, by omega, by omega⟩
  refine run_ok (en := [some d3.pv, some (.int M), some (.int N), some (sq h3), none, x5, x6, x7, x8]) rfl (by decide) ?_ ((exs_step e1).trans ((exs_step e2).trans ((exs_step e3).trans ((exs_step e4).trans (exs_ret (by simp [t_law_trail_5, mvS])))))) (by simp [outs])
  simp [freeA, asgB, asgS, asgT, t_law_trail_1, t_law_trail_2, t_law_trail_3, t_law_trail_3B, t_law_trail_3_1, t_law_trail_3_2, t_law_trail_4, t_law_trail_4B, t_law_trail_4_1, t_law_trail_5]
end
end EB

set_option maxRecDepth 100000
set_option maxHeartbeats 4000000
/-! MathEV: lists of squares as they are bent -/
namespace EV
open PySem PySem.Spec L2 EL EB
@[simp] theorem v_neB (i j : Bool) : cmpP .ne (.bl i) (.bl j) = some (!decide (i = j)) := by simp [cmpP, eqP_bl]
theorem adj_around (p q : Int × Int) : adj false p q = true ↔ p ∈ aroundL q := by
  obtain ⟨a, b⟩ := p
  obtain ⟨c, e⟩ := q
  have h1 := ab_spec (a - c)
  have h2 := ab_spec (b - e)
  have h3 := mx_spec (ab (a - c)) (ab (b - e))
  simp only [adj, aroundL, Bool.and_eq_true, decide_eq_true_eq, Bool.not_false, Bool.true_or, and_true, List.mem_cons, Prod.mk.injEq, List.not_mem_nil, or_false]
  omega
def wl (w : List (Int × Int)) : PV := .lst .frz (w.map sq)
def EvL (e : CE) (en : EL.Env) (n : Nat) : Prop := ∃ w : List (Int × Int), ev e en = .ok (.lst .own (w.map sq), en) ∧ w.length ≤ n
section
variable {en : EL.Env} {w : List (Int × Int)} {a b e : CE} {n m j : Nat} {lo hi : CO} {l h : Option Int} {fl : Fl}
theorem evl_sl (hs : slot en j = some (.lst fl (w.map sq))) (hf : flat fl = true) (hl : evO lo en = .ok (l, en)) (hh : evO hi en = .ok (h, en)) (hw : w.length ≤ n) : EvL (.slc (.var j) lo hi) en n := by
  refine ⟨cut w l h, ?_, Nat.le_trans (cut_le _ _ _) hw⟩
  simp [asA, hs, hl, hh, getA, sqs_slc hf]
theorem evl_slE (na : NV a) (ea : EvL a en n) (hl : evO lo en = .ok (l, en)) (hh : evO hi en = .ok (h, en)) : EvL (.slc a lo hi) en n := by
  obtain ⟨w, e1, hw⟩ := ea
  refine ⟨cut w l h, ?_, Nat.le_trans (cut_le _ _ _) hw⟩
  rw [q_ev_slc, na, e1]
  simp [hl, hh, getA, sqs_slc (f := .own) rfl]
theorem evl_rv (hs : slot en j = some (.lst fl (w.map sq))) (hf : flat fl = true) (hw : w.length ≤ n) : EvL (.rev (.var j)) en n := by
  refine ⟨w.reverse, ?_, by simpa using hw⟩
  have := sqs_rev (f := fl) (w := w) hf
  simp only [q_ev_rev, asA, hs, R.bind_ok, getA, this, R.of_some]
theorem evl_add (na : NV a) (nb : NV b) (ea : EvL a en n) (eb : EvL b en m) (hn : n + m ≤ 100000) : EvL (.bin .add a b) en (n + m) := by
  obtain ⟨w, e1, hw⟩ := ea
  obtain ⟨x, e2, hx⟩ := eb
  exact ⟨w ++ x, ev_bin_ee na nb e1 e2 (sqs_add rfl rfl (by omega)), by rw [List.length_append]; omega⟩
theorem evl_addl (hs : slot en j = some (.lst fl (w.map sq))) (hf : flat fl = true) (hw : w.length ≤ n) (nb : NV b) (eb : EvL b en m) (hn : n + m ≤ 100000) : EvL (.bin .add (.var j) b) en (n + m) := by
  obtain ⟨x, e2, hx⟩ := eb
  exact ⟨w ++ x, ev_bin_ve hs nb e2 hs (sqs_add hf rfl (by omega)), by rw [List.length_append]; omega⟩
theorem evl_1 {p : Int × Int} (h1 : ev a en = .ok (sq p, en)) : EvL (.lst false (.cons a .nil)) en 1 := by
  refine ⟨[p], ?_, by simp⟩
  rw [q_ev_lst, q_evs_cons, h1]
  simp [sLen]
theorem evl_vv {x : List (Int × Int)} {i : Nat} {fx : Fl} (hs : slot en j = some (.lst fl (w.map sq))) (hf : flat fl = true) (hw : w.length ≤ n) (hs2 : slot en i = some (.lst fx (x.map sq))) (hf2 : flat fx = true) (hx : x.length ≤ m) (hn : n + m ≤ 100000) : EvL (.bin .add (.var j) (.var i)) en (n + m) := by
  refine ⟨w ++ x, ?_, by rw [List.length_append]; omega⟩
  have := sqs_add (w := w) (x := x) hf hf2 (by omega)
  simp only [q_ev_bin, asA, hs, hs2, R.bind_ok, getA, this, R.of_some]
end
theorem nv_slc {a lo hi} : NV (.slc a lo hi) := fun _ _ => rfl
theorem nv_rev {a} : NV (.rev a) := fun _ _ => rfl
theorem nv_bin {o a b} : NV (.bin o a b) := fun _ _ => rfl
theorem nv_lst {o a} : NV (.lst o a) := fun _ _ => rfl
theorem prsP_sq : ∀ w : List (Int × Int), prsP (w.map sq) = some w
  | [] => rfl
  | p :: w => by
    rw [List.map_cons, prsP, prsP_sq w]
    rfl
def Bn (ws : List (List (Int × Int))) (n : Nat) : Prop := (∀ w ∈ ws, w.length ≤ 200) ∧ ws.length ≤ n
theorem adj_near {l : Bool} {p q : Int × Int} : adj l p q = true ↔ p ∈ (if l then sidesL q else aroundL q) := by
  cases l with
  | true => exact adj_sides p q
  | false => exact adj_around p q
end EV

set_option maxRecDepth 100000
/-! ELS: short words for walks -/
namespace EL
open PySem PySem.Spec L2 EV
@[simp] theorem sq_isN (p) : cmpP .is (sq p) .non = some false := rfl
@[simp] theorem sq_isnN (p) : cmpP .isNot (sq p) .non = some true := rfl
@[simp] theorem non_isN : cmpP .is .non .non = some true := rfl
@[simp] theorem non_isnN : cmpP .isNot .non .non = some false := rfl
theorem nv_call {f c es} : NV (.call f c es) := fun _ _ => rfl
theorem nv_lc {a b c d e g} : NV (.lc a b c d e g) := fun _ _ => rfl
theorem nv_tup {a} : NV (.tup a) := fun _ _ => rfl
theorem nv_blt {a b} : NV (.blt a b) := fun _ _ => rfl
theorem nv_idx {a b} : NV (.idx a b) := fun _ _ => rfl
theorem nv_ite {a b c} : NV (.ite a b c) := fun _ _ => rfl
theorem nv_lit {a} : NV (.lit a) := fun _ _ => rfl
theorem nv_mth {a b c} : NV (.mth a b c) := fun _ _ => rfl
theorem ex_app_own {i : Nat} {e : CE} {en en' : EL.Env} {v : PV} {xs : List PV} (ho : ownL (slot en i) = true) (h : ev e en = .ok (v, en')) (hs : slot en' i = some (.lst .own xs)) (hl : xs.length ≤ 100000) :
    ex (.app i e) en = .ok (.nxt, en'.set i (some (.lst .own (xs ++ [frz v])))) := by
  rw [q_ex_app, if_pos ho, h, R.bind_ok]
  simp only [hs]
  rw [decide_eq_true (small_sz hl)]
  rfl
theorem ex_sti_own {i : Nat} {k e : CE} {en : EL.Env} {xs : List PV} {v : PV} {j : Int} {m : Nat} (hs : slot en i = some (.lst .own xs)) (he : ev e en = .ok (v, en)) (hk : ev k en = .ok (.int j, en)) (hj : ixN xs.length j = some m) :
    ex (.sti i k e) en = .ok (.nxt, en.set i (some (.lst .own (xs.set m (frz v))))) := by
  rw [q_ex_sti, he, R.bind_ok]
  simp only [hs, hk, R.bind_ok]
  unfold stiP setIx
  simp only [hj]
  rfl
theorem ev_bin_vv {op : Bin} {i j : Nat} {en : EL.Env} {x y z : PV} (hs : slot en i = some x) (hs2 : slot en j = some y) (hb : binP op x y = some z) : ev (.bin op (.var i) (.var j)) en = .ok (z, en) := by
  simp only [q_ev_bin, asA, hs, hs2, R.bind_ok, getA, hb, R.of_some]
theorem ev_bin_lv {op : Bin} {a : PV} {j : Nat} {en : EL.Env} {y z : PV} (hs2 : slot en j = some y) (hb : binP op a y = some z) : ev (.bin op (.lit a) (.var j)) en = .ok (z, en) := by
  simp only [q_ev_bin, q_ev_lit, asA, hs2, R.bind_ok, getA, hb, R.of_some]
theorem ev_join {a : Str} {E : CE} {en en' : EL.Env} {x y : PV} (na : NV E) (h : ev E en = .ok (x, en')) (hb : mthP .join (.str a) [x] = some y) : ev (.mth .join (.lit (.str a)) (.cons E .nil)) en = .ok (y, en') := by
  rw [q_ev_mth, show asA (.lit (.str a)) (ev (.lit (.str a)) en) en = .ok (.val (.str a), en) from rfl, R.bind_ok]
  simp only
  rw [q_evAs_cons, na, h]
  simp [getAs, getA, hb]
theorem ex_for {t : CT} {it : CI} {b : CSs} {en en' : EL.Env} {xs : List PV} {r : R (Flow × EL.Env)} (hi : evI it en = .ok (xs, en')) (h : loopF (forB t b) xs en' = r) : ex (.for_ t it b) en = r := by
  rw [q_ex_for, hi, R.bind_ok]; exact h
theorem evI_rv {i : Nat} {n : Int} {en : EL.Env} (hs : slot en i = some (.int n)) (hr : rngOk n = true) : evI (.rng1 (.var i)) en = .ok (rngP 0 n, en) := by
  rw [q_evI_rng1, q_ev_var, rdS, hs]
  simp [hr]
theorem evI_val {e : CE} {en en' : EL.Env} {v : PV} {xs : List PV} (h : ev e en = .ok (v, en')) (hi : itemsP v = some xs) : evI (.val e) en = .ok (xs, en') := by
  rw [q_evI_val, h, R.bind_ok, hi]; rfl
theorem items_map {α : Type} {g : α → PV} {f : Fl} {xs : List α} (h : ∀ x ∈ xs, frz (g x) = g x) : itemsP (.lst f (xs.map g)) = some (xs.map g) := by
  show some ((xs.map g).map frz) = _
  rw [List.map_map]
  exact congrArg some (List.map_congr_left h)
@[simp] theorem wl_ow (w) : isOwn (wl w) = false := rfl
@[simp] theorem wl_fz (w) : frz (wl w) = wl w := rfl
theorem wls_ix {f : Fl} {ws : List (List (Int × Int))} {i : Int} (hf : f ≠ .deep) (h0 : 0 ≤ i) (h1 : i < ws.length) : idxP (.lst f (ws.map wl)) (.int i) = some (wl (ws.getD i.toNat [])) := by
  have hg : ws[i.toNat]? = some (ws.getD i.toNat []) := by
    rw [List.getD_eq_getElem?_getD, List.getElem?_eq_getElem (by omega)]; rfl
  have : atI (ws.map wl) i = some (wl (ws.getD i.toNat [])) := by
    rw [atI_mp, atI_in h0 h1, Option.map_some]
    rw [List.getElem?_eq_getElem (by omega)] at hg
    rw [Option.some.inj hg]
  cases f with
  | own => rw [v_ixO, this]; rfl
  | frz => rw [v_ixF, this]; rfl
  | ro => rw [v_ixR, this]; rfl
  | deep => exact absurd rfl hf
/-- the list's flag behind a reading of its name as a value -/
def fz1 : Fl → Fl
  | .own => .frz
  | .deep => .frz
  | f => f
theorem frz_lst (f : Fl) (xs : List PV) : frz (.lst f xs) = .lst (fz1 f) xs := by cases f <;> rfl
theorem take_ok {d : Deal} {m : Int} (ha : d.at_ < 1000000) (hm : 0 < m) : run c__law_take [d.pv, .int m] = .ok (.int (d.tk m), [d.nx.pv, .int m]) := run_take d ha hm
theorem evAs_ref {i : Nat} {r : CEs} {en en2 : EL.Env} {v : PV} {as : List Arg} (hs : slot en i = some v) (h : evAs r en = .ok (as, en2)) : evAs (.cons (.var i) r) en = .ok (.ref i :: as, en2) := by
  rw [q_evAs_cons, show asA (.var i) (ev (.var i) en) en = .ok (.ref i, en) by simp [asA, hs], R.bind_ok]
  simp only [h, R.bind_ok]
theorem evAs_val {e : CE} {r : CEs} {en en1 en2 : EL.Env} {v : PV} {as : List Arg} (na : NV e) (he : ev e en = .ok (v, en1)) (h : evAs r en1 = .ok (as, en2)) : evAs (.cons e r) en = .ok (.val v :: as, en2) := by
  rw [q_evAs_cons, na, he]
  simp only [h, R.bind_ok]
theorem evAs_nil {en : EL.Env} : evAs .nil en = .ok ([], en) := q_evAs_nil
theorem ev_callG {g : String} {cf : CF} {es : CEs} {en en2 e en3 : EL.Env} {as : List Arg} {vs os : List PV} {r : PV} (ha : evAs es en = .ok (as, en2)) (hl : lend en2 as = some (vs, e)) (hr : run cf vs = .ok (r, os)) (hb : back e as vs os = en3) : ev (.call g cf es) en = .ok (r, en3) := by
  rw [q_ev_call, ha, R.bind_ok]
  simp only [hl, hr, R.bind_ok, hb]
end EL

set_option maxRecDepth 100000
namespace EX
open PySem EL
def t_common_form_1_1 : CS := (.asg (.var 2) (.bin .fdiv (.idx (.var 0) (.lit (.int 0))) (.idx (.var 1) (.lit (.int 0)))))
def t_common_form_1_2 : CS := (.par 0 1 (.var 1) (.tup (.cons (.bin .sub (.idx (.var 0) (.lit (.int 0))) (.bin .mul (.var 2) (.idx (.var 1) (.lit (.int 0))))) (.cons (.bin .sub (.idx (.var 0) (.lit (.int 1))) (.bin .mul (.var 2) (.idx (.var 1) (.lit (.int 1))))) .nil))))
def t_common_form_1B : CSs := (.cons t_common_form_1_1 (.cons t_common_form_1_2 .nil))
def t_common_form_1 : CS := (.whl (.cmp .ne (.idx (.var 1) (.lit (.int 0))) (.lit (.int 0))) t_common_form_1B)
def t_common_form_2 : CS := (.ite (.cmp .lt (.idx (.var 0) (.lit (.int 0))) (.lit (.int 0))) (.cons (.asg (.var 0) (.tup (.cons (.neg (.idx (.var 0) (.lit (.int 0)))) (.cons (.neg (.idx (.var 0) (.lit (.int 1)))) .nil)))) .nil) .nil)
def t_common_form_3 : CS := (.ret (.yes (.tup (.cons (.idx (.var 0) (.lit (.int 0))) (.cons (.idx (.var 0) (.lit (.int 1))) (.cons (.blt .abs (.cons (.idx (.var 1) (.lit (.int 1))) .nil)) .nil))))))
def c_common_form : CF := .mk 2 ["v", "w", "times"] (.cons t_common_form_1 (.cons t_common_form_2 (.cons t_common_form_3 .nil)))
def t_spanned_1 : CS := (.asg (.tup [2, 3, 4]) (.call "common_form" c_common_form (.cons (.var 0) (.cons (.var 1) .nil))))
def t_spanned_2 : CS := (.ret (.yes (.tup (.cons (.mv 2) (.cons (.bin .mod (.var 3) (.var 4)) (.cons (.var 4) .nil))))))
def c_spanned : CF := .mk 2 ["v", "w", "a", "b", "d"] (.cons t_spanned_1 (.cons t_spanned_2 .nil))
def t_is_lattice_1 : CS := (.asg (.tup [1, 2, 3]) (.var 0))
def t_is_lattice_2 : CS := (.ret (.yes (.and (.cmp .ge (.var 1) (.lit (.int 1))) (.and (.cmp .ge (.var 3) (.lit (.int 1))) (.chn .le .lt (.lit (.int 0)) (.var 2) (.var 3))))))
def c_is_lattice : CF := .mk 1 ["lattice", "a", "b", "d"] (.cons t_is_lattice_1 (.cons t_is_lattice_2 .nil))
def t_index_of_1 : CS := (.ret (.yes (.bin .mul (.idx (.var 0) (.lit (.int 0))) (.idx (.var 0) (.lit (.int 2))))))
def c_index_of : CF := .mk 1 ["lattice"] (.cons t_index_of_1 .nil)
def t_has_vector_1 : CS := (.asg (.tup [2, 3, 4]) (.var 0))
def t_has_vector_2 : CS := (.ret (.yes (.and (.cmp .eq (.bin .mod (.idx (.var 1) (.lit (.int 0))) (.var 2)) (.lit (.int 0))) (.cmp .eq (.bin .mod (.bin .sub (.idx (.var 1) (.lit (.int 1))) (.bin .mul (.bin .fdiv (.idx (.var 1) (.lit (.int 0))) (.var 2)) (.var 3))) (.var 4)) (.lit (.int 0))))))
def c_has_vector : CF := .mk 2 ["lattice", "vector", "a", "b", "d"] (.cons t_has_vector_1 (.cons t_has_vector_2 .nil))
def t_basis_of_1 : CS := (.asg (.tup [1, 2, 3]) (.var 0))
def t_basis_of_2 : CS := (.ret (.yes (.lst false (.cons (.tup (.cons (.mv 1) (.cons (.mv 2) .nil))) (.cons (.tup (.cons (.lit (.int 0)) (.cons (.mv 3) .nil))) .nil)))))
def c_basis_of : CF := .mk 1 ["lattice", "a", "b", "d"] (.cons t_basis_of_1 (.cons t_basis_of_2 .nil))
def t_is_within_1 : CS := (.ret (.yes (.blt .all (.cons (.lc false [2] (.var 2) (.val (.call "basis_of" c_basis_of (.cons (.var 0) .nil))) .no (.call "has_vector" c_has_vector (.cons (.var 1) (.cons (.var 2) .nil)))) .nil))))
def c_is_within : CF := .mk 2 ["lattice", "other", "vector"] (.cons t_is_within_1 .nil)
def t_lattice_of_1 : CS := (.asg (.tup [1, 2]) (.var 0))
def t_lattice_of_2 : CS := (.ret (.yes (.tup (.cons (.blt .len (.cons (.var 1) .nil)) (.cons (.mv 2) (.cons (.blt .len (.cons (.idx (.var 1) (.lit (.int 0))) .nil)) .nil))))))
def c_lattice_of : CF := .mk 1 ["floor", "piece", "shift"] (.cons t_lattice_of_1 (.cons t_lattice_of_2 .nil))
end EX

set_option maxRecDepth 100000
set_option maxHeartbeats 4000000
namespace EX
open PySem PySem.Spec L2 EL
abbrev Vc := Int × Int
def det (v w : Vc) : Int := v.1 * w.2 - v.2 * w.1
def Cb (v w t : Vc) : Prop := ∃ x y : Int, t.1 = x * v.1 + y * w.1 ∧ t.2 = x * v.2 + y * w.2
theorem Cb.step {v w t : Vc} (k : Int) : Cb w (v.1 - k * w.1, v.2 - k * w.2) t ↔ Cb v w t := by
  constructor
  · rintro ⟨x, y, h1, h2⟩
    exact ⟨y, x - k * y, by simp only at h1; grind, by simp only at h2; grind⟩
  · rintro ⟨x, y, h1, h2⟩
    exact ⟨y + k * x, x, by simp only; grind, by simp only; grind⟩
theorem det_step (v w : Vc) (k : Int) : det w (v.1 - k * w.1, v.2 - k * w.2) = -det v w := by
  unfold det; simp only; grind
theorem Cb.neg1 {v w t : Vc} : Cb (-v.1, -v.2) w t ↔ Cb v w t := by
  constructor
  · rintro ⟨x, y, h1, h2⟩; exact ⟨-x, y, by simp only at h1; grind, by simp only at h2; grind⟩
  · rintro ⟨x, y, h1, h2⟩; exact ⟨-x, y, by simp only; grind, by simp only; grind⟩
theorem Cb.neg2 {v w t : Vc} : Cb v (-w.1, -w.2) t ↔ Cb v w t := by
  constructor
  · rintro ⟨x, y, h1, h2⟩; exact ⟨x, -y, by simp only at h1; grind, by simp only at h2; grind⟩
  · rintro ⟨x, y, h1, h2⟩; exact ⟨x, -y, by simp only; grind, by simp only; grind⟩
theorem Cb.l (v w : Vc) : Cb v w v := ⟨1, 0, by omega, by omega⟩
theorem Cb.r (v w : Vc) : Cb v w w := ⟨0, 1, by omega, by omega⟩
theorem Cb.lin {v w t u : Vc} (h1 : Cb v w t) (h2 : Cb v w u) (i j : Int) : Cb v w (i * t.1 + j * u.1, i * t.2 + j * u.2) := by
  obtain ⟨x, y, a, b⟩ := h1
  obtain ⟨x', y', c, e⟩ := h2
  exact ⟨i * x + j * x', i * y + j * y', by simp only; grind, by simp only; grind⟩
theorem Cb.sub {v w p q t : Vc} (h1 : Cb v w p) (h2 : Cb v w q) (h : Cb p q t) : Cb v w t := by
  obtain ⟨i, j, a, b⟩ := h
  have := h1.lin h2 i j
  rw [← a, ← b] at this
  exact this
theorem Cb.swap {v w t : Vc} : Cb w v t ↔ Cb v w t := by
  constructor
  · rintro ⟨x, y, h1, h2⟩; exact ⟨y, x, by omega, by omega⟩
  · rintro ⟨x, y, h1, h2⟩; exact ⟨y, x, by omega, by omega⟩
/-- Cramer -/
theorem cramer {v w t : Vc} (h : det v w ≠ 0) : Cb v w t ↔ det v w ∣ det t w ∧ det v w ∣ det v t := by
  constructor
  · rintro ⟨x, y, h1, h2⟩
    exact ⟨⟨x, by unfold det; rw [h1, h2]; grind⟩, ⟨y, by unfold det; rw [h1, h2]; grind⟩⟩
  · rintro ⟨⟨x, h1⟩, ⟨y, h2⟩⟩
    refine ⟨x, y, Int.eq_of_mul_eq_mul_left h ?_, Int.eq_of_mul_eq_mul_left h ?_⟩
    · have : det v w * t.1 = det t w * v.1 + det v t * w.1 := by unfold det; grind
      rw [this, h1, h2]; grind
    · have : det v w * t.2 = det t w * v.2 + det v t * w.2 := by unfold det; grind
      rw [this, h1, h2]; grind
/-- lattices by their normal form -/
structure Lt where
  a : Int
  b : Int
  d : Int
  deriving DecidableEq
def Lt.pv (L : Lt) : PV := .tup [.int L.a, .int L.b, .int L.d]
def Lt.has (L : Lt) (t : Vc) : Prop := Cb (L.a, L.b) (0, L.d) t
structure Lt.Ok (L : Lt) : Prop where
  a0 : 0 < L.a
  d0 : 0 < L.d
  b0 : 0 ≤ L.b
  b1 : L.b < L.d
theorem Lt.ext_has {L K : Lt} (hL : L.Ok) (hK : K.Ok) (h : ∀ t, L.has t ↔ K.has t) : L = K := by
  obtain ⟨a, b, d⟩ := L
  obtain ⟨a', b', d'⟩ := K
  have h1 := (h (a, b)).mp (Cb.l _ _)
  have h2 := (h (0, d)).mp (Cb.r _ _)
  have h3 := (h (a', b')).mpr (Cb.l _ _)
  have h4 := (h (0, d')).mpr (Cb.r _ _)
  obtain ⟨a0, d0, b0, b1⟩ := hL
  obtain ⟨a0', d0', b0', b1'⟩ := hK
  simp only [Lt.has] at h1 h2 h3 h4 a0 d0 b0 b1 a0' d0' b0' b1'
  obtain ⟨x1, y1, e1, f1⟩ := h1
  obtain ⟨x2, y2, e2, f2⟩ := h2
  obtain ⟨x3, y3, e3, f3⟩ := h3
  obtain ⟨x4, y4, e4, f4⟩ := h4
  simp only [Int.mul_zero, Int.add_zero] at e1 e2 e3 e4 f1 f2 f3 f4
  have ea : a = a' := by
    have d1 : a' ∣ a := ⟨x1, by rw [e1, Int.mul_comm]⟩
    have d2 : a ∣ a' := ⟨x3, by rw [e3, Int.mul_comm]⟩
    have l1 := Int.le_of_dvd a0 d1
    have l2 := Int.le_of_dvd a0' d2
    omega
  subst ea
  have z2 : x2 = 0 := by
    rcases Int.mul_eq_zero.mp e2.symm with h | h
    · exact h
    · omega
  have z4 : x4 = 0 := by
    rcases Int.mul_eq_zero.mp e4.symm with h | h
    · exact h
    · omega
  subst z2; subst z4
  have ed : d = d' := by
    have d1 : d' ∣ d := ⟨y2, by rw [f2]; grind⟩
    have d2 : d ∣ d' := ⟨y4, by rw [f4]; grind⟩
    have l1 := Int.le_of_dvd d0 d1
    have l2 := Int.le_of_dvd d0' d2
    omega
  subst ed
  have o1 : x1 = 1 := Int.eq_of_mul_eq_mul_right (show a ≠ 0 by omega) (by omega)
  subst o1
  have : b = b' + y1 * d := by omega
  have hy : y1 = 0 := by
    rcases Int.lt_trichotomy y1 0 with h | h | h
    · have : y1 * d ≤ (-1) * d := Int.mul_le_mul_of_nonneg_right (by omega) (by omega)
      omega
    · exact h
    · have : 1 * d ≤ y1 * d := Int.mul_le_mul_of_nonneg_right (by omega) (by omega)
      omega
  subst hy
  have : b = b' := by omega
  subst this; rfl
/-- has_vector's condition -/
def Lt.hasB (L : Lt) (t : Vc) : Bool := decide (t.1.fmod L.a = 0) && decide ((t.2 - t.1.fdiv L.a * L.b).fmod L.d = 0)
theorem fmod_dvd (a b : Int) : a.fmod b = 0 ↔ b ∣ a := Int.dvd_iff_fmod_eq_zero.symm
theorem Lt.hasB_iff {L : Lt} (ha : L.a ≠ 0) (t : Vc) : L.hasB t = true ↔ L.has t := by
  unfold Lt.hasB Lt.has
  rw [Bool.and_eq_true, decide_eq_true_eq, decide_eq_true_eq, fmod_dvd, fmod_dvd]
  constructor
  · rintro ⟨⟨x, h1⟩, ⟨y, h2⟩⟩
    rw [h1, Int.mul_comm L.a x, Int.mul_fdiv_cancel x ha] at h2
    exact ⟨x, y, by simp only; rw [h1]; grind, by simp only; grind⟩
  · rintro ⟨x, y, h1, h2⟩
    simp only [Int.mul_zero, Int.add_zero] at h1 h2
    refine ⟨⟨x, by rw [h1, Int.mul_comm]⟩, ⟨y, ?_⟩⟩
    rw [h1, Int.mul_fdiv_cancel x ha]; grind
end EX

set_option maxRecDepth 100000
set_option maxHeartbeats 4000000
set_option exponentiation.threshold 2000
namespace EX
open PySem PySem.Spec L2 EL
theorem log_lt {n k : Nat} (h : n < 2 ^ k) (hk : 0 < k) : n.log2 < k := by
  by_cases h0 : n = 0
  · subst h0; simpa using hk
  · exact (Nat.log2_lt h0).mpr h
theorem mul_big {i j : Int} (hi : i.natAbs < 2 ^ 1000) (hj : j.natAbs < 2 ^ 1000) : mulOk i j = true := by
  have h1 := log_lt hi (by decide)
  have h2 := log_lt hj (by decide)
  unfold mulOk
  rw [decide_eq_true (show i.natAbs.log2 + j.natAbs.log2 + 2 ≤ 1000000 by omega)]
  simp
theorem div_ok {j : Int} (h0 : j ≠ 0) (h : j.natAbs < 2 ^ 1000) : divOk j = true := by
  have h1 := log_lt h (by decide)
  unfold divOk
  rw [decide_eq_true h0, decide_eq_true (show j.natAbs.log2 < 9000 by omega)]
  rfl
theorem half {a b : Nat} (hb : 0 < b) (h : b < a) : 2 * (b * (a % b)) ≤ a * b := by
  have h1 : a % b + b ≤ a := by
    have := Nat.div_add_mod a b
    have h2 : 1 ≤ a / b := Nat.div_pos (by omega) hb
    have h3 : b * 1 ≤ b * (a / b) := Nat.mul_le_mul_left b h2
    omega
  have h2 : a % b < b := Nat.mod_lt _ hb
  have h3 : 2 * (a % b) ≤ a := by omega
  calc 2 * (b * (a % b)) = b * (2 * (a % b)) := by rw [Nat.mul_left_comm]
    _ ≤ b * a := Nat.mul_le_mul_left b h3
    _ = a * b := Nat.mul_comm _ _
def Same (i j : Int) : Prop := (0 ≤ i ∧ 0 ≤ j) ∨ (i ≤ 0 ∧ j ≤ 0)
theorem fmod_bd (a : Int) {b : Int} (hb : b ≠ 0) : Same b (a.fmod b) ∧ (a.fmod b).natAbs < b.natAbs := by
  rcases Int.lt_or_gt_of_ne hb with h | h
  · have h1 := Int.fmod_nonneg_of_pos (-a) (b := -b) (by omega)
    have h2 := Int.fmod_lt_of_pos (-a) (b := -b) (by omega)
    rw [Int.neg_fmod_neg] at h1 h2
    exact ⟨.inr ⟨by omega, by omega⟩, by omega⟩
  · have h1 := Int.fmod_nonneg_of_pos a h
    have h2 := Int.fmod_lt_of_pos a h
    exact ⟨.inl ⟨by omega, by omega⟩, by omega⟩
theorem fmod_same {a b : Int} (hb : b ≠ 0) (h : Same a b) : (a.fmod b).natAbs = a.natAbs % b.natAbs := by
  rcases h with ⟨h1, h2⟩ | ⟨h1, h2⟩
  · rw [Int.fmod_eq_emod_of_nonneg a h2, Int.natAbs_emod_of_nonneg h1]
  · have e := Int.neg_fmod_neg (a := a) (b := b)
    have e2 := Int.fmod_eq_emod_of_nonneg (-a) (b := -b) (by omega)
    have e3 := Int.natAbs_emod_of_nonneg (a := -a) (by omega) (-b)
    rw [e2] at e
    rw [← Int.natAbs_neg (a.fmod b), ← e, e3]
    simp
def cfC : CE := .cmp .ne (.idx (.var 1) (.lit (.int 0))) (.lit (.int 0))
/-- one turn -/
theorem cf_cond {v w : Vc} {t : Option PV} : ev cfC [some (sq v), some (sq w), t] = .ok (.bl (!decide (w.1 = 0)), [some (sq v), some (sq w), t]) := by
  simp [cfC, asA, getA]
theorem cf_turn {v w : Vc} {t : Option PV} (h0 : w.1 ≠ 0) (h1 : w.1.natAbs < 2 ^ 1000) (h2 : w.2.natAbs < 2 ^ 1000) (h3 : (v.1.fdiv w.1).natAbs < 2 ^ 1000) :
    exs t_common_form_1B [some (sq v), some (sq w), t] = .ok (.nxt, [some (sq w), some (sq (v.1 - v.1.fdiv w.1 * w.1, v.2 - v.1.fdiv w.1 * w.2)), some (.int (v.1.fdiv w.1))]) := by
  have d1 := div_ok h0 h1
  have m1 := mul_big h3 h1
  have m2 := mul_big h3 h2
  have e1 : ex t_common_form_1_1 [some (sq v), some (sq w), t] = .ok (.nxt, [some (sq v), some (sq w), some (.int (v.1.fdiv w.1))]) := by
    simp [t_common_form_1_1, asA, getA, d1, setT_v]
  have e2 : ex t_common_form_1_2 [some (sq v), some (sq w), some (.int (v.1.fdiv w.1))] = .ok (.nxt, [some (sq w), some (sq (v.1 - v.1.fdiv w.1 * w.1, v.2 - v.1.fdiv w.1 * w.2)), some (.int (v.1.fdiv w.1))]) := by
    simp [t_common_form_1_2, asA, getA, rdS, m1, m2, sLen, sq_mk]
  unfold t_common_form_1B
  rw [exs_step e1, exs_step e2, q_exs_nil]
structure Bd (C : Nat) (v w : Vc) : Prop where
  a : v.1.natAbs < 2 ^ 400
  b : w.1.natAbs < 2 ^ 400
  c : v.2.natAbs + (det v w).natAbs * w.1.natAbs ≤ C
  d : w.2.natAbs + (det v w).natAbs * w.1.natAbs ≤ C
theorem fdiv_bd (a : Int) {b : Int} (hb : b ≠ 0) : (a.fdiv b).natAbs ≤ a.natAbs + b.natAbs := by
  have h1 := Int.fmod_add_mul_fdiv a b
  have h2 := (fmod_bd a hb).2
  have h3 : (b * a.fdiv b).natAbs ≤ a.natAbs + b.natAbs := by omega
  rw [Int.natAbs_mul] at h3
  have : 1 * (a.fdiv b).natAbs ≤ b.natAbs * (a.fdiv b).natAbs := Nat.mul_le_mul_right _ (by omega)
  omega
theorem Bd.step {C : Nat} {v w : Vc} (h : Bd C v w) (h0 : w.1 ≠ 0) : Bd C w (v.1 - v.1.fdiv w.1 * w.1, v.2 - v.1.fdiv w.1 * w.2) := by
  have hD := det_step v w (v.1.fdiv w.1)
  have hm : v.1 - v.1.fdiv w.1 * w.1 = v.1.fmod w.1 := by
    have := Int.fmod_add_mul_fdiv v.1 w.1
    rw [Int.mul_comm] at this; omega
  have hb := (fmod_bd v.1 h0).2
  have hc := h.c; have hd := h.d
  have ha := h.a; have hb' := h.b
  have hD' : (det w (v.1 - v.1.fdiv w.1 * w.1, v.2 - v.1.fdiv w.1 * w.2)).natAbs = (det v w).natAbs := by rw [hD, Int.natAbs_neg]
  have he : w.1 * (v.2 - v.1.fdiv w.1 * w.2) = det w (v.1 - v.1.fdiv w.1 * w.1, v.2 - v.1.fdiv w.1 * w.2) + w.2 * (v.1 - v.1.fdiv w.1 * w.1) := by
    unfold det; simp only; grind
  generalize hq : v.2 - v.1.fdiv w.1 * w.2 = q at *
  rw [hm] at he hD' ⊢
  generalize v.1.fmod w.1 = r at *
  generalize (det v w).natAbs = D at *
  have hq1 : w.1.natAbs * q.natAbs ≤ D + w.2.natAbs * r.natAbs := by
    rw [← Int.natAbs_mul, he]
    have := Int.natAbs_add_le (det w (r, q)) (w.2 * r)
    rw [Int.natAbs_mul] at this
    omega
  have hw : 0 < w.1.natAbs := by omega
  have hq2 : q.natAbs ≤ D + w.2.natAbs := by
    refine Nat.le_of_mul_le_mul_left ?_ hw
    have e1 : w.2.natAbs * r.natAbs ≤ w.2.natAbs * w.1.natAbs := Nat.mul_le_mul_left _ (by omega)
    have e2 : D * 1 ≤ w.1.natAbs * D := by rw [Nat.mul_comm w.1.natAbs]; exact Nat.mul_le_mul_left _ hw
    rw [Nat.mul_add, Nat.mul_comm w.1.natAbs w.2.natAbs]
    omega
  have hr : D * r.natAbs + D ≤ D * w.1.natAbs := by
    rw [← Nat.mul_succ]; exact Nat.mul_le_mul_left _ (by omega)
  exact ⟨hb', by simp only; omega, by rw [hD']; simp only; omega, by rw [hD']; simp only; omega⟩
def Res (v w : Vc) (r : EL.R (EL.Flow × EL.Env)) : Prop := ∃ (v' w' : Vc) (t' : Option PV), r = .ok (.nxt, [some (sq v'), some (sq w'), t']) ∧ w'.1 = 0 ∧ (∀ u, Cb v' w' u ↔ Cb v w u) ∧ (det v' w').natAbs = (det v w).natAbs
theorem Res.back {v w : Vc} {r : EL.R (EL.Flow × EL.Env)} (k : Int) (h : Res w (v.1 - k * w.1, v.2 - k * w.2) r) : Res v w r := by
  obtain ⟨v', w', t', e, z, hc, hd⟩ := h
  exact ⟨v', w', t', e, z, fun u => (hc u).trans (Cb.step k), by rw [hd, det_step, Int.natAbs_neg]⟩
theorem cf_loop (C : Nat) (hC : C < 2 ^ 1000) : ∀ (k n : Nat) (v w : Vc) (t : Option PV), Bd C v w → Same v.1 w.1 → (w.1 = 0 ∨ (w.1.natAbs < v.1.natAbs ∧ v.1.natAbs * w.1.natAbs < 2 ^ k)) → k < n →
    Res v w (loopW (fun e => ev cfC e) (fun e => exs t_common_form_1B e) n [some (sq v), some (sq w), t])
  | k, 0, _, _, _, _, _, _, h => by omega
  | k, n + 1, v, w, t, hB, hs, hk, hn => by
    unfold loopW
    rw [cf_cond, R.bind_ok]
    by_cases h0 : w.1 = 0
    · rw [decide_eq_true h0]
      exact ⟨v, w, t, rfl, h0, fun _ => Iff.rfl, rfl⟩
    · rw [decide_eq_false h0]
      have p400 : (2 : Nat) ^ 400 ≤ 2 ^ 1000 := Nat.pow_le_pow_right (by decide) (by decide)
      have p401 : (2 : Nat) ^ 400 + 2 ^ 400 ≤ 2 ^ 1000 := by
        have : (2 : Nat) ^ 401 ≤ 2 ^ 1000 := Nat.pow_le_pow_right (by decide) (by decide)
        rw [Nat.pow_succ] at this; omega
      have hd := fdiv_bd v.1 h0
      have b1 := hB.a; have b2 := hB.b; have b3 := hB.d
      have tn := cf_turn (v := v) (w := w) (t := t) h0 (by omega) (by omega) (by omega)
      simp only [Bool.not_false]
      rw [tn, R.bind_ok]
      simp only
      rcases hk with hk | ⟨hk1, hk2⟩
      · exact absurd hk h0
      · have hB' := hB.step h0
        have hm : v.1 - v.1.fdiv w.1 * w.1 = v.1.fmod w.1 := by
          have := Int.fmod_add_mul_fdiv v.1 w.1
          rw [Int.mul_comm] at this; omega
        have hs' := fmod_bd v.1 h0
        have hab := fmod_same h0 hs
        refine Res.back (v.1.fdiv w.1) ?_
        by_cases hz : v.1.fmod w.1 = 0
        · match n, hn with
          | n + 1, hn =>
            exact cf_loop C hC 0 (n + 1) _ _ _ hB' (by simp only [hm]; exact hs'.1) (.inl (by simp only [hm]; exact hz)) (by omega)
          | 0, hn =>
            have : k = 0 := by omega
            subst this
            have : 0 < v.1.natAbs * w.1.natAbs := Nat.mul_pos (by omega) (by omega)
            omega
        · match k, hk2, hn with
          | 0, hk2, _ =>
            have : 0 < v.1.natAbs * w.1.natAbs := Nat.mul_pos (by omega) (by omega)
            omega
          | k + 1, hk2, hn =>
            refine cf_loop C hC k n _ _ _ hB' (by simp only [hm]; exact hs'.1) (.inr ⟨by simp only [hm]; exact hs'.2, ?_⟩) (by omega)
            simp only [hm]
            rw [hab]
            have := half (a := v.1.natAbs) (b := w.1.natAbs) (by omega) hk1
            rw [Nat.pow_succ] at hk2
            omega
theorem cf_start (C : Nat) (hC : C < 2 ^ 1000) {v w : Vc} {t : Option PV} (hB : Bd C v w) : Res v w (loopW (fun e => ev cfC e) (fun e => exs t_common_form_1B e) FUEL [some (sq v), some (sq w), t]) := by
  have hF : FUEL = (FUEL - 1) + 1 := by decide
  rw [hF]
  unfold loopW
  rw [cf_cond, R.bind_ok]
  by_cases h0 : w.1 = 0
  · rw [decide_eq_true h0]
    exact ⟨v, w, t, rfl, h0, fun _ => Iff.rfl, rfl⟩
  · rw [decide_eq_false h0]
    have p400 : (2 : Nat) ^ 400 ≤ 2 ^ 1000 := Nat.pow_le_pow_right (by decide) (by decide)
    have p401 : (2 : Nat) ^ 400 + 2 ^ 400 ≤ 2 ^ 1000 := by
      have : (2 : Nat) ^ 401 ≤ 2 ^ 1000 := Nat.pow_le_pow_right (by decide) (by decide)
      rw [Nat.pow_succ] at this; omega
    have hd := fdiv_bd v.1 h0
    have b1 := hB.a; have b2 := hB.b; have b3 := hB.d
    have tn := cf_turn (v := v) (w := w) (t := t) h0 (by omega) (by omega) (by omega)
    simp only [Bool.not_false]
    rw [tn, R.bind_ok]
    simp only
    have hB' := hB.step h0
    have hm : v.1 - v.1.fdiv w.1 * w.1 = v.1.fmod w.1 := by
      have := Int.fmod_add_mul_fdiv v.1 w.1
      rw [Int.mul_comm] at this; omega
    have hs' := fmod_bd v.1 h0
    refine Res.back (v.1.fdiv w.1) ?_
    refine cf_loop C hC 800 (FUEL - 1) _ _ _ hB' (by simp only [hm]; exact hs'.1) (.inr ⟨by simp only [hm]; exact hs'.2, ?_⟩) (by decide)
    simp only [hm]
    calc w.1.natAbs * (v.1.fmod w.1).natAbs ≤ w.1.natAbs * w.1.natAbs := Nat.mul_le_mul_left _ (by omega)
      _ < 2 ^ 400 * 2 ^ 400 := Nat.mul_lt_mul'' b2 b2
      _ = 2 ^ 800 := by rw [← Nat.pow_add]
end EX

set_option maxRecDepth 100000
set_option maxHeartbeats 4000000
set_option exponentiation.threshold 2000
namespace EX
open PySem PySem.Spec L2 EL
/-- sizes of vectors -/
def Sm (v : Vc) : Prop := v.1.natAbs < 2 ^ 200 ∧ v.2.natAbs < 2 ^ 200
theorem nat_mul_lt {a b m n : Nat} (ha : a < 2 ^ m) (hb : b < 2 ^ n) : a * b < 2 ^ (m + n) := by
  rw [Nat.pow_add]; exact Nat.mul_lt_mul'' ha hb
theorem det_bd {v w : Vc} (hv : Sm v) (hw : Sm w) : (det v w).natAbs < 2 ^ 401 := by
  have h1 := nat_mul_lt hv.1 hw.2
  have h2 := nat_mul_lt hv.2 hw.1
  have h3 : (det v w).natAbs ≤ v.1.natAbs * w.2.natAbs + v.2.natAbs * w.1.natAbs := by
    unfold det
    have := Int.natAbs_sub_le (v.1 * w.2) (v.2 * w.1)
    rw [Int.natAbs_mul, Int.natAbs_mul] at this
    exact this
  have : (2 : Nat) ^ 401 = 2 ^ (200 + 200) + 2 ^ (200 + 200) := by decide
  omega
theorem Bd.of {v w : Vc} (hv : Sm v) (hw : Sm w) : Bd (2 ^ 700) v w := by
  have p : (2 : Nat) ^ 200 ≤ 2 ^ 400 := Nat.pow_le_pow_right (by decide) (by decide)
  have h1 := nat_mul_lt (det_bd hv hw) hw.1
  have h2 : (2 : Nat) ^ (401 + 200) + 2 ^ 200 ≤ 2 ^ 700 := by decide
  obtain ⟨a, b⟩ := hv
  obtain ⟨c, d⟩ := hw
  exact ⟨by omega, by omega, by omega, by omega⟩
theorem run_common {v w : Vc} (hv : Sm v) (hw : Sm w) : ∃ a b d : Int, run c_common_form [sq v, sq w] = .ok (.tup [.int a, .int b, .int d], [sq v, sq w]) ∧ 0 ≤ a ∧ 0 ≤ d ∧ (∀ u, Cb (a, b) (0, d) u ↔ Cb v w u) ∧ a * d = (det v w).natAbs := by
  obtain ⟨v', w', t', e, z, hc, hd⟩ := cf_start (2 ^ 700) (by decide) (t := none) (Bd.of hv hw)
  have hF : freeA [sq v, sq w] (asgB (.cons t_common_form_1 (.cons t_common_form_2 (.cons t_common_form_3 .nil)))) = true := by
    simp [freeA, asgB, asgS, asgT, t_common_form_1_1, t_common_form_1_2, t_common_form_1B, t_common_form_1, t_common_form_2, t_common_form_3]
  have e1 : ex t_common_form_1 [some (sq v), some (sq w), none] = .ok (.nxt, [some (sq v'), some (sq w'), t']) := by
    unfold t_common_form_1
    rw [q_ex_whl]; exact e
  have hw' : w' = (0, w'.2) := Prod.ext z rfl
  have ha : ∀ x : Int, (if x < 0 then -x else x) = (x.natAbs : Int) := fun x => by split <;> omega
  have hdd : det v' w' = v'.1 * w'.2 := by unfold det; rw [z, Int.mul_zero, Int.sub_zero]
  rw [hdd, Int.natAbs_mul] at hd
  have hcn : ∀ u p, Cb p (0, (w'.2.natAbs : Int)) u ↔ Cb p w' u := fun u p => by
    rw [hw']
    rcases Int.natAbs_eq w'.2 with h | h
    · rw [← h]
    · simp only
      have : ((w'.2.natAbs : Int)) = -w'.2 := by omega
      rw [this]
      have := Cb.neg2 (v := p) (w := (0, w'.2)) (t := u)
      simpa using this
  by_cases hn : v'.1 < 0
  · have e2 : ex t_common_form_2 [some (sq v'), some (sq w'), t'] = .ok (.nxt, [some (sq (-v'.1, -v'.2)), some (sq w'), t']) := by
      simp [t_common_form_2, asA, getA, hn, sLen, sq_mk, setT_v]
    refine ⟨-v'.1, -v'.2, w'.2.natAbs, run_ok rfl (by decide) hF ((exs_step e1).trans <| (exs_step e2).trans <| exs_ret (by simp [t_common_form_3, asA, getA, getAs, sLen, ha]; rfl)) (by simp [outs]), by omega, by omega, fun u => ?_, ?_⟩
    · rw [hcn, ← hc]; exact Cb.neg1
    · rw [← hd, Int.natCast_mul]; congr 1; omega
  · have e2 : ex t_common_form_2 [some (sq v'), some (sq w'), t'] = .ok (.nxt, [some (sq v'), some (sq w'), t']) := by
      simp [t_common_form_2, asA, getA, hn]
    refine ⟨v'.1, v'.2, w'.2.natAbs, run_ok rfl (by decide) hF ((exs_step e1).trans <| (exs_step e2).trans <| exs_ret (by simp [t_common_form_3, asA, getA, getAs, sLen, ha]; rfl)) (by simp [outs]), by omega, by omega, fun u => ?_, ?_⟩
    · rw [hcn, ← hc]
    · rw [← hd, Int.natCast_mul]; congr 1; omega
/-- a lattice of a size -/
structure Lt.Sz (L : Lt) : Prop where
  a : L.a.natAbs < 2 ^ 900
  b : L.b.natAbs < 2 ^ 900
  d : L.d.natAbs < 2 ^ 900
theorem mod_has {a b d : Int} (u : Vc) : Cb (a, b.fmod d) (0, d) u ↔ Cb (a, b) (0, d) u := by
  have h := Int.fmod_add_mul_fdiv b d
  generalize b.fmod d = r at *
  generalize b.fdiv d = q at *
  subst h
  constructor
  · rintro ⟨x, y, h1, h2⟩; exact ⟨x, y - x * q, by simp only at h1 ⊢; grind, by simp only at h2 ⊢; grind⟩
  · rintro ⟨x, y, h1, h2⟩; exact ⟨x, y + x * q, by simp only at h1 ⊢; grind, by simp only at h2 ⊢; grind⟩
theorem run_spanned {v w : Vc} (hv : Sm v) (hw : Sm w) (hd : det v w ≠ 0) : ∃ L : Lt, run c_spanned [sq v, sq w] = .ok (L.pv, [sq v, sq w]) ∧ L.Ok ∧ L.Sz ∧ (∀ u, L.has u ↔ Cb v w u) ∧ L.a * L.d = (det v w).natAbs := by
  obtain ⟨a, b, d, e, a0, d0, hc, hx⟩ := run_common hv hw
  have hp : 0 < a * d := by rw [hx]; omega
  have ha : 0 < a := by
    rcases Int.lt_or_eq_of_le a0 with h | h
    · exact h
    · rw [← h, Int.zero_mul] at hp; omega
  have hd' : 0 < d := by
    rcases Int.lt_or_eq_of_le d0 with h | h
    · exact h
    · rw [← h, Int.mul_zero] at hp; omega
  have bd := det_bd hv hw
  have p : (2 : Nat) ^ 401 ≤ 2 ^ 900 := Nat.pow_le_pow_right (by decide) (by decide)
  have la : a ≤ a * d := by
    have : a * 1 ≤ a * d := Int.mul_le_mul_of_nonneg_left (by omega) (by omega)
    omega
  have ld : d ≤ a * d := by
    have : 1 * d ≤ a * d := Int.mul_le_mul_of_nonneg_right (by omega) (by omega)
    omega
  have m1 := Int.fmod_nonneg_of_pos b hd'
  have m2 := Int.fmod_lt_of_pos b hd'
  have hz : ¬ (d = 0) := by omega
  refine ⟨⟨a, b.fmod d, d⟩, ?_, ⟨ha, hd', m1, m2⟩, ⟨by simp only; omega, by simp only; omega, by simp only; omega⟩, fun u => (mod_has u).trans (hc u), hx⟩
  simp [c_spanned, run_mk, freeA, asgB, asgS, asgT, outs, asA, getA, getAs, rdS, mvS, lend, back, setT_v, int?, bool?, t_spanned_1, t_spanned_2, e, setT, hz, sLen, Lt.pv]
@[simp] theorem pv_ow (L : Lt) : isOwn L.pv = false := rfl
@[simp] theorem pv_fz (L : Lt) : frz L.pv = L.pv := rfl
theorem run_index {L : Lt} (h : L.Sz) : run c_index_of [L.pv] = .ok (.int (L.a * L.d), [L.pv]) := by
  have p : (2 : Nat) ^ 900 ≤ 2 ^ 1000 := Nat.pow_le_pow_right (by decide) (by decide)
  have m := mul_big (i := L.a) (j := L.d) (by have := h.a; omega) (by have := h.d; omega)
  simp [c_index_of, run_mk, freeA, asgB, asgS, asgT, outs, asA, getA, getAs, rdS, mvS, lend, back, setT_v, int?, bool?, t_index_of_1, Lt.pv, m]
theorem run_has {L : Lt} (hL : L.Ok) (h : L.Sz) {t : Vc} (ht : t.1.natAbs < 2 ^ 900) : run c_has_vector [L.pv, sq t] = .ok (.bl (L.hasB t), [L.pv, sq t]) := by
  have p : (2 : Nat) ^ 900 + 2 ^ 900 ≤ 2 ^ 1000 := by
    have : (2 : Nat) ^ 901 ≤ 2 ^ 1000 := Nat.pow_le_pow_right (by decide) (by decide)
    rw [Nat.pow_succ] at this; omega
  have a0 := hL.a0; have d0 := hL.d0
  have sa := h.a; have sb := h.b; have sd := h.d
  have ha : ¬ (L.a = 0) := by omega
  have hd : ¬ (L.d = 0) := by omega
  have f := fdiv_bd t.1 ha
  have m := mul_big (i := t.1.fdiv L.a) (j := L.b) (by omega) (by omega)
  have dv := div_ok ha (by omega)
  unfold Lt.hasB
  by_cases h1 : t.1.fmod L.a = 0 <;> simp [c_has_vector, run_mk, freeA, asgB, asgS, asgT, outs, asA, getA, getAs, rdS, mvS, lend, back, setT_v, int?, bool?, t_has_vector_1, t_has_vector_2, Lt.pv, setT, ha, hd, m, dv, h1]
theorem run_basis (L : Lt) : run c_basis_of [L.pv] = .ok (.lst .own ([(L.a, L.b), (0, L.d)].map sq), [L.pv]) := by
  simp [c_basis_of, run_mk, freeA, asgB, asgS, asgT, outs, asA, getA, getAs, rdS, mvS, lend, back, setT_v, int?, bool?, t_basis_of_1, t_basis_of_2, Lt.pv, setT, sLen, sq_mk]
theorem run_within {L K : Lt} (hL : L.Ok) (sL : L.Sz) (hK : K.Ok) (sK : K.Sz) : run c_is_within [L.pv, K.pv] = .ok (.bl (K.hasB (L.a, L.b) && K.hasB (0, L.d)), [L.pv, K.pv]) := by
  have rb := run_basis L
  have el := ev_lcM (emb := sq) (xs := [(L.a, L.b), (0, L.d)]) (g := fun t => .bl (K.hasB t)) (vs := [2]) (t := .var 2) (it := .val (.call "basis_of" c_basis_of (.cons (.var 0) .nil))) (e := .call "has_vector" c_has_vector (.cons (.var 1) (.cons (.var 2) .nil))) (env0 := [some L.pv, some K.pv, none]) (env := [some L.pv, some K.pv, none])
    (evI_val (v := .lst .own ([(L.a, L.b), (0, L.d)].map sq)) (by simp [asA, lend, rb, back]) (items_map fun _ _ => rfl)) (by rfl) (by rfl) (small_sz (by simp)) (fun t ht => ⟨[some L.pv, some K.pv, some (sq t)], rfl, rfl, by
      have := run_has hK sK (t := t) (by
        have p : 0 < (2 : Nat) ^ 900 := Nat.two_pow_pos _
        rcases List.mem_cons.mp ht with e | e
        · rw [e]; exact sL.a
        · rw [List.mem_singleton.mp e]; exact p)
      simp [asA, lend, this, back]⟩)
  refine run_ok (en := [some L.pv, some K.pv, none]) rfl (by decide) (by simp [freeA, asgB, asgS, asgT, t_is_within_1]) (exs_ret ?_) (by simp [outs])
  unfold t_is_within_1
  exact ex_ret (ev_blt1 nv_lc el (by simp [bltP, blsP]))
end EX

set_option maxRecDepth 100000
namespace K05
open PySem EL
open EN (c__law_size c__law_floor c__law_far)
open EX (c_common_form c_spanned c_is_lattice c_index_of c_has_vector c_basis_of c_is_within c_lattice_of)
def t_law_vector_1 : CS := (.ite (.cmp .eq (.call "_law_take" c__law_take (.cons (.var 0) (.cons (.lit (.int 5)) .nil))) (.lit (.int 0))) (.cons (.ret (.yes (.tup (.cons (.call "_law_far" c__law_far (.cons (.var 0) .nil)) (.cons (.call "_law_far" c__law_far (.cons (.var 0) .nil)) .nil))))) .nil) .nil)
def t_law_vector_2 : CS := (.ret (.yes (.tup (.cons (.bin .sub (.call "_law_take" c__law_take (.cons (.var 0) (.cons (.lit (.int 15)) .nil))) (.lit (.int 7))) (.cons (.bin .sub (.call "_law_take" c__law_take (.cons (.var 0) (.cons (.lit (.int 15)) .nil))) (.lit (.int 7))) .nil)))))
def c__law_vector : CF := .mk 1 ["deal"] (.cons t_law_vector_1 (.cons t_law_vector_2 .nil))
def t_law_two_1 : CS := (.asg (.var 1) (.call "_law_vector" c__law_vector (.cons (.var 0) .nil)))
def t_law_two_2 : CS := (.asg (.var 2) (.call "_law_vector" c__law_vector (.cons (.var 0) .nil)))
def t_law_two_3 : CS := (.ite (.cmp .eq (.bin .mul (.idx (.var 1) (.lit (.int 0))) (.idx (.var 2) (.lit (.int 1)))) (.bin .mul (.idx (.var 1) (.lit (.int 1))) (.idx (.var 2) (.lit (.int 0))))) (.cons (.asg (.var 1) (.tup (.cons (.bin .add (.lit (.int 1)) (.blt .abs (.cons (.idx (.var 1) (.lit (.int 0))) .nil))) (.cons (.idx (.var 1) (.lit (.int 1))) .nil)))) (.cons (.asg (.var 2) (.tup (.cons (.lit (.int 0)) (.cons (.bin .add (.lit (.int 1)) (.blt .abs (.cons (.idx (.var 2) (.lit (.int 1))) .nil))) .nil)))) .nil)) .nil)
def t_law_two_4 : CS := (.ret (.yes (.lst false (.cons (.mv 1) (.cons (.mv 2) .nil)))))
def c__law_two : CF := .mk 1 ["deal", "v", "w"] (.cons t_law_two_1 (.cons t_law_two_2 (.cons t_law_two_3 (.cons t_law_two_4 .nil))))
def t_law_yes_1 : CS := (.ret (.yes (.and (.blt (.isi "bool") (.cons (.var 0) .nil)) (.cmp .eq (.var 0) (.var 1)))))
def c__law_yes : CF := .mk 2 ["told", "due"] (.cons t_law_yes_1 .nil)
def t_law_triples_1 : CS := (.asg (.var 1) (.bin .add (.lit (.int 1)) (.blt .abs (.cons (.call "_law_far" c__law_far (.cons (.var 0) .nil)) .nil))))
def t_law_triples_2 : CS := (.asg (.var 2) (.bin .add (.lit (.int 1)) (.blt .abs (.cons (.call "_law_far" c__law_far (.cons (.var 0) .nil)) .nil))))
def t_law_triples_3 : CS := (.asg (.var 3) (.bin .mod (.blt .abs (.cons (.call "_law_far" c__law_far (.cons (.var 0) .nil)) .nil)) (.var 2)))
def t_law_triples_4_1 : CS := (.ite (.or (.not (.call "_law_yes" c__law_yes (.cons (.call "is_lattice" c_is_lattice (.cons (.var 4) .nil)) (.cons (.lit (.bl true)) .nil)))) (.not (.prm "_law_same" prSame (.cons (.call "index_of" c_index_of (.cons (.var 4) .nil)) (.cons (.bin .mul (.idx (.var 4) (.lit (.int 0))) (.idx (.var 4) (.lit (.int 2)))) .nil))))) (.cons (.ret (.yes (.lit (.bl false)))) .nil) .nil)
def t_law_triples_4B : CSs := (.cons t_law_triples_4_1 .nil)
def t_law_triples_4 : CS := (.for_ (.var 4) (.val (.lst false (.cons (.tup (.cons (.var 1) (.cons (.var 3) (.cons (.var 2) .nil)))) (.cons (.tup (.cons (.var 1) (.cons (.bin .sub (.var 2) (.lit (.int 1))) (.cons (.var 2) .nil)))) (.cons (.tup (.cons (.var 1) (.cons (.lit (.int 0)) (.cons (.var 2) .nil)))) (.cons (.tup (.cons (.lit (.int 1)) (.cons (.lit (.int 0)) (.cons (.lit (.int 1)) .nil)))) .nil)))))) t_law_triples_4B)
def t_law_triples_5_1 : CS := (.ite (.not (.call "_law_yes" c__law_yes (.cons (.call "is_lattice" c_is_lattice (.cons (.var 4) .nil)) (.cons (.lit (.bl false)) .nil)))) (.cons (.ret (.yes (.lit (.bl false)))) .nil) .nil)
def t_law_triples_5B : CSs := (.cons t_law_triples_5_1 .nil)
def t_law_triples_5 : CS := (.for_ (.var 4) (.val (.lst false (.cons (.tup (.cons (.lit (.int 0)) (.cons (.var 3) (.cons (.var 2) .nil)))) (.cons (.tup (.cons (.neg (.var 1)) (.cons (.var 3) (.cons (.var 2) .nil)))) (.cons (.tup (.cons (.var 1) (.cons (.var 2) (.cons (.var 2) .nil)))) (.cons (.tup (.cons (.var 1) (.cons (.neg (.lit (.int 1))) (.cons (.var 2) .nil)))) (.cons (.tup (.cons (.var 1) (.cons (.bin .add (.var 3) (.var 2)) (.cons (.var 2) .nil)))) (.cons (.tup (.cons (.var 1) (.cons (.var 3) (.cons (.lit (.int 0)) .nil)))) (.cons (.tup (.cons (.var 1) (.cons (.lit (.int 0)) (.cons (.neg (.var 2)) .nil)))) (.cons (.tup (.cons (.var 1) (.cons (.bin .sub (.neg (.var 3)) (.lit (.int 1))) (.cons (.var 2) .nil)))) .nil)))))))))) t_law_triples_5B)
def t_law_triples_6 : CS := (.ret (.yes (.lit (.bl true))))
def c__law_triples : CF := .mk 1 ["deal", "a", "d", "b", "triple"] (.cons t_law_triples_1 (.cons t_law_triples_2 (.cons t_law_triples_3 (.cons t_law_triples_4 (.cons t_law_triples_5 (.cons t_law_triples_6 .nil))))))
def t_law_is_lattice_1 : CS := (.ite (.or (.not (.blt (.isi "tuple") (.cons (.var 0) .nil))) (.cmp .ne (.blt .len (.cons (.var 0) .nil)) (.lit (.int 3)))) (.cons (.ret (.yes (.lit (.bl false)))) .nil) .nil)
def t_law_is_lattice_2_1 : CS := (.ite (.or (.not (.blt (.isi "int") (.cons (.var 1) .nil))) (.blt (.isi "bool") (.cons (.var 1) .nil))) (.cons (.ret (.yes (.lit (.bl false)))) .nil) .nil)
def t_law_is_lattice_2B : CSs := (.cons t_law_is_lattice_2_1 .nil)
def t_law_is_lattice_2 : CS := (.for_ (.var 1) (.val (.var 0)) t_law_is_lattice_2B)
def t_law_is_lattice_3 : CS := (.ret (.yes (.and (.cmp .ge (.idx (.var 0) (.lit (.int 0))) (.lit (.int 1))) (.and (.cmp .ge (.idx (.var 0) (.lit (.int 2))) (.lit (.int 1))) (.chn .le .lt (.lit (.int 0)) (.idx (.var 0) (.lit (.int 1))) (.idx (.var 0) (.lit (.int 2))))))))
def c__law_is_lattice : CF := .mk 1 ["told", "number"] (.cons t_law_is_lattice_1 (.cons t_law_is_lattice_2 (.cons t_law_is_lattice_3 .nil)))
def t_law_sum_1 : CS := (.ret (.yes (.tup (.cons (.bin .add (.bin .mul (.var 2) (.idx (.var 0) (.lit (.int 0)))) (.bin .mul (.var 3) (.idx (.var 1) (.lit (.int 0))))) (.cons (.bin .add (.bin .mul (.var 2) (.idx (.var 0) (.lit (.int 1)))) (.bin .mul (.var 3) (.idx (.var 1) (.lit (.int 1))))) .nil)))))
def c__law_sum : CF := .mk 4 ["v", "w", "i", "j"] (.cons t_law_sum_1 .nil)
def t_law_is_sum_1 : CS := (.asg (.var 3) (.bin .sub (.bin .mul (.idx (.var 0) (.lit (.int 0))) (.idx (.var 1) (.lit (.int 1)))) (.bin .mul (.idx (.var 0) (.lit (.int 1))) (.idx (.var 1) (.lit (.int 0))))))
def t_law_is_sum_2 : CS := (.ret (.yes (.and (.cmp .eq (.bin .mod (.bin .sub (.bin .mul (.idx (.var 2) (.lit (.int 0))) (.idx (.var 1) (.lit (.int 1)))) (.bin .mul (.idx (.var 2) (.lit (.int 1))) (.idx (.var 1) (.lit (.int 0))))) (.var 3)) (.lit (.int 0))) (.cmp .eq (.bin .mod (.bin .sub (.bin .mul (.idx (.var 0) (.lit (.int 0))) (.idx (.var 2) (.lit (.int 1)))) (.bin .mul (.idx (.var 0) (.lit (.int 1))) (.idx (.var 2) (.lit (.int 0))))) (.var 3)) (.lit (.int 0))))))
def c__law_is_sum : CF := .mk 3 ["v", "w", "t", "area"] (.cons t_law_is_sum_1 (.cons t_law_is_sum_2 .nil))
def t_law_vectors_1_1_1 : CS := (.ite (.not (.call "_law_yes" c__law_yes (.cons (.call "has_vector" c_has_vector (.cons (.var 1) (.cons (.call "_law_sum" c__law_sum (.cons (.var 2) (.cons (.var 3) (.cons (.var 4) (.cons (.var 5) .nil))))) .nil))) (.cons (.lit (.bl true)) .nil)))) (.cons (.ret (.yes (.lit (.bl false)))) .nil) .nil)
def t_law_vectors_1_1B : CSs := (.cons t_law_vectors_1_1_1 .nil)
def t_law_vectors_1_1 : CS := (.for_ (.var 5) (.rng2 (.neg (.lit (.int 2))) (.lit (.int 3))) t_law_vectors_1_1B)
def t_law_vectors_1B : CSs := (.cons t_law_vectors_1_1 .nil)
def t_law_vectors_1 : CS := (.for_ (.var 4) (.rng2 (.neg (.lit (.int 2))) (.lit (.int 3))) t_law_vectors_1B)
def t_law_vectors_2_1 : CS := (.asg (.var 7) (.call "_law_sum" c__law_sum (.cons (.var 2) (.cons (.var 3) (.cons (.call "_law_far" c__law_far (.cons (.var 0) .nil)) (.cons (.call "_law_far" c__law_far (.cons (.var 0) .nil)) .nil))))))
def t_law_vectors_2_2 : CS := (.asg (.var 7) (.tup (.cons (.bin .sub (.bin .add (.idx (.var 7) (.lit (.int 0))) (.call "_law_take" c__law_take (.cons (.var 0) (.cons (.lit (.int 7)) .nil)))) (.lit (.int 3))) (.cons (.bin .sub (.bin .add (.idx (.var 7) (.lit (.int 1))) (.call "_law_take" c__law_take (.cons (.var 0) (.cons (.lit (.int 7)) .nil)))) (.lit (.int 3))) .nil))))
def t_law_vectors_2_3 : CS := (.ite (.not (.call "_law_yes" c__law_yes (.cons (.call "has_vector" c_has_vector (.cons (.var 1) (.cons (.var 7) .nil))) (.cons (.call "_law_is_sum" c__law_is_sum (.cons (.var 2) (.cons (.var 3) (.cons (.var 7) .nil)))) .nil)))) (.cons (.ret (.yes (.lit (.bl false)))) .nil) .nil)
def t_law_vectors_2B : CSs := (.cons t_law_vectors_2_1 (.cons t_law_vectors_2_2 (.cons t_law_vectors_2_3 .nil)))
def t_law_vectors_2 : CS := (.for_ (.var 6) (.rng1 (.lit (.int 8))) t_law_vectors_2B)
def t_law_vectors_3 : CS := (.ret (.yes (.lit (.bl true))))
def c__law_vectors : CF := .mk 4 ["deal", "lattice", "v", "w", "i", "j", "k", "t"] (.cons t_law_vectors_1 (.cons t_law_vectors_2 (.cons t_law_vectors_3 .nil)))
def t_law_has_1 : CS := (.asg (.tup [3, 4, 5]) (.var 0))
def t_law_has_2 : CS := (.ret (.yes (.and (.cmp .eq (.bin .mod (.var 1) (.var 3)) (.lit (.int 0))) (.cmp .eq (.bin .mod (.bin .sub (.var 2) (.bin .mul (.bin .fdiv (.var 1) (.var 3)) (.var 4))) (.var 5)) (.lit (.int 0))))))
def c__law_has : CF := .mk 3 ["lattice", "y", "x", "a", "b", "d"] (.cons t_law_has_1 (.cons t_law_has_2 .nil))
def t_law_within_1 : CS := (.asg (.tup [4, 5, 6, 7]) (.lc false [13] (.var 13) (.rng1 (.lit (.int 4))) .no (.bin .sub (.call "_law_take" c__law_take (.cons (.var 0) (.cons (.lit (.int 7)) .nil))) (.lit (.int 3)))))
def t_law_within_2 : CS := (.ite (.cmp .eq (.bin .mul (.var 4) (.var 7)) (.bin .mul (.var 5) (.var 6))) (.cons (.asg (.tup [4, 5, 6, 7]) (.lst false (.cons (.bin .add (.lit (.int 1)) (.call "_law_take" c__law_take (.cons (.var 0) (.cons (.lit (.int 3)) .nil)))) (.cons (.lit (.int 0)) (.cons (.call "_law_take" c__law_take (.cons (.var 0) (.cons (.lit (.int 5)) .nil))) (.cons (.lit (.int 1)) .nil)))))) .nil) .nil)
def t_law_within_3 : CS := (.asg (.var 8) (.blt .abs (.cons (.bin .sub (.bin .mul (.var 4) (.var 7)) (.bin .mul (.var 5) (.var 6))) .nil)))
def t_law_within_4 : CS := (.asg (.var 9) (.call "spanned" c_spanned (.cons (.call "_law_sum" c__law_sum (.cons (.var 2) (.cons (.var 3) (.cons (.var 4) (.cons (.var 5) .nil))))) (.cons (.call "_law_sum" c__law_sum (.cons (.var 2) (.cons (.var 3) (.cons (.var 6) (.cons (.var 7) .nil))))) .nil))))
def t_law_within_5 : CS := (.ite (.or (.not (.call "_law_is_lattice" c__law_is_lattice (.cons (.var 9) .nil))) (.not (.prm "_law_same" prSame (.cons (.call "index_of" c_index_of (.cons (.var 9) .nil)) (.cons (.bin .mul (.var 8) (.call "index_of" c_index_of (.cons (.var 1) .nil))) .nil))))) (.cons (.ret (.yes (.lit (.bl false)))) .nil) .nil)
def t_law_within_6 : CS := (.ite (.or (.not (.call "_law_yes" c__law_yes (.cons (.call "is_within" c_is_within (.cons (.var 9) (.cons (.var 1) .nil))) (.cons (.lit (.bl true)) .nil)))) (.not (.call "_law_yes" c__law_yes (.cons (.call "is_within" c_is_within (.cons (.var 1) (.cons (.var 9) .nil))) (.cons (.cmp .eq (.var 8) (.lit (.int 1))) .nil))))) (.cons (.ret (.yes (.lit (.bl false)))) .nil) .nil)
def t_law_within_7 : CS := (.asg (.var 10) (.bin .add (.lit (.int 1)) (.call "_law_take" c__law_take (.cons (.var 0) (.cons (.lit (.int 6)) .nil)))))
def t_law_within_8 : CS := (.asg (.var 11) (.tup (.cons (.bin .add (.lit (.int 1)) (.call "_law_take" c__law_take (.cons (.var 0) (.cons (.lit (.int 6)) .nil)))) (.cons (.call "_law_take" c__law_take (.cons (.var 0) (.cons (.var 10) .nil))) (.cons (.var 10) .nil)))))
def t_law_within_9 : CS := (.asg (.var 12) (.and (.call "_law_has" c__law_has (.cons (.var 11) (.cons (.idx (.var 1) (.lit (.int 0))) (.cons (.idx (.var 1) (.lit (.int 1))) .nil)))) (.call "_law_has" c__law_has (.cons (.var 11) (.cons (.lit (.int 0)) (.cons (.idx (.var 1) (.lit (.int 2))) .nil))))))
def t_law_within_10 : CS := (.ite (.not (.call "_law_yes" c__law_yes (.cons (.call "is_within" c_is_within (.cons (.var 1) (.cons (.var 11) .nil))) (.cons (.var 12) .nil)))) (.cons (.ret (.yes (.lit (.bl false)))) .nil) .nil)
def t_law_within_11 : CS := (.asg (.var 12) (.and (.call "_law_has" c__law_has (.cons (.var 1) (.cons (.idx (.var 11) (.lit (.int 0))) (.cons (.idx (.var 11) (.lit (.int 1))) .nil)))) (.call "_law_has" c__law_has (.cons (.var 1) (.cons (.lit (.int 0)) (.cons (.idx (.var 11) (.lit (.int 2))) .nil))))))
def t_law_within_12 : CS := (.ret (.yes (.call "_law_yes" c__law_yes (.cons (.call "is_within" c_is_within (.cons (.var 11) (.cons (.var 1) .nil))) (.cons (.var 12) .nil)))))
def c__law_within : CF := .mk 4 ["deal", "lattice", "v", "w", "i", "j", "m", "n", "times", "part", "d", "other", "due", "k"] (.cons t_law_within_1 (.cons t_law_within_2 (.cons t_law_within_3 (.cons t_law_within_4 (.cons t_law_within_5 (.cons t_law_within_6 (.cons t_law_within_7 (.cons t_law_within_8 (.cons t_law_within_9 (.cons t_law_within_10 (.cons t_law_within_11 (.cons t_law_within_12 .nil))))))))))))
def t_law_1 : CS := (.asg (.var 1) (.call "_law_deal" c__law_deal (.cons (.var 0) .nil)))
def t_law_2 : CS := (.ite (.not (.call "_law_triples" c__law_triples (.cons (.var 1) .nil))) (.cons (.ret (.yes (.lit (.bl false)))) .nil) .nil)
def t_law_3 : CS := (.asg (.var 2) (.call "_law_floor" c__law_floor (.cons (.var 1) (.cons (.lit (.int 4)) (.cons (.lit (.int 12)) .nil)))))
def t_law_4 : CS := (.ite (.not (.prm "_law_same" prSame (.cons (.call "lattice_of" c_lattice_of (.cons (.var 2) .nil)) (.cons (.tup (.cons (.blt .len (.cons (.idx (.var 2) (.lit (.int 0))) .nil)) (.cons (.idx (.var 2) (.lit (.int 1))) (.cons (.blt .len (.cons (.idx (.idx (.var 2) (.lit (.int 0))) (.lit (.int 0))) .nil)) .nil)))) .nil)))) (.cons (.ret (.yes (.lit (.bl false)))) .nil) .nil)
def t_law_5 : CS := (.asg (.tup [3, 4]) (.call "_law_two" c__law_two (.cons (.var 1) .nil)))
def t_law_6 : CS := (.asg (.var 5) (.call "spanned" c_spanned (.cons (.var 3) (.cons (.var 4) .nil))))
def t_law_7 : CS := (.ite (.not (.call "_law_is_lattice" c__law_is_lattice (.cons (.var 5) .nil))) (.cons (.ret (.yes (.lit (.bl false)))) .nil) .nil)
def t_law_8 : CS := (.ite (.or (.not (.call "_law_has" c__law_has (.cons (.var 5) (.cons (.idx (.var 3) (.lit (.int 0))) (.cons (.idx (.var 3) (.lit (.int 1))) .nil))))) (.not (.call "_law_has" c__law_has (.cons (.var 5) (.cons (.idx (.var 4) (.lit (.int 0))) (.cons (.idx (.var 4) (.lit (.int 1))) .nil)))))) (.cons (.ret (.yes (.lit (.bl false)))) .nil) .nil)
def t_law_9 : CS := (.ite (.or (.not (.call "_law_is_sum" c__law_is_sum (.cons (.var 3) (.cons (.var 4) (.cons (.tup (.cons (.idx (.var 5) (.lit (.int 0))) (.cons (.idx (.var 5) (.lit (.int 1))) .nil))) .nil))))) (.not (.call "_law_is_sum" c__law_is_sum (.cons (.var 3) (.cons (.var 4) (.cons (.tup (.cons (.lit (.int 0)) (.cons (.idx (.var 5) (.lit (.int 2))) .nil))) .nil)))))) (.cons (.ret (.yes (.lit (.bl false)))) .nil) .nil)
def t_law_10 : CS := (.ite (.not (.prm "_law_same" prSame (.cons (.call "index_of" c_index_of (.cons (.var 5) .nil)) (.cons (.blt .abs (.cons (.bin .sub (.bin .mul (.idx (.var 3) (.lit (.int 0))) (.idx (.var 4) (.lit (.int 1)))) (.bin .mul (.idx (.var 3) (.lit (.int 1))) (.idx (.var 4) (.lit (.int 0))))) .nil)) .nil)))) (.cons (.ret (.yes (.lit (.bl false)))) .nil) .nil)
def t_law_11 : CS := (.asg (.var 6) (.call "_law_far" c__law_far (.cons (.var 1) .nil)))
def t_law_12 : CS := (.asg (.var 7) (.tup (.cons (.bin .sub (.neg (.idx (.var 4) (.lit (.int 0)))) (.bin .mul (.var 6) (.idx (.var 3) (.lit (.int 0))))) (.cons (.bin .sub (.neg (.idx (.var 4) (.lit (.int 1)))) (.bin .mul (.var 6) (.idx (.var 3) (.lit (.int 1))))) .nil))))
def t_law_13 : CS := (.ite (.or (.not (.prm "_law_same" prSame (.cons (.call "spanned" c_spanned (.cons (.var 4) (.cons (.var 3) .nil))) (.cons (.var 5) .nil)))) (.not (.prm "_law_same" prSame (.cons (.call "spanned" c_spanned (.cons (.var 7) (.cons (.var 3) .nil))) (.cons (.var 5) .nil))))) (.cons (.ret (.yes (.lit (.bl false)))) .nil) .nil)
def t_law_14 : CS := (.ret (.yes (.and (.call "_law_vectors" c__law_vectors (.cons (.var 1) (.cons (.var 5) (.cons (.var 3) (.cons (.var 4) .nil))))) (.call "_law_within" c__law_within (.cons (.var 1) (.cons (.var 5) (.cons (.var 3) (.cons (.var 4) .nil))))))))
def c_law : CF := .mk 1 ["script", "deal", "floor", "v", "w", "lattice", "times", "other"] (.cons t_law_1 (.cons t_law_2 (.cons t_law_3 (.cons t_law_4 (.cons t_law_5 (.cons t_law_6 (.cons t_law_7 (.cons t_law_8 (.cons t_law_9 (.cons t_law_10 (.cons t_law_11 (.cons t_law_12 (.cons t_law_13 (.cons t_law_14 .nil))))))))))))))
end K05

set_option maxRecDepth 100000
set_option maxHeartbeats 4000000
set_option exponentiation.threshold 2000
namespace K05
open PySem PySem.Spec L2 EL EX
open EN (run_far run_floor c__law_far c__law_floor)
def W (v : Vc) : Prop := v.1.natAbs < 2 ^ 90 ∧ v.2.natAbs < 2 ^ 90
theorem bd26 {x : Int} (h1 : -(10 ^ 26) < x) (h2 : x < 10 ^ 26) : x.natAbs < 2 ^ 88 := by
  have : (10 : Int) ^ 26 < 2 ^ 88 := by decide
  have e : ((2 ^ 88 : Nat) : Int) = 2 ^ 88 := by decide
  omega
theorem W.sm {v : Vc} (h : W v) : Sm v := by
  have p : (2 : Nat) ^ 90 ≤ 2 ^ 200 := by decide
  exact ⟨by have := h.1; omega, by have := h.2; omega⟩
theorem run_vector {d : Deal} (ha : d.at_ < 800000) : ∃ (v : Vc) (d' : Deal), run c__law_vector [d.pv] = .ok (sq v, [d'.pv]) ∧ (v.1.natAbs < 2 ^ 88 ∧ v.2.natAbs < 2 ^ 88) ∧ d'.at_ ≤ d.at_ + 15 := by
  by_cases h : d.tk 5 = 0
  · obtain ⟨x, d1, r1, x1, x2, hd1⟩ := run_far d.nx (by simp; omega)
    obtain ⟨y, d2, r2, y1, y2, hd2⟩ := run_far d1 (by simp at hd1; omega)
    refine ⟨(x, y), d2, ?_, ⟨bd26 x1 x2, bd26 y1 y2⟩, by simp at hd1; omega⟩
    simp (disch := first | decide | omega | (simp; omega)) [c__law_vector, run_mk, freeA, asgB, asgS, asgT, outs, asA, getA, getAs, rdS, mvS, lend, back, setT_v, int?, bool?, t_law_vector_1, t_law_vector_2, take_ok, h, r1, r2, sLen, sq_mk]
  · have a1 := d.nx.tk_nn (m := 15) (by decide)
    have a2 := d.nx.tk_lt (m := 15) (by decide)
    have a3 := d.nx.nx.tk_nn (m := 15) (by decide)
    have a4 := d.nx.nx.tk_lt (m := 15) (by decide)
    have p : 20 < (2 : Nat) ^ 88 := by decide
    refine ⟨(d.nx.tk 15 - 7, d.nx.nx.tk 15 - 7), d.nx.nx.nx, ?_, ⟨by simp only; omega, by simp only; omega⟩, by simp⟩
    simp (disch := first | decide | omega | (simp; omega)) [c__law_vector, run_mk, freeA, asgB, asgS, asgT, outs, asA, getA, getAs, rdS, mvS, lend, back, setT_v, int?, bool?, t_law_vector_1, t_law_vector_2, take_ok, h, sLen, sq_mk]
theorem mulW {i j : Int} (h1 : i.natAbs < 2 ^ 900) (h2 : j.natAbs < 2 ^ 900) : mulOk i j = true := by
  have p : (2 : Nat) ^ 900 ≤ 2 ^ 1000 := Nat.pow_le_pow_right (by decide) (by decide)
  exact mul_big (by omega) (by omega)
theorem p90 : (2 : Nat) ^ 90 ≤ 2 ^ 900 := Nat.pow_le_pow_right (by decide) (by decide)
theorem p200 : (2 : Nat) ^ 200 ≤ 2 ^ 900 := Nat.pow_le_pow_right (by decide) (by decide)
theorem run_two {d : Deal} (ha : d.at_ < 700000) : ∃ (v w : Vc) (d' : Deal), run c__law_two [d.pv] = .ok (.lst .own [sq v, sq w], [d'.pv]) ∧ W v ∧ W w ∧ det v w ≠ 0 ∧ d'.at_ ≤ d.at_ + 30 := by
  obtain ⟨v, d1, r1, v1, hd1⟩ := run_vector (d := d) (by omega)
  obtain ⟨w, d2, r2, w1, hd2⟩ := run_vector (d := d1) (by omega)
  have q := p90
  have p : (2 : Nat) ^ 88 + 1 ≤ 2 ^ 90 := by decide
  have m1 : mulOk v.1 w.2 = true := mulW (by omega) (by omega)
  have m2 : mulOk v.2 w.1 = true := mulW (by omega) (by omega)
  by_cases h : v.1 * w.2 = v.2 * w.1
  · refine ⟨(1 + v.1.natAbs, v.2), (0, 1 + w.2.natAbs), d2, ?_, ⟨by simp only; omega, by simp only; omega⟩, ⟨by simp only; omega, by simp only; omega⟩, ?_, by omega⟩
    · have ea : ∀ x : Int, (if x < 0 then -x else x) = (x.natAbs : Int) := fun x => by split <;> omega
      simp [c__law_two, run_mk, freeA, asgB, asgS, asgT, outs, asA, getA, getAs, rdS, mvS, lend, back, setT_v, int?, bool?, t_law_two_1, t_law_two_2, t_law_two_3, t_law_two_4, r1, r2, m1, m2, h, sLen, sq_mk, ea]
    · unfold det
      simp only [Int.mul_zero, Int.sub_zero]
      exact Int.mul_ne_zero (by omega) (by omega)
  · refine ⟨v, w, d2, ?_, ⟨by omega, by omega⟩, ⟨by omega, by omega⟩, by unfold det; omega, by omega⟩
    simp [c__law_two, run_mk, freeA, asgB, asgS, asgT, outs, asA, getA, getAs, rdS, mvS, lend, back, setT_v, int?, bool?, t_law_two_1, t_law_two_2, t_law_two_3, t_law_two_4, r1, r2, m1, m2, h, sLen]
theorem run_yes (a b : Bool) : run c__law_yes [.bl a, .bl b] = .ok (.bl (decide (a = b)), [.bl a, .bl b]) := by
  simp [c__law_yes, run_mk, freeA, asgB, asgS, asgT, outs, asA, getA, getAs, rdS, mvS, lend, back, setT_v, int?, bool?, t_law_yes_1, bltP, isTy]
def okL (L : Lt) : Bool := decide (1 ≤ L.a) && (decide (1 ≤ L.d) && (decide (0 ≤ L.b) && decide (L.b < L.d)))
theorem okL_of {L : Lt} (h : L.Ok) : okL L = true := by
  have := h.a0; have := h.d0; have := h.b0; have := h.b1
  simp [okL]; omega
theorem run_islat (L : Lt) : run c_is_lattice [L.pv] = .ok (.bl (okL L), [L.pv]) := by
  unfold okL
  by_cases h1 : 1 ≤ L.a <;> by_cases h2 : 1 ≤ L.d <;> by_cases h3 : 0 ≤ L.b <;> simp [c_is_lattice, run_mk, freeA, asgB, asgS, asgT, outs, asA, getA, getAs, rdS, mvS, lend, back, setT_v, int?, bool?, t_is_lattice_1, t_is_lattice_2, Lt.pv, setT, h1, h2, h3]
theorem run_law_islat {L : Lt} (h : L.Ok) : run c__law_is_lattice [L.pv] = .ok (.bl true, [L.pv]) := by
  have h1 : 1 ≤ L.a := h.a0
  have h2 : 1 ≤ L.d := h.d0
  have h3 := h.b0
  have h4 := h.b1
  have e1 : ex t_law_is_lattice_1 [some L.pv, none] = .ok (.nxt, [some L.pv, none]) := by
    simp [t_law_is_lattice_1, asA, getA, getAs, bltP, isTy, Lt.pv]
  have q : ∀ (i : Int) (x : Option PV), forB (.var 1) t_law_is_lattice_2B (.int i) [some L.pv, x] = .ok (.nxt, [some L.pv, some (.int i)]) := fun i x => by
    show exs t_law_is_lattice_2B [some L.pv, some (.int i)] = _
    simp [t_law_is_lattice_2B, t_law_is_lattice_2_1, asA, getA, getAs, bltP, isTy]
  have e2 : ex t_law_is_lattice_2 [some L.pv, none] = .ok (.nxt, [some L.pv, some (.int L.d)]) := by
    unfold t_law_is_lattice_2
    refine ex_for (en' := [some L.pv, none]) (xs := [.int L.a, .int L.b, .int L.d]) (evI_val (v := L.pv) (by simp [rdS]) rfl) ?_
    rw [loopF_nxt (q _ _), loopF_nxt (q _ _), loopF_nxt (q _ _), loopF_nil]
  refine run_ok rfl (by decide) (by simp [freeA, asgB, asgS, asgT, t_law_is_lattice_1, t_law_is_lattice_2_1, t_law_is_lattice_2B, t_law_is_lattice_2, t_law_is_lattice_3]) ((exs_step e1).trans <| (exs_step e2).trans <| exs_ret (env' := [some L.pv, some (.int L.d)]) (by simp [t_law_is_lattice_3, asA, getA, Lt.pv, h1, h2, h3, h4])) (by simp [outs])
def sm (v w : Vc) (i j : Int) : Vc := (i * v.1 + j * w.1, i * v.2 + j * w.2)
theorem run_sum {v w : Vc} {i j : Int} (hv : W v) (hw : W w) (hi : i.natAbs < 2 ^ 90) (hj : j.natAbs < 2 ^ 90) : run c__law_sum [sq v, sq w, .int i, .int j] = .ok (sq (sm v w i j), [sq v, sq w, .int i, .int j]) := by
  have q := p90
  have m1 : mulOk i v.1 = true := mulW (by omega) (by have := hv.1; omega)
  have m2 : mulOk j w.1 = true := mulW (by omega) (by have := hw.1; omega)
  have m3 : mulOk i v.2 = true := mulW (by omega) (by have := hv.2; omega)
  have m4 : mulOk j w.2 = true := mulW (by omega) (by have := hw.2; omega)
  simp [c__law_sum, run_mk, freeA, asgB, asgS, asgT, outs, asA, getA, getAs, rdS, mvS, lend, back, setT_v, int?, bool?, t_law_sum_1, m1, m2, m3, m4, sLen, sq_mk, sm]
theorem sm_Cb (v w : Vc) (i j : Int) : Cb v w (sm v w i j) := ⟨i, j, rfl, rfl⟩
theorem sm_bd {v w : Vc} {i j : Int} (hv : W v) (hw : W w) (hi : i.natAbs < 2 ^ 90) (hj : j.natAbs < 2 ^ 90) : (sm v w i j).1.natAbs < 2 ^ 182 ∧ (sm v w i j).2.natAbs < 2 ^ 182 := by
  have h1 := nat_mul_lt hi hv.1
  have h2 := nat_mul_lt hj hw.1
  have h3 := nat_mul_lt hi hv.2
  have h4 := nat_mul_lt hj hw.2
  have p : (2 : Nat) ^ (90 + 90) + 2 ^ (90 + 90) ≤ 2 ^ 182 := by decide
  have e1 := Int.natAbs_add_le (i * v.1) (j * w.1)
  have e2 := Int.natAbs_add_le (i * v.2) (j * w.2)
  rw [Int.natAbs_mul, Int.natAbs_mul] at e1 e2
  exact ⟨by unfold sm; simp only; omega, by unfold sm; simp only; omega⟩
def isS (v w t : Vc) : Bool := decide ((det t w).fmod (det v w) = 0) && decide ((det v t).fmod (det v w) = 0)
theorem isS_iff {v w : Vc} (h : det v w ≠ 0) (t : Vc) : isS v w t = true ↔ Cb v w t := by
  unfold isS
  rw [Bool.and_eq_true, decide_eq_true_eq, decide_eq_true_eq, fmod_dvd, fmod_dvd, cramer h]
theorem run_is_sum {v w t : Vc} (hv : W v) (hw : W w) (hd : det v w ≠ 0) (ht : t.1.natAbs < 2 ^ 900 ∧ t.2.natAbs < 2 ^ 900) : run c__law_is_sum [sq v, sq w, sq t] = .ok (.bl (isS v w t), [sq v, sq w, sq t]) := by
  have q := p90
  have a1 := hv.1; have a2 := hv.2; have a3 := hw.1; have a4 := hw.2
  have m1 : mulOk v.1 w.2 = true := mulW (by omega) (by omega)
  have m2 : mulOk v.2 w.1 = true := mulW (by omega) (by omega)
  have m3 : mulOk t.1 w.2 = true := mulW (by omega) (by omega)
  have m4 : mulOk t.2 w.1 = true := mulW (by omega) (by omega)
  have m5 : mulOk v.1 t.2 = true := mulW (by omega) (by omega)
  have m6 : mulOk v.2 t.1 = true := mulW (by omega) (by omega)
  have e1 : ex t_law_is_sum_1 [some (sq v), some (sq w), some (sq t), none] = .ok (.nxt, [some (sq v), some (sq w), some (sq t), some (.int (det v w))]) := by
    simp [t_law_is_sum_1, asA, getA, m1, m2, setT_v, det]
  refine run_ok (en := [some (sq v), some (sq w), some (sq t), some (.int (det v w))]) rfl (by decide) (by simp [freeA, asgB, asgS, asgT, t_law_is_sum_1, t_law_is_sum_2]) ((exs_step e1).trans <| exs_ret ?_) (by simp [outs])
  unfold isS
  have u1 : t.1 * w.2 - t.2 * w.1 = det t w := rfl
  have u2 : v.1 * t.2 - v.2 * t.1 = det v t := rfl
  by_cases h : (det t w).fmod (det v w) = 0 <;> simp [t_law_is_sum_2, asA, getA, m3, m4, m5, m6, hd, u1, u2, h]
theorem run_law_has {L : Lt} (hL : L.Ok) (h : L.Sz) {y x : Int} (ht : y.natAbs < 2 ^ 900) : run c__law_has [L.pv, .int y, .int x] = .ok (.bl (L.hasB (y, x)), [L.pv, .int y, .int x]) := by
  have p : (2 : Nat) ^ 900 + 2 ^ 900 ≤ 2 ^ 1000 := by
    have : (2 : Nat) ^ 901 ≤ 2 ^ 1000 := Nat.pow_le_pow_right (by decide) (by decide)
    rw [Nat.pow_succ] at this; omega
  have a0 := hL.a0; have d0 := hL.d0
  have sa := h.a; have sb := h.b; have sd := h.d
  have ha : ¬ (L.a = 0) := by omega
  have hd : ¬ (L.d = 0) := by omega
  have f := fdiv_bd y ha
  have m := mul_big (i := y.fdiv L.a) (j := L.b) (by omega) (by omega)
  have dv := div_ok ha (by omega)
  unfold Lt.hasB
  by_cases h1 : y.fmod L.a = 0 <;> simp [c__law_has, run_mk, freeA, asgB, asgS, asgT, outs, asA, getA, getAs, rdS, mvS, lend, back, setT_v, int?, bool?, t_law_has_1, t_law_has_2, Lt.pv, setT, ha, hd, m, dv, h1]
theorem same_L (L : Lt) : prSame [L.pv, L.pv] = some (.bl true) := by
  have := same_tupL (α := Int) [L.a, L.b, L.d] [L.a, L.b, L.d] (by simp)
  rw [decide_eq_true rfl] at this
  exact this
theorem same_i (i : Int) : prSame [.int i, .int i] = some (.bl true) := by
  have := same_pv (α := Int) i i
  rw [decide_eq_true rfl] at this
  exact this
theorem same_ij (i j : Int) : prSame [.int i, .int j] = some (.bl (decide (i = j))) := same_pv (α := Int) i j
/-- a lattice that two vectors span -/
structure Sp (v w : Vc) (L : Lt) : Prop where
  ok : L.Ok
  sz : L.Sz
  hs : ∀ u, L.has u ↔ Cb v w u
  ix : L.a * L.d = (det v w).natAbs
theorem Sp.hasB {v w : Vc} {L : Lt} (h : Sp v w L) (hd : det v w ≠ 0) (t : Vc) : L.hasB t = isS v w t := by
  rw [Bool.eq_iff_iff, Lt.hasB_iff (by have := h.ok.a0; omega), h.hs, isS_iff hd]
theorem Sp.has {v w : Vc} {L : Lt} (h : Sp v w L) {t : Vc} (ht : Cb v w t) : L.hasB t = true := by
  rw [Lt.hasB_iff (by have := h.ok.a0; omega), h.hs]; exact ht
end K05

set_option maxRecDepth 100000
namespace K06
open PySem EL
open EX (c_basis_of c_common_form c_index_of c_has_vector c_is_within)
open K05 (c__law_has c__law_is_lattice)
def t_law_size_1 : CS := (.ite (.cmp .eq (.call "_law_take" c__law_take (.cons (.var 0) (.cons (.lit (.int 8)) .nil))) (.lit (.int 0))) (.cons (.ret (.yes (.bin .add (.lit (.int 1)) (.call "_law_take" c__law_take (.cons (.var 0) (.cons (.lit (.int 12)) .nil)))))) .nil) .nil)
def t_law_size_2 : CS := (.ret (.yes (.bin .add (.lit (.int 1)) (.call "_law_take" c__law_take (.cons (.var 0) (.cons (.lit (.int 4)) .nil))))))
def c__law_size : CF := .mk 1 ["deal"] (.cons t_law_size_1 (.cons t_law_size_2 .nil))
def t_law_drawn_1 : CS := (.asg (.var 1) (.call "_law_size" c__law_size (.cons (.var 0) .nil)))
def t_law_drawn_2 : CS := (.ret (.yes (.tup (.cons (.call "_law_size" c__law_size (.cons (.var 0) .nil)) (.cons (.call "_law_take" c__law_take (.cons (.var 0) (.cons (.var 1) .nil))) (.cons (.var 1) .nil))))))
def c__law_drawn : CF := .mk 1 ["deal", "d"] (.cons t_law_drawn_1 (.cons t_law_drawn_2 .nil))
def t_law_meeting_1 : CS := (.asg (.var 2) (.idx (.var 0) (.lit (.int 2))))
def t_law_meeting_2_1 : CS := (.ite (.cmp .ne (.bin .mod (.var 2) (.idx (.var 1) (.lit (.int 2)))) (.lit (.int 0))) (.cons (.asg (.var 2) (.bin .add (.var 2) (.idx (.var 0) (.lit (.int 2))))) .nil) .nil)
def t_law_meeting_2B : CSs := (.cons t_law_meeting_2_1 .nil)
def t_law_meeting_2 : CS := (.for_ (.var 3) (.rng1 (.idx (.var 1) (.lit (.int 2)))) t_law_meeting_2B)
def t_law_meeting_3_1 : CS := (.asg (.var 4) (.bin .mul (.var 3) (.idx (.var 0) (.lit (.int 0)))))
def t_law_meeting_3_2a_1_1 : CS := (.ite (.and (.call "_law_has" c__law_has (.cons (.var 0) (.cons (.var 4) (.cons (.var 5) .nil)))) (.call "_law_has" c__law_has (.cons (.var 1) (.cons (.var 4) (.cons (.var 5) .nil))))) (.cons (.ret (.yes (.tup (.cons (.mv 4) (.cons (.mv 5) (.cons (.mv 2) .nil)))))) .nil) .nil)
def t_law_meeting_3_2a_1B : CSs := (.cons t_law_meeting_3_2a_1_1 .nil)
def t_law_meeting_3_2a_1 : CS := (.for_ (.var 5) (.rng1 (.var 2)) t_law_meeting_3_2a_1B)
def t_law_meeting_3_2aB : CSs := (.cons t_law_meeting_3_2a_1 .nil)
def t_law_meeting_3_2 : CS := (.ite (.cmp .eq (.bin .mod (.var 4) (.idx (.var 1) (.lit (.int 0)))) (.lit (.int 0))) t_law_meeting_3_2aB .nil)
def t_law_meeting_3B : CSs := (.cons t_law_meeting_3_1 (.cons t_law_meeting_3_2 .nil))
def t_law_meeting_3 : CS := (.for_ (.var 3) (.rng2 (.lit (.int 1)) (.bin .add (.bin .mul (.idx (.var 1) (.lit (.int 0))) (.idx (.var 1) (.lit (.int 2)))) (.lit (.int 1)))) t_law_meeting_3B)
def t_law_meeting_4 : CS := (.ret (.yes (.tup (.cons (.lit (.int 0)) (.cons (.lit (.int 0)) (.cons (.lit (.int 0)) .nil))))))
def c__law_meeting : CF := .mk 2 ["one", "other", "wide", "k", "y", "x"] (.cons t_law_meeting_1 (.cons t_law_meeting_2 (.cons t_law_meeting_3 (.cons t_law_meeting_4 .nil))))
def t_with_vector_1 : CS := (.asg (.tup [2, 3, 4]) (.var 0))
def t_with_vector_2 : CS := (.asg (.tup [5, 6, 7]) (.call "common_form" c_common_form (.cons (.tup (.cons (.var 2) (.cons (.var 3) .nil))) (.cons (.var 1) .nil))))
def t_with_vector_3_1 : CS := (.par 4 7 (.var 7) (.bin .mod (.var 4) (.var 7)))
def t_with_vector_3B : CSs := (.cons t_with_vector_3_1 .nil)
def t_with_vector_3 : CS := (.whl (.cmp .ne (.var 7) (.lit (.int 0))) t_with_vector_3B)
def t_with_vector_4 : CS := (.ret (.yes (.tup (.cons (.mv 5) (.cons (.bin .mod (.var 6) (.var 4)) (.cons (.var 4) .nil))))))
def c_with_vector : CF := .mk 2 ["lattice", "vector", "a", "b", "d", "high", "middle", "low"] (.cons t_with_vector_1 (.cons t_with_vector_2 (.cons t_with_vector_3 (.cons t_with_vector_4 .nil))))
def t_lattice_sum_1_1 : CS := (.asg (.var 0) (.call "with_vector" c_with_vector (.cons (.var 0) (.cons (.var 2) .nil))))
def t_lattice_sum_1B : CSs := (.cons t_lattice_sum_1_1 .nil)
def t_lattice_sum_1 : CS := (.for_ (.var 2) (.val (.call "basis_of" c_basis_of (.cons (.var 1) .nil))) t_lattice_sum_1B)
def t_lattice_sum_2 : CS := (.ret (.yes (.var 0)))
def c_lattice_sum : CF := .mk 2 ["lattice", "other", "vector"] (.cons t_lattice_sum_1 (.cons t_lattice_sum_2 .nil))
def t_law_holds_1 : CS := (.ret (.yes (.and (.call "_law_has" c__law_has (.cons (.var 0) (.cons (.idx (.var 1) (.lit (.int 0))) (.cons (.idx (.var 1) (.lit (.int 1))) .nil)))) (.call "_law_has" c__law_has (.cons (.var 0) (.cons (.lit (.int 0)) (.cons (.idx (.var 1) (.lit (.int 2))) .nil)))))))
def c__law_holds : CF := .mk 2 ["lattice", "part"] (.cons t_law_holds_1 .nil)
def t_law_parted_1_1a_1_1 : CS := (.ite (.call "_law_has" c__law_has (.cons (.var 1) (.cons (.bin .sub (.var 2) (.bin .mul (.var 4) (.idx (.var 0) (.lit (.int 0))))) (.cons (.bin .sub (.bin .sub (.var 3) (.bin .mul (.var 4) (.idx (.var 0) (.lit (.int 1))))) (.bin .mul (.var 5) (.idx (.var 0) (.lit (.int 2))))) .nil)))) (.cons (.ret (.yes (.lit (.bl true)))) .nil) .nil)
def t_law_parted_1_1a_1B : CSs := (.cons t_law_parted_1_1a_1_1 .nil)
def t_law_parted_1_1a_1 : CS := (.for_ (.var 5) (.rng1 (.idx (.var 1) (.lit (.int 2)))) t_law_parted_1_1a_1B)
def t_law_parted_1_1aB : CSs := (.cons t_law_parted_1_1a_1 .nil)
def t_law_parted_1_1 : CS := (.ite (.cmp .eq (.bin .mod (.bin .sub (.var 2) (.bin .mul (.var 4) (.idx (.var 0) (.lit (.int 0))))) (.idx (.var 1) (.lit (.int 0)))) (.lit (.int 0))) t_law_parted_1_1aB .nil)
def t_law_parted_1B : CSs := (.cons t_law_parted_1_1 .nil)
def t_law_parted_1 : CS := (.for_ (.var 4) (.rng1 (.bin .mul (.idx (.var 1) (.lit (.int 0))) (.idx (.var 1) (.lit (.int 2))))) t_law_parted_1B)
def t_law_parted_2 : CS := (.ret (.yes (.lit (.bl false))))
def c__law_parted : CF := .mk 4 ["one", "other", "y", "x", "i", "j"] (.cons t_law_parted_1 (.cons t_law_parted_2 .nil))
def t_lattice_meeting_1 : CS := (.asg (.var 2) (.idx (.var 0) (.lit (.int 2))))
def t_lattice_meeting_2_1 : CS := (.asg (.var 2) (.bin .add (.var 2) (.idx (.var 0) (.lit (.int 2)))))
def t_lattice_meeting_2B : CSs := (.cons t_lattice_meeting_2_1 .nil)
def t_lattice_meeting_2 : CS := (.whl (.cmp .ne (.bin .mod (.var 2) (.idx (.var 1) (.lit (.int 2)))) (.lit (.int 0))) t_lattice_meeting_2B)
def t_lattice_meeting_3 : CS := (.asg (.var 3) (.idx (.var 0) (.lit (.int 0))))
def t_lattice_meeting_4_1a_1_1 : CS := (.ite (.and (.call "has_vector" c_has_vector (.cons (.var 0) (.cons (.tup (.cons (.var 3) (.cons (.var 4) .nil))) .nil))) (.call "has_vector" c_has_vector (.cons (.var 1) (.cons (.tup (.cons (.var 3) (.cons (.var 4) .nil))) .nil)))) (.cons (.ret (.yes (.tup (.cons (.mv 3) (.cons (.mv 4) (.cons (.mv 2) .nil)))))) .nil) .nil)
def t_lattice_meeting_4_1a_1B : CSs := (.cons t_lattice_meeting_4_1a_1_1 .nil)
def t_lattice_meeting_4_1a_1 : CS := (.for_ (.var 4) (.rng1 (.var 2)) t_lattice_meeting_4_1a_1B)
def t_lattice_meeting_4_1aB : CSs := (.cons t_lattice_meeting_4_1a_1 .nil)
def t_lattice_meeting_4_1 : CS := (.ite (.cmp .eq (.bin .mod (.var 3) (.idx (.var 1) (.lit (.int 0)))) (.lit (.int 0))) t_lattice_meeting_4_1aB .nil)
def t_lattice_meeting_4_2 : CS := (.asg (.var 3) (.bin .add (.var 3) (.idx (.var 0) (.lit (.int 0)))))
def t_lattice_meeting_4B : CSs := (.cons t_lattice_meeting_4_1 (.cons t_lattice_meeting_4_2 .nil))
def t_lattice_meeting_4 : CS := (.whl (.lit (.bl true)) t_lattice_meeting_4B)
def c_lattice_meeting : CF := .mk 2 ["lattice", "other", "width", "height", "column"] (.cons t_lattice_meeting_1 (.cons t_lattice_meeting_2 (.cons t_lattice_meeting_3 (.cons t_lattice_meeting_4 .nil))))
def t_law_yes_1 : CS := (.ret (.yes (.and (.blt (.isi "bool") (.cons (.var 0) .nil)) (.var 0))))
def c__law_yes : CF := .mk 1 ["told"] (.cons t_law_yes_1 .nil)
def t_law_1 : CS := (.asg (.var 1) (.call "_law_deal" c__law_deal (.cons (.var 0) .nil)))
def t_law_2 : CS := (.asg (.var 2) (.call "_law_drawn" c__law_drawn (.cons (.var 1) .nil)))
def t_law_3 : CS := (.asg (.var 3) (.call "_law_drawn" c__law_drawn (.cons (.var 1) .nil)))
def t_law_4 : CS := (.asg (.var 4) (.call "_law_meeting" c__law_meeting (.cons (.var 2) (.cons (.var 3) .nil))))
def t_law_5 : CS := (.ite (.or (.not (.prm "_law_same" prSame (.cons (.call "lattice_meeting" c_lattice_meeting (.cons (.var 2) (.cons (.var 3) .nil))) (.cons (.var 4) .nil)))) (.not (.prm "_law_same" prSame (.cons (.call "lattice_meeting" c_lattice_meeting (.cons (.var 3) (.cons (.var 2) .nil))) (.cons (.var 4) .nil))))) (.cons (.ret (.yes (.lit (.bl false)))) .nil) .nil)
def t_law_6 : CS := (.asg (.var 5) (.call "lattice_sum" c_lattice_sum (.cons (.var 2) (.cons (.var 3) .nil))))
def t_law_7 : CS := (.ite (.or (.not (.call "_law_is_lattice" c__law_is_lattice (.cons (.var 5) .nil))) (.or (.not (.call "_law_holds" c__law_holds (.cons (.var 5) (.cons (.var 2) .nil)))) (.not (.call "_law_holds" c__law_holds (.cons (.var 5) (.cons (.var 3) .nil)))))) (.cons (.ret (.yes (.lit (.bl false)))) .nil) .nil)
def t_law_8 : CS := (.ite (.or (.not (.call "_law_parted" c__law_parted (.cons (.var 2) (.cons (.var 3) (.cons (.idx (.var 5) (.lit (.int 0))) (.cons (.idx (.var 5) (.lit (.int 1))) .nil)))))) (.not (.call "_law_parted" c__law_parted (.cons (.var 2) (.cons (.var 3) (.cons (.lit (.int 0)) (.cons (.idx (.var 5) (.lit (.int 2))) .nil))))))) (.cons (.ret (.yes (.lit (.bl false)))) .nil) .nil)
def t_law_9 : CS := (.ite (.not (.prm "_law_same" prSame (.cons (.call "lattice_sum" c_lattice_sum (.cons (.var 3) (.cons (.var 2) .nil))) (.cons (.var 5) .nil)))) (.cons (.ret (.yes (.lit (.bl false)))) .nil) .nil)
def t_law_10_1 : CS := (.ite (.not (.prm "_law_same" prSame (.cons (.call "lattice_meeting" c_lattice_meeting (.cons (.var 6) (.cons (.var 6) .nil))) (.cons (.var 6) .nil)))) (.cons (.ret (.yes (.lit (.bl false)))) .nil) .nil)
def t_law_10_2 : CS := (.ite (.not (.prm "_law_same" prSame (.cons (.call "lattice_sum" c_lattice_sum (.cons (.var 6) (.cons (.var 6) .nil))) (.cons (.var 6) .nil)))) (.cons (.ret (.yes (.lit (.bl false)))) .nil) .nil)
def t_law_10_3 : CS := (.ite (.not (.prm "_law_same" prSame (.cons (.call "lattice_meeting" c_lattice_meeting (.cons (.var 6) (.cons (.var 5) .nil))) (.cons (.var 6) .nil)))) (.cons (.ret (.yes (.lit (.bl false)))) .nil) .nil)
def t_law_10_4 : CS := (.ite (.not (.prm "_law_same" prSame (.cons (.call "lattice_sum" c_lattice_sum (.cons (.var 4) (.cons (.var 6) .nil))) (.cons (.var 6) .nil)))) (.cons (.ret (.yes (.lit (.bl false)))) .nil) .nil)
def t_law_10_5 : CS := (.ite (.or (.not (.call "_law_yes" c__law_yes (.cons (.call "is_within" c_is_within (.cons (.var 6) (.cons (.var 5) .nil))) .nil))) (.not (.call "_law_yes" c__law_yes (.cons (.call "is_within" c_is_within (.cons (.var 4) (.cons (.var 6) .nil))) .nil)))) (.cons (.ret (.yes (.lit (.bl false)))) .nil) .nil)
def t_law_10B : CSs := (.cons t_law_10_1 (.cons t_law_10_2 (.cons t_law_10_3 (.cons t_law_10_4 (.cons t_law_10_5 .nil)))))
def t_law_10 : CS := (.for_ (.var 6) (.val (.lst false (.cons (.var 2) (.cons (.var 3) .nil)))) t_law_10B)
def t_law_11 : CS := (.asg (.var 7) (.bin .mul (.call "index_of" c_index_of (.cons (.var 2) .nil)) (.call "index_of" c_index_of (.cons (.var 3) .nil))))
def t_law_12 : CS := (.ret (.yes (.and (.prm "_law_same" prSame (.cons (.bin .mul (.call "index_of" c_index_of (.cons (.var 4) .nil)) (.call "index_of" c_index_of (.cons (.var 5) .nil))) (.cons (.var 7) .nil))) (.cmp .eq (.var 7) (.bin .mul (.bin .mul (.bin .mul (.idx (.var 2) (.lit (.int 0))) (.idx (.var 2) (.lit (.int 2)))) (.idx (.var 3) (.lit (.int 0)))) (.idx (.var 3) (.lit (.int 2))))))))
def c_law : CF := .mk 1 ["script", "deal", "one", "other", "common", "whole", "lattice", "product"] (.cons t_law_1 (.cons t_law_2 (.cons t_law_3 (.cons t_law_4 (.cons t_law_5 (.cons t_law_6 (.cons t_law_7 (.cons t_law_8 (.cons t_law_9 (.cons t_law_10 (.cons t_law_11 (.cons t_law_12 .nil))))))))))))
end K06

set_option maxRecDepth 100000
set_option maxHeartbeats 4000000
set_option exponentiation.threshold 1000
namespace K06
open PySem PySem.Spec L2 EL EX
/-! ### lattices: what both have, what they span -/
theorem has_iff {L : Lt} {y x : Int} : L.has (y, x) ↔ ∃ p q : Int, y = p * L.a ∧ x = p * L.b + q * L.d := by
  unfold Lt.has Cb
  constructor
  · rintro ⟨p, q, h1, h2⟩
    exact ⟨p, q, by simpa using h1, h2⟩
  · rintro ⟨p, q, h1, h2⟩
    exact ⟨p, q, by simpa using h1, h2⟩
theorem has_add {L : Lt} {y x y' x' : Int} (h : L.has (y, x)) (h' : L.has (y', x')) : L.has (y + y', x + x') := by
  obtain ⟨p, q, rfl, rfl⟩ := has_iff.mp h
  obtain ⟨p', q', rfl, rfl⟩ := has_iff.mp h'
  exact has_iff.mpr ⟨p + p', q + q', by rw [Int.add_mul], by rw [Int.add_mul, Int.add_mul]; omega⟩
theorem has_mul {L : Lt} {y x : Int} (k : Int) (h : L.has (y, x)) : L.has (k * y, k * x) := by
  obtain ⟨p, q, rfl, rfl⟩ := has_iff.mp h
  exact has_iff.mpr ⟨k * p, k * q, by rw [Int.mul_assoc], by rw [Int.mul_add, Int.mul_assoc, Int.mul_assoc]⟩
theorem has_0 {L : Lt} (hL : L.Ok) {x : Int} : L.has (0, x) ↔ L.d ∣ x := by
  have ha := hL.a0
  constructor
  · intro h
    obtain ⟨p, q, h1, h2⟩ := has_iff.mp h
    have : p = 0 := by
      rcases Int.mul_eq_zero.mp h1.symm with h | h
      · exact h
      · omega
    subst this
    exact ⟨q, by rw [h2]; rw [Int.zero_mul, Int.zero_add, Int.mul_comm]⟩
  · rintro ⟨q, rfl⟩
    exact has_iff.mpr ⟨0, q, by simp, by rw [Int.zero_mul, Int.zero_add, Int.mul_comm]⟩
theorem has_1 (L : Lt) : L.has (L.a, L.b) := has_iff.mpr ⟨1, 0, by simp, by simp⟩
theorem has_2 (L : Lt) : L.has (0, L.d) := has_iff.mpr ⟨0, 1, by simp, by simp⟩
def W (L K : Lt) : Int := (Int.lcm L.d K.d : Nat)
theorem W_pos {L K : Lt} (hL : L.Ok) (hK : K.Ok) : 0 < W L K := by
  have h1 := hL.d0
  have h2 := hK.d0
  have := Int.lcm_pos (m := L.d) (n := K.d) (by omega) (by omega)
  unfold W; omega
theorem W_l (L K : Lt) : L.d ∣ W L K := Int.dvd_lcm_left _ _
theorem W_r (L K : Lt) : K.d ∣ W L K := Int.dvd_lcm_right _ _
theorem W_le {L K : Lt} (hL : L.Ok) (hK : K.Ok) : W L K ≤ L.d * K.d := by
  have h1 := hL.d0
  have h2 := hK.d0
  exact Int.le_of_dvd (Int.mul_pos h1 h2) (Int.coe_lcm_dvd (Int.dvd_mul_right _ _) (Int.dvd_mul_left _ _))
theorem W_of {L K : Lt} (hL : L.Ok) (hK : K.Ok) {j : Int} (hj : 0 < j) (hd : K.d ∣ j * L.d) (hm : ∀ i, 0 < i → i < j → ¬ K.d ∣ i * L.d) : j * L.d = W L K := by
  have hd0 := hL.d0
  obtain ⟨i, hi⟩ := W_l L K
  have hp := W_pos hL hK
  have hi0 : 0 < i := by
    rcases Int.lt_or_le 0 i with h | h
    · exact h
    · have : L.d * i ≤ 0 := Int.mul_nonpos_of_nonneg_of_nonpos (by omega) h
      omega
  have h1 : ¬ i < j := fun h => hm i hi0 h (by rw [Int.mul_comm, ← hi]; exact W_r L K)
  have h2 : W L K ∣ j * L.d := Int.coe_lcm_dvd (Int.dvd_mul_left _ _) hd
  have h3 := Int.le_of_dvd (Int.mul_pos hj hd0) h2
  have h4 : j * L.d ≤ i * L.d := Int.mul_le_mul_of_nonneg_right (by omega) (by omega)
  rw [Int.mul_comm i, ← hi] at h4
  omega
def bothB (L K : Lt) (y x : Int) : Bool := L.hasB (y, x) && K.hasB (y, x)
theorem both_iff {L K : Lt} (hL : L.Ok) (hK : K.Ok) {y x : Int} : bothB L K y x = true ↔ L.has (y, x) ∧ K.has (y, x) := by
  unfold bothB
  rw [Bool.and_eq_true, Lt.hasB_iff (by have := hL.a0; omega), Lt.hasB_iff (by have := hK.a0; omega)]
/-- the first that both have -/
structure Fst (L K : Lt) (k x : Int) : Prop where
  k0 : 0 < k
  x0 : 0 ≤ x
  x1 : x < W L K
  h1 : L.has (k * L.a, x)
  h2 : K.has (k * L.a, x)
  mn : ∀ i, 0 < i → i < k → ∀ z, 0 ≤ z → z < W L K → ¬ (L.has (i * L.a, z) ∧ K.has (i * L.a, z))
theorem has_modW {L K : Lt} (hL : L.Ok) (hK : K.Ok) {y x : Int} (h : L.has (y, x)) (h' : K.has (y, x)) : 0 ≤ x % W L K ∧ x % W L K < W L K ∧ L.has (y, x % W L K) ∧ K.has (y, x % W L K) := by
  have hp := W_pos hL hK
  have e : x % W L K = x + (-(x / W L K)) * W L K := by
    have := Int.mul_ediv_add_emod x (W L K)
    rw [Int.neg_mul, Int.mul_comm (x / W L K)]; omega
  refine ⟨Int.emod_nonneg _ (by omega), Int.emod_lt_of_pos _ hp, ?_, ?_⟩
  · rw [e]
    have := has_add h ((has_0 hL).mpr (Int.dvd_trans (W_l L K) (Int.dvd_mul_left (-(x / W L K)) _)))
    simpa using this
  · rw [e]
    have := has_add h' ((has_0 hK).mpr (Int.dvd_trans (W_r L K) (Int.dvd_mul_left (-(x / W L K)) _)))
    simpa using this
theorem fst_ex {L K : Lt} (hL : L.Ok) (hK : K.Ok) : ∃ z, 0 ≤ z ∧ z < W L K ∧ L.has (K.a * K.d * L.a, z) ∧ K.has (K.a * K.d * L.a, z) := by
  have h1 : L.has (K.a * K.d * L.a, K.a * K.d * L.b) := has_mul _ (has_1 L)
  have h2 : K.has (K.a * K.d * L.a, K.a * K.d * L.b) := by
    refine has_iff.mpr ⟨K.d * L.a, K.a * L.b - L.a * K.b, by rw [Int.mul_comm K.a, Int.mul_right_comm], ?_⟩
    rw [Int.sub_mul]
    have e1 : K.d * L.a * K.b = L.a * K.b * K.d := by rw [Int.mul_comm K.d, Int.mul_right_comm]
    have e2 : K.a * K.d * L.b = K.a * L.b * K.d := Int.mul_right_comm _ _ _
    omega
  obtain ⟨a, b, c, d⟩ := has_modW hL hK h1 h2
  exact ⟨_, a, b, c, d⟩
theorem Fst.meet {L K : Lt} (hL : L.Ok) (hK : K.Ok) {k x : Int} (h : Fst L K k x) (t : Vc) : (Lt.mk (k * L.a) x (W L K)).has t ↔ L.has t ∧ K.has t := by
  have hp := W_pos hL hK
  obtain ⟨u, v⟩ := t
  constructor
  · intro ht
    obtain ⟨p, q, e1, e2⟩ := has_iff.mp ht
    simp only at e1 e2
    subst e1; subst e2
    refine ⟨?_, ?_⟩
    · have := has_add (has_mul p h.h1) ((has_0 hL).mpr (Int.dvd_trans (W_l L K) (Int.dvd_mul_left q _)))
      simpa using this
    · have := has_add (has_mul p h.h2) ((has_0 hK).mpr (Int.dvd_trans (W_r L K) (Int.dvd_mul_left q _)))
      simpa using this
  · rintro ⟨g1, g2⟩
    obtain ⟨p, q, rfl, _⟩ := has_iff.mp g1
    have hk := h.k0
    have hr0 := Int.emod_nonneg p (by omega : k ≠ 0)
    have hr1 := Int.emod_lt_of_pos p hk
    have er := Int.mul_ediv_add_emod p k
    have f1 := has_add g1 (has_mul (-(p / k)) h.h1)
    have f2 := has_add g2 (has_mul (-(p / k)) h.h2)
    have e1 : p * L.a + -(p / k) * (k * L.a) = p % k * L.a := by
      have : p * L.a = (k * (p / k) + p % k) * L.a := by rw [er]
      rw [this, Int.add_mul, ← Int.mul_assoc, Int.neg_mul, Int.neg_mul, Int.mul_comm (p / k) k]
      omega
    rw [e1] at f1 f2
    obtain ⟨z0, z1, g3, g4⟩ := has_modW hL hK f1 f2
    have hr : p % k = 0 := by
      rcases Int.lt_or_eq_of_le hr0 with h0 | h0
      · exact absurd ⟨g3, g4⟩ (h.mn _ h0 hr1 _ z0 z1)
      · exact h0.symm
    rw [hr, Int.zero_mul] at f1 f2
    have d1 := (has_0 hL).mp f1
    have d2 := (has_0 hK).mp f2
    obtain ⟨c, hc⟩ : W L K ∣ v + -(p / k) * x := Int.coe_lcm_dvd d1 d2
    refine has_iff.mpr ⟨p / k, c, ?_, ?_⟩
    · show p * L.a = p / k * (k * L.a)
      rw [← Int.mul_assoc, Int.mul_comm (p / k) k]
      rw [hr, Int.add_zero] at er
      rw [er]
    · show v = p / k * x + c * W L K
      rw [Int.mul_comm c, ← hc, Int.neg_mul]; omega
theorem Fst.ok {L K : Lt} (hL : L.Ok) {k x : Int} (h : Fst L K k x) : (Lt.mk (k * L.a) x (W L K)).Ok :=
  ⟨Int.mul_pos h.k0 hL.a0, by have := h.x0; have := h.x1; show 0 < W L K; omega, h.x0, h.x1⟩
/-! ### the indices -/
theorem bezN (m n : Nat) : ∃ p q : Int, ((Nat.gcd m n : Nat) : Int) = p * m + q * n := by
  induction m, n using Nat.gcd.induction with
  | H0 n => exact ⟨0, 1, by simp⟩
  | H1 m n h ih =>
    obtain ⟨p, q, e⟩ := ih
    refine ⟨q - p * (n / m : Nat), p, ?_⟩
    rw [Nat.gcd_rec, e, Int.sub_mul]
    have : (n : Int) = (m : Int) * ((n / m : Nat) : Int) + ((n % m : Nat) : Int) := by
      have := Nat.div_add_mod n m
      rw [← Int.natCast_mul, ← Int.natCast_add, this]
    have h2 : p * (n : Int) = p * ((m : Int) * ((n / m : Nat) : Int)) + p * ((n % m : Nat) : Int) := by rw [← Int.mul_add, ← this]
    rw [h2, Int.mul_assoc p, Int.mul_comm ((n / m : Nat) : Int)]
    omega
def Sum (L K : Lt) (t : Vc) : Prop := ∃ y x y' x', L.has (y, x) ∧ K.has (y', x') ∧ t = (y + y', x + x')
theorem pos_of_dvd_iff {m n : Int} (hm : 0 ≤ m) (hn : 0 ≤ n) (h : ∀ z, m ∣ z ↔ n ∣ z) : m = n :=
  Int.dvd_antisymm hm hn ((h n).mpr (Int.dvd_refl n)) ((h m).mp (Int.dvd_refl m))
theorem indices {L K C S : Lt} (hL : L.Ok) (hK : K.Ok) (hC : C.Ok) (hS : S.Ok) (hc : ∀ t, C.has t ↔ L.has t ∧ K.has t) (hs : ∀ t, S.has t ↔ Sum L K t) : C.a * C.d * (S.a * S.d) = L.a * L.d * (K.a * K.d) := by
  have a1 := hL.a0; have a2 := hK.a0; have d1 := hL.d0; have d2 := hK.d0
  -- the widths
  have ew : C.d = (Int.lcm L.d K.d : Nat) := by
    refine pos_of_dvd_iff (by have := hC.d0; omega) (by omega) fun z => ?_
    rw [← has_0 hC, hc, has_0 hL, has_0 hK]
    exact ⟨fun h => Int.coe_lcm_dvd h.1 h.2, fun h => ⟨Int.dvd_trans (Int.dvd_lcm_left _ _) h, Int.dvd_trans (Int.dvd_lcm_right _ _) h⟩⟩
  have ht : ∀ {X : Lt} (hX : X.Ok) (y : Int), X.a ∣ y ↔ ∃ x, X.has (y, x) := fun {X} hX y => by
    constructor
    · rintro ⟨p, rfl⟩
      exact ⟨p * X.b, has_iff.mpr ⟨p, 0, Int.mul_comm _ _, by simp⟩⟩
    · rintro ⟨x, h⟩
      obtain ⟨p, q, rfl, _⟩ := has_iff.mp h
      exact Int.dvd_mul_left _ _
  -- the heights of the sum
  have eg : S.a = (Int.gcd L.a K.a : Nat) := by
    have g1 : S.a ∣ L.a := (ht hS _).mpr ⟨L.b, (hs _).mpr ⟨_, _, 0, 0, has_1 L, has_iff.mpr ⟨0, 0, by simp, by simp⟩, by simp⟩⟩
    have g2 : S.a ∣ K.a := (ht hS _).mpr ⟨K.b, (hs _).mpr ⟨0, 0, _, _, has_iff.mpr ⟨0, 0, by simp, by simp⟩, has_1 K, by simp⟩⟩
    refine Int.dvd_antisymm (by have := hS.a0; omega) (by omega) (Int.dvd_coe_gcd g1 g2) ?_
    obtain ⟨y, x, y', x', h1, h2, e⟩ := (hs _).mp (has_1 S)
    have e1 := congrArg Prod.fst e
    simp only at e1
    rw [e1]
    exact Int.dvd_add (Int.dvd_trans (Int.gcd_dvd_left _ _) ((ht hL y).mpr ⟨_, h1⟩)) (Int.dvd_trans (Int.gcd_dvd_right _ _) ((ht hK y').mpr ⟨_, h2⟩))
  -- the height where both have a vector
  obtain ⟨ℓ, hℓ⟩ : ∃ ℓ : Int, ℓ = (Int.lcm L.a K.a : Nat) := ⟨_, rfl⟩
  have l0 : 0 < ℓ := by rw [hℓ]; have := Int.lcm_pos (m := L.a) (n := K.a) (by omega) (by omega); omega
  obtain ⟨m1, hm1⟩ : L.a ∣ ℓ := by rw [hℓ]; exact Int.dvd_lcm_left _ _
  obtain ⟨m2, hm2⟩ : K.a ∣ ℓ := by rw [hℓ]; exact Int.dvd_lcm_right _ _
  obtain ⟨δ, hδ⟩ : ∃ δ, δ = m1 * L.b - m2 * K.b := ⟨_, rfl⟩
  obtain ⟨D, hD⟩ : ∃ D : Int, D = (Int.gcd L.d K.d : Nat) := ⟨_, rfl⟩
  have D1 : D ∣ L.d := by rw [hD]; exact Int.gcd_dvd_left _ _
  have D2 : D ∣ K.d := by rw [hD]; exact Int.gcd_dvd_right _ _
  -- the sum's own width
  have hwid : ∀ z, S.d ∣ z ↔ ∃ T p q : Int, z = T * δ + p * L.d + q * K.d := fun z => by
    rw [← has_0 hS, hs]
    constructor
    · rintro ⟨y, x, y', x', h1, h2, e⟩
      have e1 := congrArg Prod.fst e
      have e2 := congrArg Prod.snd e
      simp only at e1 e2
      obtain ⟨p, q, rfl, rfl⟩ := has_iff.mp h1
      obtain ⟨p', q', rfl, rfl⟩ := has_iff.mp h2
      have b1 : L.a ∣ p * L.a := Int.dvd_mul_left _ _
      have b2 : K.a ∣ p * L.a := by
        rw [show p * L.a = -p' * K.a by rw [Int.neg_mul]; omega]
        exact Int.dvd_mul_left _ _
      obtain ⟨T, hT⟩ : ℓ ∣ p * L.a := by rw [hℓ]; exact Int.coe_lcm_dvd b1 b2
      have ep : p = m1 * T := by
        apply Int.eq_of_mul_eq_mul_left (a := L.a) (by omega)
        rw [← Int.mul_assoc, ← hm1, ← hT, Int.mul_comm]
      have ep' : p' = -(m2 * T) := by
        apply Int.eq_of_mul_eq_mul_left (a := K.a) (by omega)
        rw [Int.mul_neg, ← Int.mul_assoc, ← hm2, ← hT, Int.mul_comm K.a]; omega
      refine ⟨T, q, q', ?_⟩
      rw [e2, ep, ep', hδ, Int.mul_sub, Int.neg_mul]
      have u1 : m1 * T * L.b = T * (m1 * L.b) := by rw [Int.mul_comm m1, Int.mul_assoc]
      have u2 : m2 * T * K.b = T * (m2 * K.b) := by rw [Int.mul_comm m2, Int.mul_assoc]
      omega
    · rintro ⟨T, p, q, rfl⟩
      refine ⟨T * ℓ, T * (m1 * L.b) + p * L.d, -(T * ℓ), -(T * (m2 * K.b)) + q * K.d, has_iff.mpr ⟨T * m1, p, ?_, ?_⟩, has_iff.mpr ⟨-(T * m2), q, ?_, ?_⟩, ?_⟩
      · rw [hm1, Int.mul_assoc, Int.mul_comm m1]
      · rw [Int.mul_assoc]
      · rw [hm2, Int.neg_mul, Int.mul_assoc, Int.mul_comm m2]
      · rw [Int.neg_mul, Int.mul_assoc]
      · refine Prod.ext ?_ ?_
        · simp only; omega
        · simp only; rw [hδ, Int.mul_sub]; omega
  obtain ⟨T, P, Q, hE⟩ := (hwid S.d).mp (Int.dvd_refl _)
  have eD : S.d ∣ D := by
    rw [hD]
    exact Int.dvd_coe_gcd ((hwid _).mpr ⟨0, 1, 0, by simp⟩) ((hwid _).mpr ⟨0, 0, 1, by simp⟩)
  have eδ : S.d ∣ δ := (hwid _).mpr ⟨1, 0, 0, by simp⟩
  have s0 := hS.d0
  obtain ⟨D', hD'⟩ := eD
  obtain ⟨δ', hδ'⟩ := eδ
  obtain ⟨r1, hr1⟩ := D1
  obtain ⟨r2, hr2⟩ := D2
  have bez : 1 = T * δ' + D' * (P * r1 + Q * r2) := by
    apply Int.eq_of_mul_eq_mul_left (a := S.d) (by omega)
    rw [Int.mul_one, Int.mul_add]
    have u1 : S.d * (T * δ') = T * δ := by rw [hδ', Int.mul_left_comm]
    have u2 : S.d * (D' * (P * r1 + Q * r2)) = P * L.d + Q * K.d := by
      rw [← Int.mul_assoc, ← hD', Int.mul_add, hr1, hr2, Int.mul_left_comm P, Int.mul_left_comm Q]
    rw [u1, u2]; omega
  -- the height of the meeting
  have hD0 : 0 < D := by
    rw [hD]
    have := Int.gcd_pos_of_ne_zero_left (a := L.d) K.d (by omega)
    omega
  have hD'0 : 0 < D' := by
    rcases Int.lt_or_le 0 D' with h | h
    · exact h
    · have := Int.mul_nonpos_of_nonneg_of_nonpos (by omega : 0 ≤ S.d) h
      omega
  have eh : C.a = ℓ * D' := by
    refine Int.dvd_antisymm (by have := hC.a0; omega) (by have := Int.mul_pos l0 hD'0; omega) ?_ ?_
    · -- a vector of both at this height
      rw [ht hC]
      -- D' * δ = p d1 + q d2
      have hdd : ∃ p q : Int, D' * δ = p * L.d + q * K.d := by
        -- D ∣ D' δ, and D is a sum of multiples
        obtain ⟨p0, q0, hpq⟩ : ∃ p0 q0 : Int, D = p0 * L.d + q0 * K.d := by
          rw [hD]
          obtain ⟨p0, q0, h⟩ := bezN L.d.natAbs K.d.natAbs
          rw [Int.natAbs_of_nonneg (by omega), Int.natAbs_of_nonneg (by omega)] at h
          exact ⟨p0, q0, h⟩
        refine ⟨δ' * p0, δ' * q0, ?_⟩
        rw [Int.mul_assoc, Int.mul_assoc, ← Int.mul_add, ← hpq, hD', hδ', ← Int.mul_assoc, ← Int.mul_assoc, Int.mul_comm D', Int.mul_right_comm, Int.mul_comm δ']
      obtain ⟨p, q, hpq⟩ := hdd
      refine ⟨D' * (m1 * L.b) - p * L.d, (hc _).mpr ⟨has_iff.mpr ⟨D' * m1, -p, ?_, ?_⟩, has_iff.mpr ⟨D' * m2, q, ?_, ?_⟩⟩⟩
      · rw [hm1, Int.mul_comm, Int.mul_assoc, Int.mul_comm m1]
      · rw [Int.mul_assoc, Int.neg_mul]; omega
      · rw [hm2, Int.mul_comm, Int.mul_assoc, Int.mul_comm m2]
      · rw [hδ, Int.mul_sub] at hpq
        rw [Int.mul_assoc]; omega
    · obtain ⟨x, hx⟩ := (ht hC C.a).mp (Int.dvd_refl _)
      obtain ⟨h1, h2⟩ := (hc _).mp hx
      obtain ⟨p, q, e1, e2⟩ := has_iff.mp h1
      obtain ⟨p', q', e3, e4⟩ := has_iff.mp h2
      obtain ⟨z, hz⟩ : ℓ ∣ C.a := by
        rw [hℓ]
        exact Int.coe_lcm_dvd (by rw [e1]; exact Int.dvd_mul_left _ _) (by rw [e3]; exact Int.dvd_mul_left _ _)
      have ep : p = m1 * z := by
        apply Int.eq_of_mul_eq_mul_left (a := L.a) (by omega)
        rw [← Int.mul_assoc, ← hm1, ← hz, e1, Int.mul_comm]
      have ep' : p' = m2 * z := by
        apply Int.eq_of_mul_eq_mul_left (a := K.a) (by omega)
        rw [← Int.mul_assoc, ← hm2, ← hz, e3, Int.mul_comm]
      have hzδ : z * δ = q' * K.d - q * L.d := by
        rw [hδ, Int.mul_sub]
        rw [ep] at e2
        rw [ep'] at e4
        have u1 : m1 * z * L.b = z * (m1 * L.b) := by rw [Int.mul_comm m1, Int.mul_assoc]
        have u2 : m2 * z * K.b = z * (m2 * K.b) := by rw [Int.mul_comm m2, Int.mul_assoc]
        omega
      have hzd : z * δ' = D' * (q' * r2 - q * r1) := by
        apply Int.eq_of_mul_eq_mul_left (a := S.d) (by omega)
        rw [← Int.mul_assoc, Int.mul_comm S.d z, Int.mul_assoc, ← hδ', hzδ, ← Int.mul_assoc, ← hD', Int.mul_sub, hr1, hr2, Int.mul_left_comm q', Int.mul_left_comm q]
      have hz' : D' ∣ z := by
        refine ⟨T * (q' * r2 - q * r1) + z * (P * r1 + Q * r2), ?_⟩
        have : z = z * 1 := by simp
        rw [bez, Int.mul_add] at this
        rw [Int.mul_add]
        have u1 : z * (T * δ') = D' * (T * (q' * r2 - q * r1)) := by rw [Int.mul_left_comm, hzd, Int.mul_left_comm]
        have u2 : z * (D' * (P * r1 + Q * r2)) = D' * (z * (P * r1 + Q * r2)) := Int.mul_left_comm _ _ _
        omega
      rw [hz]
      exact Int.mul_dvd_mul_left _ hz'
  -- all together
  have G1 : S.a * ℓ = L.a * K.a := by
    rw [eg, hℓ]
    have := Int.gcd_mul_lcm L.a K.a
    have h2 : ((L.a.gcd K.a * L.a.lcm K.a : Nat) : Int) = ((L.a.natAbs * K.a.natAbs : Nat) : Int) := by rw [this]
    rw [Int.natCast_mul, Int.natCast_mul, Int.natAbs_of_nonneg (by omega), Int.natAbs_of_nonneg (by omega)] at h2
    exact h2
  have G2 : D * C.d = L.d * K.d := by
    rw [hD, ew]
    have := Int.gcd_mul_lcm L.d K.d
    have h2 : ((L.d.gcd K.d * L.d.lcm K.d : Nat) : Int) = ((L.d.natAbs * K.d.natAbs : Nat) : Int) := by rw [this]
    rw [Int.natCast_mul, Int.natCast_mul, Int.natAbs_of_nonneg (by omega), Int.natAbs_of_nonneg (by omega)] at h2
    exact h2
  calc C.a * C.d * (S.a * S.d) = (S.a * ℓ) * (S.d * D' * C.d) := by rw [eh]; ac_rfl
    _ = (L.a * K.a) * (L.d * K.d) := by rw [G1, ← hD', G2]
    _ = L.a * L.d * (K.a * K.d) := by ac_rfl
end K06

set_option maxRecDepth 100000
set_option maxHeartbeats 4000000
set_option exponentiation.threshold 1000
namespace K06
open PySem PySem.Spec L2 EL EX
open K05 (c__law_has run_law_has)
/-! ### the walk: meetings -/
structure Sm6 (L : Lt) : Prop where
  a : L.a ≤ 2000
  d : L.d ≤ 200
theorem Sm6.sz {L : Lt} (hL : L.Ok) (h : Sm6 L) : L.Sz := by
  have h1 := h.a; have h2 := h.d; have h3 := hL.a0; have h4 := hL.d0; have h5 := hL.b0; have h6 := hL.b1
  exact ⟨EMpw (a := 11) (by omega), EMpw (a := 11) (by omega), EMpw (a := 11) (by omega)⟩
where EMpw {n a : Nat} (h : n < 2 ^ a) (ha : a ≤ 900 := by decide) : n < 2 ^ 900 := Nat.lt_of_lt_of_le h (Nat.pow_le_pow_right (by decide) ha)
theorem small9 {i : Int} (h0 : 0 ≤ i) (h1 : i ≤ 1000000) : i.natAbs < 2 ^ 900 := Nat.lt_of_lt_of_le (show i.natAbs < 2 ^ 20 by omega) (Nat.pow_le_pow_right (by decide) (by decide))
theorem pv_i (L : Lt) : idxP L.pv (.int 0) = some (.int L.a) ∧ idxP L.pv (.int 1) = some (.int L.b) ∧ idxP L.pv (.int 2) = some (.int L.d) := by
  refine ⟨?_, ?_, ?_⟩ <;> simp [Lt.pv]
theorem fm (a b : Int) : a.fmod b = 0 ↔ b ∣ a := fmod_dvd a b
section
variable {L K : Lt}
abbrev mE (L K : Lt) (w h c : Option PV) : EL.Env := [some L.pv, some K.pv, w, h, c]
theorem wid_cond (hK : K.Ok) {w : Int} {h c : Option PV} : ev (.cmp .ne (.bin .mod (.var 2) (.idx (.var 1) (.lit (.int 2)))) (.lit (.int 0))) (mE L K (some (.int w)) h c) = .ok (.bl (!decide (K.d ∣ w)), mE L K (some (.int w)) h c) := by
  have hk : ¬ K.d = 0 := by have := hK.d0; omega
  have i2 := (pv_i K).2.2
  have : decide (w.fmod K.d = 0) = decide (K.d ∣ w) := decide_eq_decide.mpr (fm _ _)
  simp [asA, getA, i2, hk]
  exact fm _ _
theorem wid_loop (hL : L.Ok) (hK : K.Ok) {h c : Option PV} : ∀ (r n : Nat) (j : Int), 0 < j → j + r = K.d → r < n → (∀ i, 0 < i → i < j → ¬ K.d ∣ i * L.d) →
    loopW (fun e => ev (.cmp .ne (.bin .mod (.var 2) (.idx (.var 1) (.lit (.int 2)))) (.lit (.int 0))) e) (fun e => exs t_lattice_meeting_2B e) n (mE L K (some (.int (j * L.d))) h c) = .ok (.nxt, mE L K (some (.int (W L K))) h c)
  | r, 0, j, _, _, hn, _ => by omega
  | r, n + 1, j, hj, hr, hn, hm => by
    unfold loopW
    rw [wid_cond hK, R.bind_ok]
    by_cases hd : K.d ∣ j * L.d
    · rw [decide_eq_true hd, W_of hL hK hj hd hm]
      rfl
    · rw [decide_eq_false hd]
      have hr0 : r ≠ 0 := fun e => hd (by rw [show j = K.d by omega]; exact Int.dvd_mul_right _ _)
      have i2 := (pv_i L).2.2
      have e1 : exs t_lattice_meeting_2B (mE L K (some (.int (j * L.d))) h c) = .ok (.nxt, mE L K (some (.int ((j + 1) * L.d))) h c) := by
        rw [Int.add_mul, Int.one_mul]
        simp [t_lattice_meeting_2B, t_lattice_meeting_2_1, asA, getA, i2, setT_v]
      simp only [Bool.not_false, e1, R.bind_ok]
      refine wid_loop hL hK (r - 1) n (j + 1) (by omega) (by omega) (by omega) fun i h0 h1 => ?_
      by_cases hi : i = j
      · subst hi; exact hd
      · exact hm i h0 (by omega)
theorem row_find (hL : L.Ok) (hK : K.Ok) (sL : L.Sz) (sK : K.Sz) {y : Int} (hy : y.natAbs < 2 ^ 900) (hw : W L K ≤ 100000) {c : Option PV} :
    ∃ fl en, ex t_lattice_meeting_4_1a_1 (mE L K (some (.int (W L K))) (some (.int y)) c) = .ok (fl, en) ∧
      ((fl = .nxt ∧ (∀ z, 0 ≤ z → z < W L K → ¬ (L.has (y, z) ∧ K.has (y, z))) ∧ ∃ c', en = mE L K (some (.int (W L K))) (some (.int y)) c') ∨
      (∃ x, 0 ≤ x ∧ x < W L K ∧ L.has (y, x) ∧ K.has (y, x) ∧ fl = .ret (Lt.mk y x (W L K)).pv ∧ ∃ w h c, en = mE L K w h c)) := by
  have hp := W_pos hL hK
  obtain ⟨n, hn⟩ : ∃ n : Nat, W L K = n := ⟨(W L K).toNat, by omega⟩
  obtain ⟨fl, en, h1, h2⟩ := loopF_ret (b := forB (.var 4) t_lattice_meeting_4_1a_1B) (xs := rngP 0 (W L K)) (k := 0)
    (fun i en => (∀ z : Int, 0 ≤ z → z < i → ¬ (L.has (y, z) ∧ K.has (y, z))) ∧ ∃ c', en = mE L K (some (.int (W L K))) (some (.int y)) c')
    (fun v en => ∃ x, 0 ≤ x ∧ x < W L K ∧ L.has (y, x) ∧ K.has (y, x) ∧ v = (Lt.mk y x (W L K)).pv ∧ ∃ w h c, en = mE L K w h c)
    (env := mE L K (some (.int (W L K))) (some (.int y)) c)
    (fun i x en hx ⟨hi, c', e⟩ => by
      subst e
      rw [hn] at hx
      obtain ⟨hin, rfl⟩ := rngP_get hx
      have h0 : forB (.var 4) t_lattice_meeting_4_1a_1B (.int (i : Nat)) (mE L K (some (.int (W L K))) (some (.int y)) c') = exs t_lattice_meeting_4_1a_1B (mE L K (some (.int (W L K))) (some (.int y)) (some (.int (i : Nat)))) := by simp [forB, setT]
      rw [h0]
      have r1 := run_has hL sL (t := (y, (i : Int))) hy
      have r2 := run_has hK sK (t := (y, (i : Int))) hy
      have b1 := Lt.hasB_iff (L := L) (by have := hL.a0; omega) (y, (i : Int))
      have b2 := Lt.hasB_iff (L := K) (by have := hK.a0; omega) (y, (i : Int))
      have sqe : sq (y, (i : Int)) = .tup [.int y, .int (i : Nat)] := rfl
      by_cases hb : L.has (y, (i : Int)) ∧ K.has (y, (i : Int))
      · rw [b1.mpr hb.1] at r1
        rw [b2.mpr hb.2] at r2
        refine ⟨_, _, ?_, .inr ⟨_, rfl, (i : Int), by omega, by omega, hb.1, hb.2, rfl, some (.int (W L K)), some (.int y), some (.int (i : Nat)), rfl⟩⟩
        refine exs_ret ?_
        simp [t_lattice_meeting_4_1a_1_1, rdS, asA, getA, lend, sLen, sq_mk, r1, r2, back, mvS] <;> rfl
      · refine ⟨_, _, ?_, .inl ⟨rfl, fun z z0 z1 => ?_, some (.int (i : Nat)), rfl⟩⟩
        · refine (exs_step (ex_iteF (en' := mE L K (some (.int (W L K))) (some (.int y)) (some (.int (i : Nat)))) ?_ q_exs_nil)).trans q_exs_nil
          by_cases hb1 : L.has (y, (i : Int))
          · have hb2 : K.hasB (y, (i : Int)) = false := by
              rw [← Bool.not_eq_true, b2]; exact fun h => hb ⟨hb1, h⟩
            rw [b1.mpr hb1] at r1
            rw [hb2] at r2
            simp [rdS, asA, getA, lend, sLen, sq_mk, r1, r2, back]
          · have hb2 : L.hasB (y, (i : Int)) = false := by
              rw [← Bool.not_eq_true, b1]; exact hb1
            rw [hb2] at r1
            simp [rdS, asA, getA, lend, sLen, sq_mk, r1, back]
        · by_cases hz : z = (i : Int)
          · subst hz; exact hb
          · exact hi z z0 (by omega)) ⟨fun z z0 z1 => by omega, c, rfl⟩
  refine ⟨fl, en, ex_for (evI_rng (i := W L K) (by simp [rdS]) (by rw [hn]; exact rng_ok (n := n) (by omega))) h1, ?_⟩
  rcases h2 with ⟨rfl, hi, c', rfl⟩ | ⟨v, rfl, x, x0, x1, g1, g2, rfl, w, h, c, rfl⟩
  · refine .inl ⟨rfl, fun z z0 z1 => hi z z0 ?_, c', rfl⟩
    rw [hn, rngP_len]
    omega
  · exact .inr ⟨x, x0, x1, g1, g2, rfl, w, h, c, rfl⟩
theorem hgt_loop (hL : L.Ok) (hK : K.Ok) (sL : Sm6 L) (sK : Sm6 K) : ∀ (r n : Nat) (k : Int) (c : Option PV), 0 < k → k + r = K.a * K.d → r < n → (∀ i, 0 < i → i < k → ∀ z, 0 ≤ z → z < W L K → ¬ (L.has (i * L.a, z) ∧ K.has (i * L.a, z))) →
    ∃ k' x en, Fst L K k' x ∧ k' ≤ K.a * K.d ∧ loopW (fun e => ev (.lit (.bl true)) e) (fun e => exs t_lattice_meeting_4B e) n (mE L K (some (.int (W L K))) (some (.int (k * L.a))) c) = .ok (.ret (Lt.mk (k' * L.a) x (W L K)).pv, en) ∧ ∃ w h c, en = mE L K w h c
  | r, 0, k, _, _, _, hn, _ => by omega
  | r, n + 1, k, c, hk, hr, hn, hm => by
    have a1 := hL.a0; have a2 := hK.a0; have d2 := hK.d0
    have sa := sL.a; have sb := sK.a; have sc := sK.d; have sd := sL.d
    have hW : W L K ≤ 40000 := Int.le_trans (W_le hL hK) (by have := Int.mul_le_mul sd sc (by omega) (by omega); omega)
    have hkk : K.a * K.d ≤ 2000 * 200 := Int.mul_le_mul sb sc (by omega) (by omega)
    have hka : k * L.a ≤ 400000 * 2000 := Int.mul_le_mul (by omega) sa (by omega) (by omega)
    have hka0 : 0 < k * L.a := Int.mul_pos hk a1
    have hy : (k * L.a).natAbs < 2 ^ 900 := Nat.lt_of_lt_of_le (show (k * L.a).natAbs < 2 ^ 40 by omega) (Nat.pow_le_pow_right (by decide) (by decide))
    have i0 := (pv_i K).1
    have j0 := (pv_i L).1
    have hk0 : ¬ K.a = 0 := by omega
    unfold loopW
    rw [q_ev_lit, R.bind_ok]
    simp only
    unfold t_lattice_meeting_4B
    have go : ∀ c', (∀ z, 0 ≤ z → z < W L K → ¬ (L.has (k * L.a, z) ∧ K.has (k * L.a, z))) → ex t_lattice_meeting_4_1 (mE L K (some (.int (W L K))) (some (.int (k * L.a))) c) = .ok (.nxt, mE L K (some (.int (W L K))) (some (.int (k * L.a))) c') →
        ∃ k' x en, Fst L K k' x ∧ k' ≤ K.a * K.d ∧ ((exs (.cons t_lattice_meeting_4_1 (.cons t_lattice_meeting_4_2 .nil)) (mE L K (some (.int (W L K))) (some (.int (k * L.a))) c)).bind fun q => match q.1 with
          | .nxt => loopW (fun e => ev (.lit (.bl true)) e) (fun e => exs (.cons t_lattice_meeting_4_1 (.cons t_lattice_meeting_4_2 .nil)) e) n q.2
          | .cnt => loopW (fun e => ev (.lit (.bl true)) e) (fun e => exs (.cons t_lattice_meeting_4_1 (.cons t_lattice_meeting_4_2 .nil)) e) n q.2
          | .brk => .ok (.nxt, q.2)
          | .ret v => .ok (.ret v, q.2)) = .ok (.ret (Lt.mk (k' * L.a) x (W L K)).pv, en) ∧ ∃ w h c, en = mE L K w h c := fun c' hno he => by
      have e2 : ex t_lattice_meeting_4_2 (mE L K (some (.int (W L K))) (some (.int (k * L.a))) c') = .ok (.nxt, mE L K (some (.int (W L K))) (some (.int ((k + 1) * L.a))) c') := by
        rw [Int.add_mul, Int.one_mul]
        simp [t_lattice_meeting_4_2, asA, getA, j0, setT_v]
      have hr0 : r ≠ 0 := fun e => by
        obtain ⟨z, z0, z1, g1, g2⟩ := fst_ex hL hK
        rw [show K.a * K.d = k by omega] at g1 g2
        exact hno z z0 z1 ⟨g1, g2⟩
      rw [(exs_step he).trans ((exs_step e2).trans q_exs_nil), R.bind_ok]
      exact hgt_loop hL hK sL sK (r - 1) n (k + 1) c' (by omega) (by omega) (by omega) fun i h0 h1 => by
        by_cases hi : i = k
        · subst hi; exact hno
        · exact hm i h0 (by omega)
    by_cases hd : K.a ∣ k * L.a
    · have hc : ev (.cmp .eq (.bin .mod (.var 3) (.idx (.var 1) (.lit (.int 0)))) (.lit (.int 0))) (mE L K (some (.int (W L K))) (some (.int (k * L.a))) c) = .ok (.bl true, mE L K (some (.int (W L K))) (some (.int (k * L.a))) c) := by
        have := (fm (k * L.a) K.a).mpr hd
        simp [asA, getA, i0, hk0, this]
      obtain ⟨fl, en, h1, h2⟩ := row_find hL hK (sL.sz hL) (sK.sz hK) (y := k * L.a) hy (by omega) (c := c)
      rcases h2 with ⟨rfl, hno, c', rfl⟩ | ⟨x, x0, x1, g1, g2, rfl, w, h, c', rfl⟩
      · refine go c' hno ?_
        unfold t_lattice_meeting_4_1
        refine ex_iteT hc ?_
        exact (exs_step h1).trans q_exs_nil
      · refine ⟨k, x, mE L K w h c', ⟨hk, x0, x1, g1, g2, hm⟩, by omega, ?_, w, h, c', rfl⟩
        have : ex t_lattice_meeting_4_1 (mE L K (some (.int (W L K))) (some (.int (k * L.a))) c) = .ok (.ret (Lt.mk (k * L.a) x (W L K)).pv, mE L K w h c') := by
          unfold t_lattice_meeting_4_1
          exact ex_iteT hc (exs_ret h1)
        rw [exs_ret this, R.bind_ok]
    · refine go c (fun z _ _ hz => hd ?_) ?_
      · obtain ⟨p, q, e, _⟩ := has_iff.mp hz.2
        rw [e]; exact Int.dvd_mul_left _ _
      · unfold t_lattice_meeting_4_1
        refine ex_iteF (en' := mE L K (some (.int (W L K))) (some (.int (k * L.a))) c) ?_ q_exs_nil
        have : ¬ (k * L.a).fmod K.a = 0 := fun e => hd ((fm _ _).mp e)
        simp [asA, getA, i0, hk0, this]
/-- a meeting -/
structure Mt (L K C : Lt) : Prop where
  ok : C.Ok
  has : ∀ t, C.has t ↔ L.has t ∧ K.has t
theorem Mt.uniq {C D : Lt} (h : Mt L K C) (h' : Mt L K D) : C = D := Lt.ext_has h.ok h'.ok fun t => by rw [h.has, h'.has]
theorem Mt.swap {C : Lt} (h : Mt L K C) : Mt K L C := ⟨h.ok, fun t => by rw [h.has]; exact And.comm⟩
theorem run_meeting (hL : L.Ok) (hK : K.Ok) (sL : Sm6 L) (sK : Sm6 K) : ∃ C : Lt, run c_lattice_meeting [L.pv, K.pv] = .ok (C.pv, [L.pv, K.pv]) ∧ Mt L K C ∧ C.a ≤ K.a * K.d * L.a ∧ C.d ≤ L.d * K.d := by
  have i2 := (pv_i L).2.2
  have i0 := (pv_i L).1
  have d1 := hL.d0; have d2 := hK.d0; have a1 := hL.a0; have a2 := hK.a0
  have e1 : ex t_lattice_meeting_1 (mE L K none none none) = .ok (.nxt, mE L K (some (.int (1 * L.d))) none none) := by
    rw [Int.one_mul]
    simp [t_lattice_meeting_1, asA, getA, i2, setT_v]
  have e2 : ex t_lattice_meeting_2 (mE L K (some (.int (1 * L.d))) none none) = .ok (.nxt, mE L K (some (.int (W L K))) none none) := by
    unfold t_lattice_meeting_2
    rw [q_ex_whl]
    have := sK.d
    exact wid_loop hL hK (K.d - 1).toNat FUEL 1 (by omega) (by omega) (Nat.lt_trans (show (K.d - 1).toNat < 200 by omega) (by decide)) fun i h0 h1 => by omega
  have e3 : ex t_lattice_meeting_3 (mE L K (some (.int (W L K))) none none) = .ok (.nxt, mE L K (some (.int (W L K))) (some (.int (1 * L.a))) none) := by
    rw [Int.one_mul]
    simp [t_lattice_meeting_3, asA, getA, i0, setT_v]
  have hkk : K.a * K.d ≤ 2000 * 200 := Int.mul_le_mul sK.a sK.d (by omega) (by omega)
  have hk1 : 0 < K.a * K.d := Int.mul_pos a2 d2
  obtain ⟨k, x, en, hf, hk, h4, w, h, c, rfl⟩ := hgt_loop hL hK sL sK (K.a * K.d - 1).toNat FUEL 1 none (by omega) (by omega) (Nat.lt_trans (show (K.a * K.d - 1).toNat < 400000 by omega) (by decide)) fun i h0 h1 => by omega
  have e4 : ex t_lattice_meeting_4 (mE L K (some (.int (W L K))) (some (.int (1 * L.a))) none) = .ok (.ret (Lt.mk (k * L.a) x (W L K)).pv, mE L K w h c) := by
    unfold t_lattice_meeting_4
    rw [q_ex_whl]
    exact h4
  refine ⟨Lt.mk (k * L.a) x (W L K), run_ok rfl (by decide) ?_ ((exs_step e1).trans <| (exs_step e2).trans <| (exs_step e3).trans <| exs_ret e4) (by simp [outs]), ⟨hf.ok hL, hf.meet hL hK⟩, Int.mul_le_mul_of_nonneg_right hk (by omega), W_le hL hK⟩
  unfold freeA
  rw [List.all_eq_true]
  intro i hi
  match i with
  | 0 => rfl
  | 1 => rfl
  | i + 2 => rfl
end
end K06

set_option maxRecDepth 100000
set_option maxHeartbeats 4000000
set_option exponentiation.threshold 1000
namespace K06
open PySem PySem.Spec L2 EL EX
open K05 (c__law_has run_law_has)
section
variable {L K : Lt}
/-! ### the law's own search -/
abbrev oE6 (L K : Lt) (w k y x : Option PV) : EL.Env := [some L.pv, some K.pv, w, k, y, x]
theorem lw_turn (hL : L.Ok) (hK : K.Ok) {j : Int} {k0 : Option PV} {i : Nat} (hj : 0 < j) (hm : ∀ i, 0 < i → i < j → ¬ K.d ∣ i * L.d) (hx : K.d ∣ j * L.d ∨ j = i + 1) :
    ∃ j', 0 < j' ∧ (∀ i, 0 < i → i < j' → ¬ K.d ∣ i * L.d) ∧ (K.d ∣ j' * L.d ∨ j' = ((i + 1 : Nat) : Int) + 1) ∧
      forB (.var 3) t_law_meeting_2B (.int (i : Nat)) (oE6 L K (some (.int (j * L.d))) k0 none none) = .ok (.nxt, oE6 L K (some (.int (j' * L.d))) (some (.int (i : Nat))) none none) := by
  have h0 : forB (.var 3) t_law_meeting_2B (.int (i : Nat)) (oE6 L K (some (.int (j * L.d))) k0 none none) = exs t_law_meeting_2B (oE6 L K (some (.int (j * L.d))) (some (.int (i : Nat))) none none) := by simp [forB, setT]
  rw [h0]
  have hk : ¬ K.d = 0 := by have := hK.d0; omega
  have i2 := (pv_i K).2.2
  have l2 := (pv_i L).2.2
  by_cases hd : K.d ∣ j * L.d
  · refine ⟨j, hj, hm, .inl hd, ?_⟩
    have := (fm (j * L.d) K.d).mpr hd
    simp [t_law_meeting_2B, t_law_meeting_2_1, rdS, asA, getA, i2, hk, this]
  · have hj' : j = (i : Int) + 1 := by rcases hx with h | h; exact absurd h hd; exact h
    refine ⟨j + 1, by omega, fun z z0 z1 => ?_, .inr (by simp; omega), ?_⟩
    · by_cases hz : z = j
      · subst hz; exact hd
      · exact hm z z0 (by omega)
    · have : ¬ (j * L.d).fmod K.d = 0 := fun e => hd ((fm _ _).mp e)
      rw [Int.add_mul, Int.one_mul]
      simp [t_law_meeting_2B, t_law_meeting_2_1, rdS, asA, getA, i2, l2, hk, this, setT_v]
theorem lrow_find (hL : L.Ok) (hK : K.Ok) (sL : L.Sz) (sK : K.Sz) {y : Int} (hy : y.natAbs < 2 ^ 900) (hw : W L K ≤ 100000) {k c : Option PV} :
    ∃ fl en, ex t_law_meeting_3_2a_1 (oE6 L K (some (.int (W L K))) k (some (.int y)) c) = .ok (fl, en) ∧
      ((fl = .nxt ∧ (∀ z, 0 ≤ z → z < W L K → ¬ (L.has (y, z) ∧ K.has (y, z))) ∧ ∃ c', en = oE6 L K (some (.int (W L K))) k (some (.int y)) c') ∨
      (∃ x, 0 ≤ x ∧ x < W L K ∧ L.has (y, x) ∧ K.has (y, x) ∧ fl = .ret (Lt.mk y x (W L K)).pv ∧ ∃ w k h c, en = oE6 L K w k h c)) := by
  have hp := W_pos hL hK
  obtain ⟨n, hn⟩ : ∃ n : Nat, W L K = n := ⟨(W L K).toNat, by omega⟩
  obtain ⟨fl, en, h1, h2⟩ := loopF_ret (b := forB (.var 5) t_law_meeting_3_2a_1B) (xs := rngP 0 (W L K)) (k := 0)
    (fun i en => (∀ z : Int, 0 ≤ z → z < i → ¬ (L.has (y, z) ∧ K.has (y, z))) ∧ ∃ c', en = oE6 L K (some (.int (W L K))) k (some (.int y)) c')
    (fun v en => ∃ x, 0 ≤ x ∧ x < W L K ∧ L.has (y, x) ∧ K.has (y, x) ∧ v = (Lt.mk y x (W L K)).pv ∧ ∃ w k h c, en = oE6 L K w k h c)
    (env := oE6 L K (some (.int (W L K))) k (some (.int y)) c)
    (fun i x en hx ⟨hi, c', e⟩ => by
      subst e
      rw [hn] at hx
      obtain ⟨hin, rfl⟩ := rngP_get hx
      have h0 : forB (.var 5) t_law_meeting_3_2a_1B (.int (i : Nat)) (oE6 L K (some (.int (W L K))) k (some (.int y)) c') = exs t_law_meeting_3_2a_1B (oE6 L K (some (.int (W L K))) k (some (.int y)) (some (.int (i : Nat)))) := by simp [forB, setT]
      rw [h0]
      have r1 := run_law_has hL sL (y := y) (x := (i : Int)) hy
      have r2 := run_law_has hK sK (y := y) (x := (i : Int)) hy
      have b1 := Lt.hasB_iff (L := L) (by have := hL.a0; omega) (y, (i : Int))
      have b2 := Lt.hasB_iff (L := K) (by have := hK.a0; omega) (y, (i : Int))
      by_cases hb : L.has (y, (i : Int)) ∧ K.has (y, (i : Int))
      · rw [b1.mpr hb.1] at r1
        rw [b2.mpr hb.2] at r2
        refine ⟨_, _, ?_, .inr ⟨_, rfl, (i : Int), by omega, by omega, hb.1, hb.2, rfl, some (.int (W L K)), k, some (.int y), some (.int (i : Nat)), rfl⟩⟩
        refine exs_ret ?_
        simp [t_law_meeting_3_2a_1_1, rdS, asA, getA, lend, sLen, sq_mk, r1, r2, back, mvS] <;> rfl
      · refine ⟨_, _, ?_, .inl ⟨rfl, fun z z0 z1 => ?_, some (.int (i : Nat)), rfl⟩⟩
        · refine (exs_step (ex_iteF (en' := oE6 L K (some (.int (W L K))) k (some (.int y)) (some (.int (i : Nat)))) ?_ q_exs_nil)).trans q_exs_nil
          by_cases hb1 : L.has (y, (i : Int))
          · have hb2 : K.hasB (y, (i : Int)) = false := by
              rw [← Bool.not_eq_true, b2]; exact fun h => hb ⟨hb1, h⟩
            rw [b1.mpr hb1] at r1
            rw [hb2] at r2
            simp [rdS, asA, getA, lend, sLen, sq_mk, r1, r2, back]
          · have hb2 : L.hasB (y, (i : Int)) = false := by
              rw [← Bool.not_eq_true, b1]; exact hb1
            rw [hb2] at r1
            simp [rdS, asA, getA, lend, sLen, sq_mk, r1, back]
        · by_cases hz : z = (i : Int)
          · subst hz; exact hb
          · exact hi z z0 (by omega)) ⟨fun z z0 z1 => by omega, c, rfl⟩
  refine ⟨fl, en, ex_for (evI_rng (i := W L K) (by simp [rdS]) (by rw [hn]; exact rng_ok (n := n) (by omega))) h1, ?_⟩
  rcases h2 with ⟨rfl, hi, c', rfl⟩ | ⟨v, rfl, x, x0, x1, g1, g2, rfl, w, k, h, c, rfl⟩
  · refine .inl ⟨rfl, fun z z0 z1 => hi z z0 ?_, c', rfl⟩
    rw [hn, rngP_len]
    omega
  · exact .inr ⟨x, x0, x1, g1, g2, rfl, w, k, h, c, rfl⟩
theorem run_law_meeting (hL : L.Ok) (hK : K.Ok) (sL : Sm6 L) (sK : Sm6 K) : ∃ C : Lt, run c__law_meeting [L.pv, K.pv] = .ok (C.pv, [L.pv, K.pv]) ∧ Mt L K C := by
  have i2 := (pv_i L).2.2
  have i0 := (pv_i L).1
  have j2 := (pv_i K).2.2
  have j0 := (pv_i K).1
  have d1 := hL.d0; have d2 := hK.d0; have a1 := hL.a0; have a2 := hK.a0
  have sa := sL.a; have sb := sK.a; have sc := sK.d; have sd := sL.d
  have hW : W L K ≤ 40000 := Int.le_trans (W_le hL hK) (by have := Int.mul_le_mul sd sc (by omega) (by omega); omega)
  have hkk : K.a * K.d ≤ 2000 * 200 := Int.mul_le_mul sb sc (by omega) (by omega)
  have hk1 : 0 < K.a * K.d := Int.mul_pos a2 d2
  have mO : mulOk K.a K.d = true := mul_big (Nat.lt_of_lt_of_le (show K.a.natAbs < 2 ^ 11 by omega) (Nat.pow_le_pow_right (by decide) (by decide))) (Nat.lt_of_lt_of_le (show K.d.natAbs < 2 ^ 11 by omega) (Nat.pow_le_pow_right (by decide) (by decide)))
  have hka0 : ¬ K.a = 0 := by omega
  have e1 : ex t_law_meeting_1 (oE6 L K none none none none) = .ok (.nxt, oE6 L K (some (.int (1 * L.d))) none none none) := by
    rw [Int.one_mul]
    simp [t_law_meeting_1, asA, getA, i2, setT_v]
  obtain ⟨nd, hnd⟩ : ∃ nd : Nat, K.d = nd := ⟨K.d.toNat, by omega⟩
  obtain ⟨en, h2, j, k0, hj, hm, hx, rfl⟩ := loop_rng (b := forB (.var 3) t_law_meeting_2B) (n := nd) (fun i en => ∃ (j : Int) (k0 : Option PV), 0 < j ∧ (∀ i, 0 < i → i < j → ¬ K.d ∣ i * L.d) ∧ (K.d ∣ j * L.d ∨ j = (i : Int) + 1) ∧ en = oE6 L K (some (.int (j * L.d))) k0 none none)
    (env := oE6 L K (some (.int (1 * L.d))) none none none) (fun i en hi ⟨j, k0, hj, hm, hx, e⟩ => by
      subst e
      obtain ⟨j', g1, g2, g3, g4⟩ := lw_turn (k0 := k0) (i := i) hL hK hj hm hx
      exact ⟨_, g4, j', _, g1, g2, g3, rfl⟩) ⟨1, none, by decide, fun i h0 h1 => by omega, .inr (by simp), rfl⟩
  have hjd : K.d ∣ j * L.d := by
    rcases hx with h | h
    · exact h
    · exact absurd (Int.dvd_mul_right _ _) (hm K.d (by omega) (by omega))
  rw [W_of hL hK hj hjd hm] at h2
  have e2 : ex t_law_meeting_2 (oE6 L K (some (.int (1 * L.d))) none none none) = .ok (.nxt, oE6 L K (some (.int (W L K))) k0 none none) :=
    ex_for (evI_rng (i := (nd : Int)) (by simp [asA, getA, j2, hnd]) (rng_ok (n := nd) (by omega))) h2
  obtain ⟨fl, en, h3, h4⟩ := loopF_ret (b := forB (.var 3) t_law_meeting_3B) (xs := rngP 1 (K.a * K.d + 1)) (k := 0)
    (fun i en => (∀ k : Int, 0 < k → k < (i : Int) + 1 → ∀ z, 0 ≤ z → z < W L K → ¬ (L.has (k * L.a, z) ∧ K.has (k * L.a, z))) ∧ ∃ k y x, en = oE6 L K (some (.int (W L K))) k y x)
    (fun v en => ∃ k x, Fst L K k x ∧ v = (Lt.mk (k * L.a) x (W L K)).pv ∧ ∃ w k h c, en = oE6 L K w k h c)
    (env := oE6 L K (some (.int (W L K))) k0 none none)
    (fun i v en hx ⟨hi, k1, y1, x1, e⟩ => by
      subst e
      obtain ⟨k, hk0, hkr, rfl, hki⟩ : ∃ k : Int, 0 < k ∧ k ≤ K.a * K.d ∧ v = .int k ∧ k = (i : Int) + 1 := by
        have := rngP2_get hx
        obtain ⟨g1, g2⟩ := this
        exact ⟨1 + (i : Int), by omega, by omega, g2, by omega⟩
      have h0 : forB (.var 3) t_law_meeting_3B (.int k) (oE6 L K (some (.int (W L K))) k1 y1 x1) = exs t_law_meeting_3B (oE6 L K (some (.int (W L K))) (some (.int k)) y1 x1) := by simp [forB, setT]
      rw [h0]
      have hka : k * L.a ≤ 400000 * 2000 := Int.mul_le_mul (by omega) sa (by omega) (by omega)
      have hkp : 0 < k * L.a := Int.mul_pos hk0 a1
      have hy : (k * L.a).natAbs < 2 ^ 900 := Nat.lt_of_lt_of_le (show (k * L.a).natAbs < 2 ^ 40 by omega) (Nat.pow_le_pow_right (by decide) (by decide))
      have mk : mulOk k L.a = true := mul_big (Nat.lt_of_lt_of_le (show k.natAbs < 2 ^ 20 by omega) (Nat.pow_le_pow_right (by decide) (by decide))) (Nat.lt_of_lt_of_le (show L.a.natAbs < 2 ^ 11 by omega) (Nat.pow_le_pow_right (by decide) (by decide)))
      have e1 : ex t_law_meeting_3_1 (oE6 L K (some (.int (W L K))) (some (.int k)) y1 x1) = .ok (.nxt, oE6 L K (some (.int (W L K))) (some (.int k)) (some (.int (k * L.a))) x1) := by
        simp [t_law_meeting_3_1, rdS, asA, getA, i0, mk, setT_v]
      have hmn : ∀ i', 0 < i' → i' < k → ∀ z, 0 ≤ z → z < W L K → ¬ (L.has (i' * L.a, z) ∧ K.has (i' * L.a, z)) := fun i' g0 g1 => hi i' g0 (by omega)
      have next : ∀ (hno : ∀ z, 0 ≤ z → z < W L K → ¬ (L.has (k * L.a, z) ∧ K.has (k * L.a, z))), ∀ i' : Int, 0 < i' → i' < ((i + 1 : Nat) : Int) + 1 → ∀ z, 0 ≤ z → z < W L K → ¬ (L.has (i' * L.a, z) ∧ K.has (i' * L.a, z)) := fun hno i' g0 g1 => by
        by_cases hz : i' = k
        · subst hz; exact hno
        · exact hi i' g0 (by omega)
      unfold t_law_meeting_3B
      rw [exs_step e1, Nat.zero_add]
      by_cases hd : K.a ∣ k * L.a
      · have hc : ev (.cmp .eq (.bin .mod (.var 4) (.idx (.var 1) (.lit (.int 0)))) (.lit (.int 0))) (oE6 L K (some (.int (W L K))) (some (.int k)) (some (.int (k * L.a))) x1) = .ok (.bl true, oE6 L K (some (.int (W L K))) (some (.int k)) (some (.int (k * L.a))) x1) := by
          have := (fm (k * L.a) K.a).mpr hd
          simp [rdS, asA, getA, j0, hka0, this]
        obtain ⟨fl, en, h1, h2⟩ := lrow_find hL hK (sL.sz hL) (sK.sz hK) (y := k * L.a) (k := some (.int k)) hy (by omega) (c := x1)
        rcases h2 with ⟨rfl, hno, c', rfl⟩ | ⟨x, x0, xW, g1, g2, rfl, w, k', h, c', rfl⟩
        · refine ⟨_, _, ?_, .inl ⟨rfl, next hno, some (.int k), some (.int (k * L.a)), c', rfl⟩⟩
          refine (exs_step ?_).trans q_exs_nil
          unfold t_law_meeting_3_2
          refine ex_iteT hc ?_
          exact (exs_step h1).trans q_exs_nil
        · refine ⟨_, _, ?_, .inr ⟨_, rfl, k, x, ⟨hk0, x0, xW, g1, g2, hmn⟩, rfl, w, k', h, c', rfl⟩⟩
          refine exs_ret ?_
          unfold t_law_meeting_3_2
          exact ex_iteT hc (exs_ret h1)
      · refine ⟨_, _, ?_, .inl ⟨rfl, next (fun z _ _ hz => hd ?_), some (.int k), some (.int (k * L.a)), x1, rfl⟩⟩
        · refine (exs_step ?_).trans q_exs_nil
          unfold t_law_meeting_3_2
          refine ex_iteF (en' := oE6 L K (some (.int (W L K))) (some (.int k)) (some (.int (k * L.a))) x1) ?_ q_exs_nil
          have : ¬ (k * L.a).fmod K.a = 0 := fun e => hd ((fm _ _).mp e)
          simp [rdS, asA, getA, j0, hka0, this]
        · obtain ⟨p, q, e, _⟩ := has_iff.mp hz.2
          rw [e]; exact Int.dvd_mul_left _ _) ⟨fun k g0 g1 => by omega, k0, none, none, rfl⟩
  have e3 : ex t_law_meeting_3 (oE6 L K (some (.int (W L K))) k0 none none) = .ok (fl, en) := by
    refine ex_for (evI_rng2 (env' := oE6 L K (some (.int (W L K))) k0 none none) (env2 := oE6 L K (some (.int (W L K))) k0 none none) (i := 1) (j := K.a * K.d + 1) (by simp) (by simp [asA, getA, j0, j2, mO]) (by decide) ?_) h3
    have := rng_ok (n := (K.a * K.d + 1).toNat) (by omega)
    rw [show (((K.a * K.d + 1).toNat : Nat) : Int) = K.a * K.d + 1 by omega] at this
    exact this
  have hF : freeA [L.pv, K.pv] (asgB (.cons t_law_meeting_1 (.cons t_law_meeting_2 (.cons t_law_meeting_3 (.cons t_law_meeting_4 .nil))))) = true := by
    unfold freeA
    rw [List.all_eq_true]
    intro i hi
    match i with
    | 0 => rfl
    | 1 => rfl
    | i + 2 => rfl
  rcases h4 with ⟨_, hi, _⟩ | ⟨v, rfl, k, x, hf, rfl, w, k', h, c, rfl⟩
  · exfalso
    obtain ⟨z, z0, z1, g1, g2⟩ := fst_ex hL hK
    refine hi (K.a * K.d) hk1 ?_ z z0 z1 ⟨g1, g2⟩
    have hl : (rngP 1 (K.a * K.d + 1)).length = (K.a * K.d).toNat := by rw [rngP2_len]; congr 1; omega
    rw [hl]; omega
  · exact ⟨_, run_ok rfl (by decide) hF ((exs_step e1).trans <| (exs_step e2).trans <| exs_ret e3) (by simp [outs]), ⟨hf.ok hL, hf.meet hL hK⟩⟩
end
end K06

set_option maxRecDepth 100000
set_option maxHeartbeats 4000000
set_option exponentiation.threshold 1000
namespace K06
open PySem PySem.Spec L2 EL EX
open K05 (c__law_has run_law_has)
section
variable {L K : Lt}
/-! ### the walk: sums -/
abbrev vE (L : Lt) (v : Vc) (d h m l : Option PV) : EL.Env := [some L.pv, some (sq v), some (.int L.a), some (.int L.b), d, h, m, l]
/-- sums of multiples of two numbers -/
def C2 (d l z : Int) : Prop := ∃ i j : Int, z = i * d + j * l
theorem C2.step (d l k z : Int) : C2 l (d - l * k) z ↔ C2 d l z := by
  constructor
  · rintro ⟨i, j, rfl⟩
    exact ⟨j, i - j * k, by rw [Int.mul_sub, Int.sub_mul, Int.mul_assoc j k, Int.mul_comm k]; omega⟩
  · rintro ⟨i, j, rfl⟩
    exact ⟨j + i * k, i, by rw [Int.mul_sub, Int.add_mul, Int.mul_assoc i k, Int.mul_comm k]; omega⟩
theorem wv_loop {v : Vc} {h m : Option PV} (hh : ∀ x, h = some x → isOwn x = false) : ∀ (r n : Nat) (d l : Int), 0 < d → 0 ≤ l → l ≤ r → r < n → r < 100000000 →
    ∃ d', 0 < d' ∧ (∀ z, d' ∣ z ↔ C2 d l z) ∧ loopW (fun e => ev (.cmp .ne (.var 7) (.lit (.int 0))) e) (fun e => exs t_with_vector_3B e) n (vE L v (some (.int d)) h m (some (.int l))) = .ok (.nxt, vE L v (some (.int d')) h m (some (.int 0)))
  | r, 0, d, l, _, _, _, hn, _ => by omega
  | r, n + 1, d, l, hd, hl, hr, hn, hb => by
    unfold loopW
    have hc : ev (.cmp .ne (.var 7) (.lit (.int 0))) (vE L v (some (.int d)) h m (some (.int l))) = .ok (.bl (!decide (l = 0)), vE L v (some (.int d)) h m (some (.int l))) := by
      simp [asA, getA]
    rw [hc, R.bind_ok]
    by_cases h0 : l = 0
    · subst h0
      refine ⟨d, hd, fun z => ⟨fun ⟨i, e⟩ => ⟨i, 0, by rw [e, Int.mul_comm]; simp⟩, fun ⟨i, j, e⟩ => ⟨i, by rw [e, Int.mul_comm]; simp⟩⟩, ?_⟩
      rfl
    · have hl0 : 0 < l := by omega
      have e1 : exs t_with_vector_3B (vE L v (some (.int d)) h m (some (.int l))) = .ok (.nxt, vE L v (some (.int l)) h m (some (.int (d % l)))) := by
        have : d.fmod l = d % l := Int.fmod_eq_emod_of_nonneg _ hl
        simp [t_with_vector_3B, t_with_vector_3_1, rdS, asA, getA, h0, this]
      rw [decide_eq_false h0]
      simp only [Bool.not_false, e1, R.bind_ok]
      have m0 := Int.emod_nonneg d h0
      have m1 := Int.emod_lt_of_pos d hl0
      obtain ⟨d', g1, g2, g3⟩ := wv_loop hh (r - 1) n l (d % l) hl0 m0 (by omega) (by omega) (by omega)
      refine ⟨d', g1, fun z => ?_, g3⟩
      rw [g2, ← C2.step d l (d / l) z]
      have : d % l = d - l * (d / l) := by have := Int.mul_ediv_add_emod d l; omega
      rw [this]
/-- a lattice and the multiples of a vector -/
structure Wv (L : Lt) (v : Vc) (S : Lt) : Prop where
  ok : S.Ok
  has : ∀ t : Vc, S.has t ↔ ∃ y x z, L.has (y, x) ∧ t = (y + z * v.1, x + z * v.2)
theorem run_with (hL : L.Ok) (sL : Sm6 L) {v : Vc} (hv : v.1.natAbs ≤ 2000 ∧ v.2.natAbs ≤ 2000) : ∃ S : Lt, run c_with_vector [L.pv, sq v] = .ok (S.pv, [L.pv, sq v]) ∧ Wv L v S := by
  have a1 := hL.a0; have d1 := hL.d0; have b0 := hL.b0; have b1 := hL.b1
  have sa := sL.a; have sd := sL.d
  have p11 : ∀ {n : Nat}, n ≤ 2000 → n < 2 ^ 200 := fun h => Nat.lt_of_lt_of_le (show _ < 2 ^ 11 by omega) (Nat.pow_le_pow_right (by decide) (by decide))
  obtain ⟨h, m, l, rc, h0, l0, hcb, hdet⟩ := run_common (v := (L.a, L.b)) (w := v) ⟨p11 (by simp only; omega), p11 (by simp only; omega)⟩ ⟨p11 hv.1, p11 hv.2⟩
  have hh0 : 0 < h := by
    rcases Int.lt_or_eq_of_le h0 with g | g
    · exact g
    · exfalso
      obtain ⟨x, y, e1, _⟩ := (hcb _).mpr (Cb.l (L.a, L.b) v)
      simp only at e1
      rw [← g] at e1
      simp at e1
      omega
  have hlb : l ≤ 10000000 := by
    have g1 : l ≤ h * l := by
      have : 1 * l ≤ h * l := Int.mul_le_mul_of_nonneg_right (by omega) l0
      omega
    have g2 : (det (L.a, L.b) v).natAbs ≤ 2000 * 2000 + 2000 * 2000 := by
      unfold det
      have k1 : (L.a * v.2).natAbs ≤ 2000 * 2000 := by rw [Int.natAbs_mul]; exact Nat.mul_le_mul (by omega) hv.2
      have k2 : (L.b * v.1).natAbs ≤ 2000 * 2000 := by rw [Int.natAbs_mul]; exact Nat.mul_le_mul (by omega) hv.1
      simp only; omega
    omega
  have e1 : ex t_with_vector_1 [some L.pv, some (sq v), none, none, none, none, none, none] = .ok (.nxt, vE L v (some (.int L.d)) none none none) := by
    have st : setT (.tup [2, 3, 4]) L.pv [some L.pv, some (sq v), none, none, none, none, none, none] = some (vE L v (some (.int L.d)) none none none) := rfl
    simp [t_with_vector_1, rdS, st]
  have e2 : ex t_with_vector_2 (vE L v (some (.int L.d)) none none none) = .ok (.nxt, vE L v (some (.int L.d)) (some (.int h)) (some (.int m)) (some (.int l))) := by
    have st : setT (.tup [5, 6, 7]) (.tup [.int h, .int m, .int l]) (vE L v (some (.int L.d)) none none none) = some (vE L v (some (.int L.d)) (some (.int h)) (some (.int m)) (some (.int l))) := rfl
    simp [t_with_vector_2, rdS, asA, getA, lend, sLen, sq_mk, rc, back, st]
  obtain ⟨d', hd', hz, e3'⟩ := wv_loop (L := L) (v := v) (h := some (.int h)) (m := some (.int m)) (fun x e => by cases e; rfl) l.toNat FUEL L.d l d1 l0 (by omega) (Nat.lt_trans (show l.toNat < 20000000 by omega) (by decide)) (by omega)
  have e3 : ex t_with_vector_3 (vE L v (some (.int L.d)) (some (.int h)) (some (.int m)) (some (.int l))) = .ok (.nxt, vE L v (some (.int d')) (some (.int h)) (some (.int m)) (some (.int 0))) := by
    unfold t_with_vector_3
    rw [q_ex_whl]
    exact e3'
  have hd0 : ¬ d' = 0 := by omega
  refine ⟨⟨h, m.fmod d', d'⟩, run_ok (en := vE L v (some (.int d')) (some (.int h)) (some (.int m)) (some (.int 0))) rfl (by decide) ?_ ((exs_step e1).trans <| (exs_step e2).trans <| (exs_step e3).trans <| exs_ret ?_) (by simp [outs]), ⟨⟨hh0, hd', ?_, ?_⟩, fun t => ?_⟩⟩
  · unfold freeA
    rw [List.all_eq_true]
    intro i hi
    match i with
    | 0 => rfl
    | 1 => rfl
    | i + 2 => rfl
  · simp [t_with_vector_4, rdS, asA, getA, sLen, mvS, hd0] <;> rfl
  · show 0 ≤ m.fmod d'
    rw [Int.fmod_eq_emod_of_nonneg _ (by omega)]
    exact Int.emod_nonneg _ hd0
  · show m.fmod d' < d'
    rw [Int.fmod_eq_emod_of_nonneg _ (by omega)]
    exact Int.emod_lt_of_pos _ hd'
  · show Cb (h, m.fmod d') (0, d') t ↔ _
    rw [mod_has]
    constructor
    · rintro ⟨p, q, e1, e2⟩
      simp only at e1 e2
      obtain ⟨i, j, e⟩ := (hz (q * d')).mp (Int.dvd_mul_left _ _)
      obtain ⟨x, z, f1, f2⟩ := (hcb (p * h, p * m + j * l)).mp ⟨p, j, by simp, rfl⟩
      simp only at f1 f2
      refine ⟨x * L.a, x * L.b + i * L.d, z, has_iff.mpr ⟨x, i, rfl, rfl⟩, Prod.ext ?_ ?_⟩
      · simp only; rw [e1]; omega
      · simp only; rw [e2, e]; omega
    · rintro ⟨y, x, z, hy, rfl⟩
      obtain ⟨p, q, rfl, rfl⟩ := has_iff.mp hy
      obtain ⟨i, j, f1, f2⟩ := (hcb (p * L.a + z * v.1, p * L.b + z * v.2)).mpr ⟨p, z, rfl, rfl⟩
      simp only at f1 f2
      obtain ⟨c, hc⟩ := (hz (q * L.d + j * l)).mpr ⟨q, j, rfl⟩
      refine ⟨i, c, ?_, ?_⟩
      · simp only; omega
      · simp only; rw [Int.mul_comm c, ← hc]; omega
/-- a sum -/
structure Sm (L K S : Lt) : Prop where
  ok : S.Ok
  has : ∀ t, S.has t ↔ Sum L K t
theorem Sm.uniq {S T : Lt} (h : Sm L K S) (h' : Sm L K T) : S = T := Lt.ext_has h.ok h'.ok fun t => by rw [h.has, h'.has]
theorem Sm.swap {S : Lt} (h : Sm L K S) : Sm K L S := ⟨h.ok, fun t => by
  rw [h.has]
  constructor
  · rintro ⟨y, x, y', x', h1, h2, rfl⟩; exact ⟨_, _, _, _, h2, h1, Prod.ext (Int.add_comm _ _) (Int.add_comm _ _)⟩
  · rintro ⟨y, x, y', x', h1, h2, rfl⟩; exact ⟨_, _, _, _, h2, h1, Prod.ext (Int.add_comm _ _) (Int.add_comm _ _)⟩⟩
theorem has_00 (L : Lt) : L.has (0, 0) := has_iff.mpr ⟨0, 0, by simp, by simp⟩
theorem Wv.le {v : Vc} {S : Lt} (hL : L.Ok) (h : Wv L v S) : S.a ≤ L.a ∧ S.d ≤ L.d := by
  have a1 := hL.a0; have d1 := hL.d0
  have h1 : S.has (L.a, L.b) := (h.has _).mpr ⟨_, _, 0, has_1 L, by simp⟩
  have h2 : S.has (0, L.d) := (h.has _).mpr ⟨_, _, 0, has_2 L, by simp⟩
  obtain ⟨p, q, e, _⟩ := has_iff.mp h1
  exact ⟨Int.le_of_dvd a1 ⟨p, by rw [Int.mul_comm]; exact e⟩, Int.le_of_dvd d1 ((has_0 h.ok).mp h2)⟩
theorem run_sum (hL : L.Ok) (hK : K.Ok) (sL : Sm6 L) (sK : Sm6 K) : ∃ S : Lt, run c_lattice_sum [L.pv, K.pv] = .ok (S.pv, [L.pv, K.pv]) ∧ Sm L K S ∧ S.a ≤ L.a ∧ S.d ≤ L.d := by
  have a2 := hK.a0; have d2 := hK.d0; have b2 := hK.b0; have b3 := hK.b1
  have sa := sL.a; have sd := sL.d; have ka := sK.a; have kd := sK.d
  obtain ⟨S1, r1, w1⟩ := run_with hL sL (v := (K.a, K.b)) ⟨by simp only; omega, by simp only; omega⟩
  have l1 := w1.le hL
  obtain ⟨S2, r2, w2⟩ := run_with w1.ok ⟨by omega, by omega⟩ (v := (0, K.d)) ⟨by simp only; omega, by simp only; omega⟩
  have l2 := w2.le w1.ok
  have rb := run_basis K
  have q1 : ∀ x, forB (.var 2) t_lattice_sum_1B (sq (K.a, K.b)) [some L.pv, some K.pv, x] = .ok (.nxt, [some S1.pv, some K.pv, some (sq (K.a, K.b))]) := fun x => by
    show exs t_lattice_sum_1B [some L.pv, some K.pv, some (sq (K.a, K.b))] = _
    simp [t_lattice_sum_1B, t_lattice_sum_1_1, asA, lend, r1, back, setT_v]
  have q2 : ∀ x, forB (.var 2) t_lattice_sum_1B (sq (0, K.d)) [some S1.pv, some K.pv, x] = .ok (.nxt, [some S2.pv, some K.pv, some (sq (0, K.d))]) := fun x => by
    show exs t_lattice_sum_1B [some S1.pv, some K.pv, some (sq (0, K.d))] = _
    simp [t_lattice_sum_1B, t_lattice_sum_1_1, asA, lend, r2, back, setT_v]
  have e1 : ex t_lattice_sum_1 [some L.pv, some K.pv, none] = .ok (.nxt, [some S2.pv, some K.pv, some (sq (0, K.d))]) := by
    unfold t_lattice_sum_1
    refine ex_for (en' := [some L.pv, some K.pv, none]) (xs := [sq (K.a, K.b), sq (0, K.d)]) ?_ ?_
    · simp [asA, lend, rb, back, itemsP]
    · simp [loopF, q1, q2]
  have hF : freeA [L.pv, K.pv] (asgB (.cons t_lattice_sum_1 (.cons t_lattice_sum_2 .nil))) = true := by
    unfold freeA
    rw [List.all_eq_true]
    intro i hi
    match i with
    | 0 => rfl
    | 1 => rfl
    | i + 2 => rfl
  refine ⟨S2, run_ok (en := [some S2.pv, some K.pv, some (sq (0, K.d))]) rfl (by decide) hF ((exs_step e1).trans (exs_ret (by simp [t_lattice_sum_2, rdS]))) (by simp [outs]), ⟨w2.ok, fun t => ?_⟩, by omega, by omega⟩
  rw [w2.has]
  constructor
  · rintro ⟨y, x, z, h1, rfl⟩
    obtain ⟨y', x', z', h2, e⟩ := (w1.has _).mp h1
    have e1 := congrArg Prod.fst e
    have e2 := congrArg Prod.snd e
    simp only at e1 e2
    refine ⟨y', x', z' * K.a, z' * K.b + z * K.d, h2, has_iff.mpr ⟨z', z, rfl, rfl⟩, Prod.ext ?_ ?_⟩
    · simp only; omega
    · simp only; omega
  · rintro ⟨y, x, y', x', h1, h2, rfl⟩
    obtain ⟨p, q, rfl, rfl⟩ := has_iff.mp h2
    refine ⟨y + p * K.a, x + p * K.b, q, (w1.has _).mpr ⟨y, x, p, h1, rfl⟩, Prod.ext ?_ ?_⟩
    · simp only; omega
    · simp only; omega
/-! ### a vector of a sum, parted -/
theorem parted_ex (hL : L.Ok) (hK : K.Ok) {y x : Int} (h : Sum L K (y, x)) : ∃ i j : Int, 0 ≤ i ∧ i < K.a * K.d ∧ 0 ≤ j ∧ j < K.d ∧ K.has (y - i * L.a, x - i * L.b - j * L.d) := by
  have a2 := hK.a0; have d2 := hK.d0
  have hp : 0 < K.a * K.d := Int.mul_pos a2 d2
  obtain ⟨u, v, u', v', h1, h2, e⟩ := h
  have e1 := congrArg Prod.fst e
  have e2 := congrArg Prod.snd e
  simp only at e1 e2
  obtain ⟨p, q, rfl, rfl⟩ := has_iff.mp h1
  refine ⟨p % (K.a * K.d), q % K.d, Int.emod_nonneg _ (by omega), Int.emod_lt_of_pos _ hp, Int.emod_nonneg _ (by omega), Int.emod_lt_of_pos _ d2, ?_⟩
  -- K.a * K.d times the first vector of L is one of K, but for columns that K.d divides
  have g1 : K.has (K.a * K.d * L.a, K.a * K.d * L.b) := by
    refine has_iff.mpr ⟨K.d * L.a, K.a * L.b - L.a * K.b, by rw [Int.mul_comm K.a, Int.mul_right_comm], ?_⟩
    rw [Int.sub_mul]
    have e1 : K.d * L.a * K.b = L.a * K.b * K.d := by rw [Int.mul_comm K.d, Int.mul_right_comm]
    have e2 : K.a * K.d * L.b = K.a * L.b * K.d := Int.mul_right_comm _ _ _
    omega
  have g2 : K.has (0, q / K.d * (K.d * L.d)) := (has_0 hK).mpr (Int.dvd_trans (Int.dvd_mul_right _ _) (Int.dvd_mul_left _ _))
  have g3 := has_add (has_add h2 (has_mul (p / (K.a * K.d)) g1)) g2
  have ep := Int.mul_ediv_add_emod p (K.a * K.d)
  have eq := Int.mul_ediv_add_emod q K.d
  have c1 : p * L.a = p / (K.a * K.d) * (K.a * K.d * L.a) + p % (K.a * K.d) * L.a := by
    rw [← Int.mul_assoc, Int.mul_comm (p / (K.a * K.d)), ← Int.add_mul, ep]
  have c2 : p * L.b = p / (K.a * K.d) * (K.a * K.d * L.b) + p % (K.a * K.d) * L.b := by
    rw [← Int.mul_assoc, Int.mul_comm (p / (K.a * K.d)), ← Int.add_mul, ep]
  have c3 : q * L.d = q / K.d * (K.d * L.d) + q % K.d * L.d := by
    rw [← Int.mul_assoc, Int.mul_comm (q / K.d), ← Int.add_mul, eq]
  rw [show y - p % (K.a * K.d) * L.a = u' + p / (K.a * K.d) * (K.a * K.d * L.a) + 0 by omega, show x - p % (K.a * K.d) * L.b - q % K.d * L.d = v' + p / (K.a * K.d) * (K.a * K.d * L.b) + q / K.d * (K.d * L.d) by omega]
  exact g3
end
end K06

set_option maxRecDepth 100000
set_option maxHeartbeats 4000000
set_option exponentiation.threshold 1000
namespace K06
open PySem PySem.Spec L2 EL EX
open K05 (c__law_has run_law_has c__law_is_lattice run_law_islat same_L same_i same_ij)
section
variable {L K : Lt}
theorem m1000 {i : Int} (h : i.natAbs ≤ 1000000000) : i.natAbs < 2 ^ 1000 := Nat.lt_of_lt_of_le (show i.natAbs < 2 ^ 31 by omega) (Nat.pow_le_pow_right (by decide) (by decide))
theorem mO {i j : Int} (h : i.natAbs ≤ 1000000000) (h' : j.natAbs ≤ 1000000000) : mulOk i j = true := mul_big (m1000 h) (m1000 h')
/-! ### parted -/
abbrev pE6 (L K : Lt) (y x : Int) (i j : Option PV) : EL.Env := [some L.pv, some K.pv, some (.int y), some (.int x), i, j]
theorem mul_le6 {a b m n : Int} (h0 : 0 ≤ a) (h1 : a ≤ m) (h2 : 0 ≤ b) (h3 : b ≤ n) : 0 ≤ a * b ∧ a * b ≤ m * n := ⟨Int.mul_nonneg h0 h2, Int.mul_le_mul h1 h3 h2 (by omega)⟩
theorem part_row (hL : L.Ok) (hK : K.Ok) (sL : Sm6 L) (sK : Sm6 K) {y x i : Int} (hy : 0 ≤ y ∧ y ≤ 2000) (hi : 0 ≤ i ∧ i ≤ 400000) {j0 : Option PV} :
    ∃ fl en, ex t_law_parted_1_1a_1 (pE6 L K y x (some (.int i)) j0) = .ok (fl, en) ∧
      ((fl = .nxt ∧ (∀ j, 0 ≤ j → j < K.d → ¬ K.has (y - i * L.a, x - i * L.b - j * L.d)) ∧ ∃ j', en = pE6 L K y x (some (.int i)) j') ∨ (fl = .ret (.bl true) ∧ ∃ i' j', en = pE6 L K y x i' j')) := by
  have a1 := hL.a0; have d1 := hL.d0; have b0 := hL.b0; have b1 := hL.b1; have a2 := hK.a0; have d2 := hK.d0
  have sa := sL.a; have sd := sL.d; have ka := sK.a; have kd := sK.d
  have i0 := (pv_i L).1; have i1 := (pv_i L).2.1; have i2 := (pv_i L).2.2
  have j2 := (pv_i K).2.2
  obtain ⟨n, hn⟩ : ∃ n : Nat, K.d = n := ⟨K.d.toNat, by omega⟩
  have m1 : mulOk i L.a = true := mO (by omega) (by omega)
  have m2 : mulOk i L.b = true := mO (by omega) (by omega)
  have q1 := mul_le6 hi.1 hi.2 (show 0 ≤ L.a by omega) sa
  have hyy : (y - i * L.a).natAbs < 2 ^ 900 := Nat.lt_of_lt_of_le (show (y - i * L.a).natAbs < 2 ^ 40 by omega) (Nat.pow_le_pow_right (by decide) (by decide))
  obtain ⟨fl, en, h1, h2⟩ := loopF_ret (b := forB (.var 5) t_law_parted_1_1a_1B) (xs := rngP 0 K.d) (k := 0)
    (fun k en => (∀ j : Int, 0 ≤ j → j < k → ¬ K.has (y - i * L.a, x - i * L.b - j * L.d)) ∧ ∃ j', en = pE6 L K y x (some (.int i)) j')
    (fun v en => v = .bl true ∧ ∃ i' j', en = pE6 L K y x i' j')
    (env := pE6 L K y x (some (.int i)) j0)
    (fun k v en hx ⟨hi', j', e⟩ => by
      subst e
      rw [hn] at hx
      obtain ⟨hkn, rfl⟩ := rngP_get hx
      have h0 : forB (.var 5) t_law_parted_1_1a_1B (.int (k : Nat)) (pE6 L K y x (some (.int i)) j') = exs t_law_parted_1_1a_1B (pE6 L K y x (some (.int i)) (some (.int (k : Nat)))) := by simp [forB, setT]
      rw [h0]
      have m3 : mulOk (k : Int) L.d = true := mO (by omega) (by omega)
      have r1 := run_law_has hK (sK.sz hK) (y := y - i * L.a) (x := x - i * L.b - k * L.d) hyy
      have hb := Lt.hasB_iff (L := K) (by omega) (y - i * L.a, x - i * L.b - k * L.d)
      by_cases h : K.has (y - i * L.a, x - i * L.b - k * L.d)
      · rw [hb.mpr h] at r1
        refine ⟨_, _, ?_, .inr ⟨_, rfl, rfl, some (.int i), some (.int (k : Nat)), rfl⟩⟩
        refine exs_ret ?_
        simp [t_law_parted_1_1a_1_1, rdS, asA, getA, lend, i0, i1, i2, m1, m2, m3, r1, back]
      · have hb2 : K.hasB (y - i * L.a, x - i * L.b - k * L.d) = false := by rw [← Bool.not_eq_true, hb]; exact h
        rw [hb2] at r1
        refine ⟨_, _, ?_, .inl ⟨rfl, fun j g0 g1 => ?_, some (.int (k : Nat)), rfl⟩⟩
        · refine (exs_step ?_).trans q_exs_nil
          simp [t_law_parted_1_1a_1_1, rdS, asA, getA, lend, i0, i1, i2, m1, m2, m3, r1, back]
        · by_cases hj : j = (k : Int)
          · subst hj; exact h
          · exact hi' j g0 (by omega)) ⟨fun j g0 g1 => by omega, j0, rfl⟩
  refine ⟨fl, en, ex_for (evI_rng (i := K.d) (by simp [rdS, asA, getA, j2]) (by rw [hn]; exact rng_ok (n := n) (by omega))) h1, ?_⟩
  rcases h2 with ⟨rfl, h, j', rfl⟩ | ⟨v, rfl, rfl, i', j', rfl⟩
  · refine .inl ⟨rfl, fun j g0 g1 => h j g0 ?_, j', rfl⟩
    rw [hn, rngP_len]; omega
  · exact .inr ⟨rfl, i', j', rfl⟩
theorem run_parted (hL : L.Ok) (hK : K.Ok) (sL : Sm6 L) (sK : Sm6 K) {y x : Int} (hy : 0 ≤ y ∧ y ≤ 2000) (hs : Sum L K (y, x)) : run c__law_parted [L.pv, K.pv, .int y, .int x] = .ok (.bl true, [L.pv, K.pv, .int y, .int x]) := by
  have a1 := hL.a0; have d1 := hL.d0; have b0 := hL.b0; have b1 := hL.b1; have a2 := hK.a0; have d2 := hK.d0
  have sa := sL.a; have sd := sL.d; have ka := sK.a; have kd := sK.d
  have i0 := (pv_i L).1
  have j0 := (pv_i K).1; have j2 := (pv_i K).2.2
  have hkk := mul_le6 (show 0 ≤ K.a by omega) ka (show 0 ≤ K.d by omega) kd
  have hk1 : 0 < K.a * K.d := Int.mul_pos a2 d2
  have m0 : mulOk K.a K.d = true := mO (by omega) (by omega)
  have hk0 : ¬ K.a = 0 := by omega
  obtain ⟨n, hn⟩ : ∃ n : Nat, K.a * K.d = n := ⟨(K.a * K.d).toNat, by omega⟩
  obtain ⟨fl, en, h1, h2⟩ := loopF_ret (b := forB (.var 4) t_law_parted_1B) (xs := rngP 0 (K.a * K.d)) (k := 0)
    (fun k en => (∀ i : Int, 0 ≤ i → i < k → ∀ j, 0 ≤ j → j < K.d → ¬ K.has (y - i * L.a, x - i * L.b - j * L.d)) ∧ ∃ i' j', en = pE6 L K y x i' j')
    (fun v en => v = .bl true ∧ ∃ i' j', en = pE6 L K y x i' j')
    (env := pE6 L K y x none none)
    (fun k v en hx ⟨hi, i', j', e⟩ => by
      subst e
      rw [hn] at hx
      obtain ⟨hkn, rfl⟩ := rngP_get hx
      have h0 : forB (.var 4) t_law_parted_1B (.int (k : Nat)) (pE6 L K y x i' j') = exs t_law_parted_1B (pE6 L K y x (some (.int (k : Nat))) j') := by simp [forB, setT]
      rw [h0]
      have m1 : mulOk (k : Int) L.a = true := mO (by omega) (by omega)
      have next : ∀ (hno : ∀ j, 0 ≤ j → j < K.d → ¬ K.has (y - (k : Int) * L.a, x - (k : Int) * L.b - j * L.d)), ∀ i : Int, 0 ≤ i → i < ((0 + k + 1 : Nat) : Int) → ∀ j, 0 ≤ j → j < K.d → ¬ K.has (y - i * L.a, x - i * L.b - j * L.d) := fun hno i g0 g1 => by
        by_cases hz : i = (k : Int)
        · subst hz; exact hno
        · exact hi i g0 (by omega)
      by_cases hd : K.a ∣ y - (k : Int) * L.a
      · have hc : ev (.cmp .eq (.bin .mod (.bin .sub (.var 2) (.bin .mul (.var 4) (.idx (.var 0) (.lit (.int 0))))) (.idx (.var 1) (.lit (.int 0)))) (.lit (.int 0))) (pE6 L K y x (some (.int (k : Nat))) j') = .ok (.bl true, pE6 L K y x (some (.int (k : Nat))) j') := by
          have := (fm (y - (k : Int) * L.a) K.a).mpr hd
          simp [rdS, asA, getA, i0, j0, hk0, m1, this]
        obtain ⟨fl, en, g1, g2⟩ := part_row hL hK sL sK (x := x) (i := (k : Int)) hy ⟨by omega, by omega⟩ (j0 := j')
        rcases g2 with ⟨rfl, hno, j2, rfl⟩ | ⟨rfl, i2, j2, rfl⟩
        · refine ⟨_, _, ?_, .inl ⟨rfl, next hno, some (.int (k : Nat)), j2, rfl⟩⟩
          refine (exs_step ?_).trans q_exs_nil
          unfold t_law_parted_1_1
          refine ex_iteT hc ?_
          exact (exs_step g1).trans q_exs_nil
        · refine ⟨_, _, ?_, .inr ⟨_, rfl, rfl, i2, j2, rfl⟩⟩
          refine exs_ret ?_
          unfold t_law_parted_1_1
          exact ex_iteT hc (exs_ret g1)
      · refine ⟨_, _, ?_, .inl ⟨rfl, next (fun j _ _ hz => hd ?_), some (.int (k : Nat)), j', rfl⟩⟩
        · refine (exs_step ?_).trans q_exs_nil
          unfold t_law_parted_1_1
          refine ex_iteF (en' := pE6 L K y x (some (.int (k : Nat))) j') ?_ q_exs_nil
          have : ¬ (y - (k : Int) * L.a).fmod K.a = 0 := fun e => hd ((fm _ _).mp e)
          simp [rdS, asA, getA, i0, j0, hk0, m1, this]
        · obtain ⟨p, q, e, _⟩ := has_iff.mp hz
          rw [e]; exact Int.dvd_mul_left _ _) ⟨fun i g0 g1 => by omega, none, none, rfl⟩
  have e3 : ex t_law_parted_1 (pE6 L K y x none none) = .ok (fl, en) :=
    ex_for (evI_rng (i := K.a * K.d) (by simp [rdS, asA, getA, j0, j2, m0]) (by rw [hn]; exact rng_ok (n := n) (by omega))) h1
  have hF : freeA [L.pv, K.pv, .int y, .int x] (asgB (.cons t_law_parted_1 (.cons t_law_parted_2 .nil))) = true := by
    unfold freeA
    rw [List.all_eq_true]
    intro i hi
    match i with
    | 0 => rfl
    | 1 => rfl
    | 2 => rfl
    | 3 => rfl
    | i + 4 => rfl
  rcases h2 with ⟨_, h, _⟩ | ⟨v, rfl, rfl, i', j', rfl⟩
  · exfalso
    obtain ⟨i, j, g0, g1, g2, g3, g4⟩ := parted_ex hL hK hs
    refine h i g0 ?_ j g2 g3 g4
    rw [hn, rngP_len]; omega
  · exact run_ok rfl (by decide) hF (exs_ret e3) (by simp [outs])
/-! ### drawn lattices -/
theorem run_size {d : Deal} (ha : d.at_ < 900000) : ∃ (n : Int) (d' : Deal), 1 ≤ n ∧ n ≤ 12 ∧ run c__law_size [d.pv] = .ok (.int n, [d'.pv]) ∧ d'.at_ ≤ d.at_ + 2 := by
  have t1 := take_ok (d := d) (m := 8) (by omega) (by decide)
  have t2 := take_ok (d := d.nx) (m := 12) (by simp; omega) (by decide)
  have t3 := take_ok (d := d.nx) (m := 4) (by simp; omega) (by decide)
  have b1 := d.nx.tk_nn (m := 12) (by decide)
  have b2 := d.nx.tk_lt (m := 12) (by decide)
  have b3 := d.nx.tk_nn (m := 4) (by decide)
  have b4 := d.nx.tk_lt (m := 4) (by decide)
  by_cases h : d.tk 8 = 0
  · refine ⟨1 + d.nx.tk 12, d.nx.nx, by omega, by omega, ?_, by simp⟩
    simp [c__law_size, run_mk, freeA, asgB, asgS, asgT, outs, asA, getA, lend, back, t_law_size_1, t_law_size_2, t1, t2, h]
  · refine ⟨1 + d.nx.tk 4, d.nx.nx, by omega, by omega, ?_, by simp⟩
    simp [c__law_size, run_mk, freeA, asgB, asgS, asgT, outs, asA, getA, lend, back, t_law_size_1, t_law_size_2, t1, t3, h]
theorem run_drawn {d : Deal} (ha : d.at_ < 800000) : ∃ (L : Lt) (d' : Deal), L.Ok ∧ L.a ≤ 12 ∧ L.d ≤ 12 ∧ run c__law_drawn [d.pv] = .ok (L.pv, [d'.pv]) ∧ d'.at_ ≤ d.at_ + 5 := by
  obtain ⟨n, d1, n1, n2, r1, h1⟩ := run_size (d := d) (by omega)
  obtain ⟨m, d2, m1, m2, r2, h2⟩ := run_size (d := d1) (by omega)
  have t := take_ok (d := d2) (m := n) (by omega) (by omega)
  have b1 := d2.tk_nn (m := n) (by omega)
  have b2 := d2.tk_lt (m := n) (by omega)
  refine ⟨⟨m, d2.tk n, n⟩, d2.nx, ⟨by simp only; omega, by simp only; omega, b1, b2⟩, m2, n2, ?_, by simp; omega⟩
  have e1 : ex t_law_drawn_1 [some d.pv, none] = .ok (.nxt, [some d1.pv, some (.int n)]) := by
    simp [t_law_drawn_1, asA, lend, r1, back, setT_v]
  have e2 : ex t_law_drawn_2 [some d1.pv, some (.int n)] = .ok (.ret (Lt.pv ⟨m, d2.tk n, n⟩), [some d2.nx.pv, some (.int n)]) := by
    simp [t_law_drawn_2, rdS, asA, getA, lend, r2, t, back, sLen] <;> rfl
  exact run_ok rfl (by decide) (by simp [freeA, asgB, asgS, asgT, t_law_drawn_1, t_law_drawn_2]) ((exs_step e1).trans (exs_ret e2)) (by simp [outs])
theorem run_holds {S : Lt} (hS : S.Ok) (sS : Sm6 S) (hL : L.Ok) (sL : Sm6 L) (h1 : S.has (L.a, L.b)) (h2 : S.has (0, L.d)) : run c__law_holds [S.pv, L.pv] = .ok (.bl true, [S.pv, L.pv]) := by
  have a1 := hL.a0
  have sa := sL.a
  have i0 := (pv_i L).1; have i1 := (pv_i L).2.1; have i2 := (pv_i L).2.2
  have r1 := run_law_has hS (sS.sz hS) (y := L.a) (x := L.b) (small9 (by omega) (by omega))
  have r2 := run_law_has hS (sS.sz hS) (y := 0) (x := L.d) (small9 (by omega) (by omega))
  rw [(Lt.hasB_iff (by have := hS.a0; omega) _).mpr h1] at r1
  rw [(Lt.hasB_iff (by have := hS.a0; omega) _).mpr h2] at r2
  refine run_ok (en := [some S.pv, some L.pv]) rfl (by decide) (by simp [freeA, asgB, asgS, asgT, t_law_holds_1]) (exs_ret ?_) (by simp [outs])
  simp [t_law_holds_1, asA, getA, lend, i0, i1, i2, r1, r2, back]
theorem run_yes : run c__law_yes [.bl true] = .ok (.bl true, [.bl true]) := by
  simp [c__law_yes, run_mk, freeA, asgB, asgS, asgT, outs, asA, getA, getAs, rdS, bltP, isTy, t_law_yes_1, bool?]
theorem within_ok {X Y : Lt} (hX : X.Ok) (sX : Sm6 X) (hY : Y.Ok) (sY : Sm6 Y) (h : ∀ t, X.has t → Y.has t) : run c_is_within [X.pv, Y.pv] = .ok (.bl true, [X.pv, Y.pv]) := by
  have := run_within hX (sX.sz hX) hY (sY.sz hY)
  have a := hY.a0
  rw [(Lt.hasB_iff (by omega) _).mpr (h _ (has_1 X)), (Lt.hasB_iff (by omega) _).mpr (h _ (has_2 X))] at this
  exact this
theorem Sm.l {S : Lt} (h : Sm L K S) {t : Vc} (ht : L.has t) : S.has t := (h.has t).mpr ⟨t.1, t.2, 0, 0, ht, has_00 K, by simp⟩
theorem Sm.r {S : Lt} (h : Sm L K S) {t : Vc} (ht : K.has t) : S.has t := (h.has t).mpr ⟨0, 0, t.1, t.2, has_00 L, ht, by simp⟩
/-- a lattice within another: their sum is the other -/
theorem sum_of {X Y : Lt} (hY : Y.Ok) (h : ∀ t, X.has t → Y.has t) : Sm X Y Y := ⟨hY, fun t => ⟨fun ht => ⟨0, 0, t.1, t.2, has_00 X, ht, by simp⟩, by
  rintro ⟨y, x, y', x', h1, h2, rfl⟩
  exact has_add (h _ h1) h2⟩⟩
abbrev kE6 (S : PV) (d : Deal) (L K C W : Lt) (x p : Option PV) : EL.Env := [some S, some d.pv, some L.pv, some K.pv, some C.pv, some W.pv, x, p]
theorem lat_turn {S : PV} {d : Deal} {C W X : Lt} (hL : L.Ok) (hK : K.Ok) (hX : X.Ok) (sX : Sm6 X) (hC : C.Ok) (sC : Sm6 C) (hW : W.Ok) (sW : Sm6 W) (hCX : ∀ t, C.has t → X.has t) (hXW : ∀ t, X.has t → W.has t) {x : Option PV} :
    forB (.var 6) t_law_10B X.pv (kE6 S d L K C W x none) = .ok (.nxt, kE6 S d L K C W (some X.pv) none) := by
  have h0 : forB (.var 6) t_law_10B X.pv (kE6 S d L K C W x none) = exs t_law_10B (kE6 S d L K C W (some X.pv) none) := by simp [forB, setT]
  rw [h0]
  obtain ⟨A, r1, m1, _, _⟩ := run_meeting hX hX sX sX
  have : A = X := m1.uniq ⟨hX, fun t => by simp⟩
  subst this
  obtain ⟨A1, r2, m2, _, _⟩ := run_sum hX hX sX sX
  have e2 : A1 = A := m2.uniq (sum_of hX fun t h => h)
  subst e2
  obtain ⟨A2, r3, m3, _, _⟩ := run_meeting hX hW sX sW
  have e3 : A2 = A1 := m3.uniq ⟨hX, fun t => ⟨fun h => ⟨h, hXW t h⟩, fun h => h.1⟩⟩
  subst e3
  obtain ⟨A3, r4, m4, _, _⟩ := run_sum hC hX sC sX
  have e4 : A3 = A2 := m4.uniq (sum_of hX hCX)
  subst e4
  have r5 := within_ok hX sX hW sW hXW
  have r6 := within_ok hC sC hX sX hCX
  have s := same_L A3
  have f1 : ex t_law_10_1 (kE6 S d L K C W (some A3.pv) none) = .ok (.nxt, kE6 S d L K C W (some A3.pv) none) := by
    simp [t_law_10_1, asA, getA, getAs, lend, r1, back, s]
  have f2 : ex t_law_10_2 (kE6 S d L K C W (some A3.pv) none) = .ok (.nxt, kE6 S d L K C W (some A3.pv) none) := by
    simp [t_law_10_2, asA, getA, getAs, lend, r2, back, s]
  have f3 : ex t_law_10_3 (kE6 S d L K C W (some A3.pv) none) = .ok (.nxt, kE6 S d L K C W (some A3.pv) none) := by
    simp [t_law_10_3, asA, getA, getAs, lend, r3, back, s]
  have f4 : ex t_law_10_4 (kE6 S d L K C W (some A3.pv) none) = .ok (.nxt, kE6 S d L K C W (some A3.pv) none) := by
    simp [t_law_10_4, asA, getA, getAs, lend, r4, back, s]
  have f5 : ex t_law_10_5 (kE6 S d L K C W (some A3.pv) none) = .ok (.nxt, kE6 S d L K C W (some A3.pv) none) := by
    simp [t_law_10_5, asA, getA, getAs, lend, r5, r6, run_yes, back, s]
  exact (exs_step f1).trans <| (exs_step f2).trans <| (exs_step f3).trans <| (exs_step f4).trans <| (exs_step f5).trans q_exs_nil
theorem law_plain (ns : List Int) (hn : ns.length ≤ 63) : ∃ os, run c_law [.lst .ro (ns.map .int)] = .ok (.bl true, os) := by
  obtain ⟨d, d0, rd⟩ := run_deal hn
  obtain ⟨L, d1, hL, la, ld, r1, h1⟩ := run_drawn (d := d) (by omega)
  obtain ⟨K, d2, hK, ka, kd, r2, h2⟩ := run_drawn (d := d1) (by omega)
  have sL : Sm6 L := ⟨by omega, by omega⟩
  have sK : Sm6 K := ⟨by omega, by omega⟩
  have hSo : isOwn (.lst .ro (ns.map .int)) = false := rfl
  have e1 : ex t_law_1 [some (.lst .ro (ns.map .int)), none, none, none, none, none, none, none] = .ok (.nxt, [some (.lst .ro (ns.map .int)), some d.pv, none, none, none, none, none, none]) := by
    simp [t_law_1, asA, lend, rd, back, setT_v]
  generalize hS : PV.lst .ro (ns.map .int) = S at *
  have e2 : ex t_law_2 [some S, some d.pv, none, none, none, none, none, none] = .ok (.nxt, [some S, some d1.pv, some L.pv, none, none, none, none, none]) := by
    simp [t_law_2, asA, lend, r1, back, setT_v]
  have e3 : ex t_law_3 [some S, some d1.pv, some L.pv, none, none, none, none, none] = .ok (.nxt, [some S, some d2.pv, some L.pv, some K.pv, none, none, none, none]) := by
    simp [t_law_3, asA, lend, r2, back, setT_v]
  obtain ⟨C, rc, mc⟩ := run_law_meeting hL hK sL sK
  have e4 : ex t_law_4 [some S, some d2.pv, some L.pv, some K.pv, none, none, none, none] = .ok (.nxt, [some S, some d2.pv, some L.pv, some K.pv, some C.pv, none, none, none]) := by
    simp [t_law_4, asA, lend, rc, back, setT_v]
  obtain ⟨C1, q1, m1, ca, cd⟩ := run_meeting hL hK sL sK
  have : C1 = C := m1.uniq mc
  subst this
  obtain ⟨C2, q2, m2, _, _⟩ := run_meeting hK hL sK sL
  have : C2 = C1 := m2.swap.uniq mc
  subst this
  have a1 := hL.a0; have a2 := hK.a0; have b1 := hL.d0; have b2 := hK.d0
  have g1 := mul_le6 (show 0 ≤ K.a by omega) ka (show 0 ≤ K.d by omega) kd
  have g2 := mul_le6 g1.1 g1.2 (show 0 ≤ L.a by omega) la
  have g3 := mul_le6 (show 0 ≤ L.d by omega) ld (show 0 ≤ K.d by omega) kd
  have sC : Sm6 C2 := ⟨by omega, by omega⟩
  have hC := mc.ok
  have sc := same_L C2
  have e5 : ex t_law_5 [some S, some d2.pv, some L.pv, some K.pv, some C2.pv, none, none, none] = .ok (.nxt, [some S, some d2.pv, some L.pv, some K.pv, some C2.pv, none, none, none]) := by
    simp [t_law_5, asA, getA, getAs, lend, q1, q2, back, sc]
  obtain ⟨W, rw1, mw, wa, wd⟩ := run_sum hL hK sL sK
  have hW := mw.ok
  have sW : Sm6 W := ⟨by omega, by omega⟩
  have e6 : ex t_law_6 [some S, some d2.pv, some L.pv, some K.pv, some C2.pv, none, none, none] = .ok (.nxt, kE6 S d2 L K C2 W none none) := by
    simp [t_law_6, asA, lend, rw1, back, setT_v]
  have ri := run_law_islat hW
  have rh1 := run_holds hW sW hL sL (mw.l (has_1 L)) (mw.l (has_2 L))
  have rh2 := run_holds hW sW hK sK (mw.r (has_1 K)) (mw.r (has_2 K))
  have e7 : ex t_law_7 (kE6 S d2 L K C2 W none none) = .ok (.nxt, kE6 S d2 L K C2 W none none) := by
    simp [t_law_7, asA, getA, lend, ri, rh1, rh2, back]
  have w0 := hW.a0; have w1 := hW.d0
  have rp1 := run_parted hL hK sL sK (y := W.a) (x := W.b) ⟨by omega, by omega⟩ ((mw.has _).mp (has_1 W))
  have rp2 := run_parted hL hK sL sK (y := 0) (x := W.d) ⟨by omega, by omega⟩ ((mw.has _).mp (has_2 W))
  have i0 := (pv_i W).1; have i1 := (pv_i W).2.1; have i2 := (pv_i W).2.2
  have e8 : ex t_law_8 (kE6 S d2 L K C2 W none none) = .ok (.nxt, kE6 S d2 L K C2 W none none) := by
    simp [t_law_8, asA, getA, lend, i0, i1, i2, rp1, rp2, back]
  obtain ⟨W1, rw2, mw2, _, _⟩ := run_sum hK hL sK sL
  have : W1 = W := mw2.swap.uniq mw
  subst this
  have sw := same_L W1
  have e9 : ex t_law_9 (kE6 S d2 L K C2 W1 none none) = .ok (.nxt, kE6 S d2 L K C2 W1 none none) := by
    simp [t_law_9, asA, getA, getAs, lend, rw2, back, sw]
  have l1 := lat_turn (S := S) (d := d2) (x := none) hL hK hL sL hC sC hW sW (fun t h => ((mc.has t).mp h).1) (fun t h => mw.l h)
  have l2 := lat_turn (S := S) (d := d2) (x := some L.pv) hL hK hK sK hC sC hW sW (fun t h => ((mc.has t).mp h).2) (fun t h => mw.r h)
  have e10 : ex t_law_10 (kE6 S d2 L K C2 W1 none none) = .ok (.nxt, kE6 S d2 L K C2 W1 (some K.pv) none) := by
    unfold t_law_10
    refine ex_for (en' := kE6 S d2 L K C2 W1 none none) (xs := [L.pv, K.pv]) (by simp [rdS, sLen, itemsP]) ?_
    simp [loopF, l1, l2]
  have n1 := run_index (sL.sz hL)
  have n2 := run_index (sK.sz hK)
  have n3 := run_index (sC.sz hC)
  have n4 := run_index (sW.sz hW)
  have hix := indices hL hK hC hW mc.has mw.has
  have k1 := mul_le6 (show 0 ≤ L.a by omega) la (show 0 ≤ L.d by omega) ld
  have k2 := mul_le6 (show 0 ≤ C2.a by have := hC.a0; omega) sC.a (show 0 ≤ C2.d by have := hC.d0; omega) sC.d
  have k3 := mul_le6 (show 0 ≤ W1.a by omega) sW.a (show 0 ≤ W1.d by omega) sW.d
  have o1 : mulOk (L.a * L.d) (K.a * K.d) = true := mO (by omega) (by omega)
  have o2 : mulOk (C2.a * C2.d) (W1.a * W1.d) = true := mO (by omega) (by omega)
  have o3 : mulOk L.a L.d = true := mO (by omega) (by omega)
  have o4 : mulOk (L.a * L.d) K.a = true := mO (by omega) (by omega)
  have k4 := mul_le6 k1.1 k1.2 (show 0 ≤ K.a by omega) ka
  have o5 : mulOk (L.a * L.d * K.a) K.d = true := mO (by omega) (by omega)
  have i3 := (pv_i L).1; have i4 := (pv_i L).2.2; have i5 := (pv_i K).1; have i6 := (pv_i K).2.2
  have e11 : ex t_law_11 (kE6 S d2 L K C2 W1 (some K.pv) none) = .ok (.nxt, kE6 S d2 L K C2 W1 (some K.pv) (some (.int (L.a * L.d * (K.a * K.d))))) := by
    simp [t_law_11, asA, getA, lend, n1, n2, back, o1, setT_v]
  have sx := same_i (L.a * L.d * (K.a * K.d))
  have e12 : ex t_law_12 (kE6 S d2 L K C2 W1 (some K.pv) (some (.int (L.a * L.d * (K.a * K.d))))) = .ok (.ret (.bl true), kE6 S d2 L K C2 W1 (some K.pv) (some (.int (L.a * L.d * (K.a * K.d))))) := by
    simp [t_law_12, rdS, asA, getA, getAs, lend, n3, n4, back, o2, o3, o4, o5, hix, sx, i3, i4, i5, i6, (Int.mul_assoc (L.a * L.d) K.a K.d : L.a * L.d * K.a * K.d = L.a * L.d * (K.a * K.d))]
  refine ⟨[S], run_ok (en := kE6 S d2 L K C2 W1 (some K.pv) (some (.int (L.a * L.d * (K.a * K.d))))) rfl (by decide) ?_ ((exs_step e1).trans <| (exs_step e2).trans <| (exs_step e3).trans <| (exs_step e4).trans <| (exs_step e5).trans <| (exs_step e6).trans <| (exs_step e7).trans <| (exs_step e8).trans <| (exs_step e9).trans <| (exs_step e10).trans <| (exs_step e11).trans <| exs_ret e12) (by simp [outs, hSo])⟩
  rw [← hS]
  unfold freeA
  rw [List.all_eq_true]
  intro i hi
  match i with
  | 0 => rfl
  | i + 1 => rfl
end
end K06

set_option maxRecDepth 100000
set_option maxHeartbeats 4000000
namespace K06
open PySem PySem.Spec PyProof.Rows L2 EL
open EX (c_basis_of c_common_form c_index_of c_has_vector c_is_within)
open K05 (c__law_has c__law_is_lattice)
def topS (i : Nat) : Stmt := PySem.Challenge.pw_endlesslands_k06_meetings_and_sums_of_la.main.body.getD i (.Pass ⟨0, 0, 0, 0⟩)
def blts : List Str := [Str.ofString "abs", Str.ofString "all", Str.ofString "bool", Str.ofString "int", Str.ofString "isinstance", Str.ofString "len", Str.ofString "list", Str.ofString "min", Str.ofString "range", Str.ofString "str", Str.ofString "sum", Str.ofString "tuple"]
abbrev s__law_deal : Stmt := topS 10
abbrev s__law_take : Stmt := topS 11
abbrev s__law_size : Stmt := topS 15
abbrev s__law_drawn : Stmt := topS 16
abbrev s__law_has : Stmt := topS 14
abbrev s__law_meeting : Stmt := topS 17
abbrev s_basis_of : Stmt := topS 5
abbrev s_common_form : Stmt := topS 1
abbrev s_with_vector : Stmt := topS 2
abbrev s_lattice_sum : Stmt := topS 7
abbrev s__law_same : Stmt := topS 12
abbrev s_index_of : Stmt := topS 4
abbrev s__law_is_lattice : Stmt := topS 13
abbrev s__law_holds : Stmt := topS 19
abbrev s__law_parted : Stmt := topS 18
abbrev s_has_vector : Stmt := topS 3
abbrev s_lattice_meeting : Stmt := topS 8
abbrev s__law_yes : Stmt := topS 20
abbrev s_is_within : Stmt := topS 6
abbrev s_law : Stmt := topS 21
theorem k__law_deal : chkF c__law_deal s__law_deal blts = true := by decide +kernel
theorem k__law_take : chkF c__law_take s__law_take blts = true := by decide +kernel
theorem k__law_size : chkF c__law_size s__law_size blts = true := by decide +kernel
theorem k__law_drawn : chkF c__law_drawn s__law_drawn blts = true := by decide +kernel
theorem k__law_has : chkF c__law_has s__law_has blts = true := by decide +kernel
theorem k__law_meeting : chkF c__law_meeting s__law_meeting blts = true := by decide +kernel
theorem k_basis_of : chkF c_basis_of s_basis_of blts = true := by decide +kernel
theorem k_common_form : chkF c_common_form s_common_form blts = true := by decide +kernel
theorem k_with_vector : chkF c_with_vector s_with_vector blts = true := by decide +kernel
theorem k_lattice_sum : chkF c_lattice_sum s_lattice_sum blts = true := by decide +kernel
theorem k__law_same : chkF (c_same 0) s__law_same blts = true := by decide +kernel
theorem k_index_of : chkF c_index_of s_index_of blts = true := by decide +kernel
theorem k__law_is_lattice : chkF c__law_is_lattice s__law_is_lattice blts = true := by decide +kernel
theorem k__law_holds : chkF c__law_holds s__law_holds blts = true := by decide +kernel
theorem k__law_parted : chkF c__law_parted s__law_parted blts = true := by decide +kernel
theorem k_has_vector : chkF c_has_vector s_has_vector blts = true := by decide +kernel
theorem k_lattice_meeting : chkF c_lattice_meeting s_lattice_meeting blts = true := by decide +kernel
theorem k__law_yes : chkF c__law_yes s__law_yes blts = true := by decide +kernel
theorem k_is_within : chkF c_is_within s_is_within blts = true := by decide +kernel
theorem k_law : chkF c_law s_law blts = true := by decide +kernel
theorem small_le {n : Nat} (h : n ≤ 100000) : n ≤ sizeLine := Nat.le_of_lt (EL.small_sz h)
section
variable {P : Program} {w : World} {K : PySem.W.Frag} {mg : Str → Option Value} {base : Heap}
theorem b__law_deal {f : Addr} {fd : FuncData} (F : Fun K (Str.ofString "_law_deal") (Str.ofString "_law_deal") s__law_deal f fd) : Binds K fd [Str.ofString "script"] [] := F.binds (ps := [Str.ofString "script"]) fun _ _ _ _ _ _ us hl => match us, hl with | [_], _ => rfl
theorem b__law_take {f : Addr} {fd : FuncData} (F : Fun K (Str.ofString "_law_take") (Str.ofString "_law_take") s__law_take f fd) : Binds K fd [Str.ofString "deal", Str.ofString "many"] [] := F.binds (ps := [Str.ofString "deal", Str.ofString "many"]) fun _ _ _ _ _ _ us hl => match us, hl with | [_, _], _ => rfl
theorem b__law_size {f : Addr} {fd : FuncData} (F : Fun K (Str.ofString "_law_size") (Str.ofString "_law_size") s__law_size f fd) : Binds K fd [Str.ofString "deal"] [] := F.binds (ps := [Str.ofString "deal"]) fun _ _ _ _ _ _ us hl => match us, hl with | [_], _ => rfl
theorem b__law_drawn {f : Addr} {fd : FuncData} (F : Fun K (Str.ofString "_law_drawn") (Str.ofString "_law_drawn") s__law_drawn f fd) : Binds K fd [Str.ofString "deal"] [] := F.binds (ps := [Str.ofString "deal"]) fun _ _ _ _ _ _ us hl => match us, hl with | [_], _ => rfl
theorem b__law_has {f : Addr} {fd : FuncData} (F : Fun K (Str.ofString "_law_has") (Str.ofString "_law_has") s__law_has f fd) : Binds K fd [Str.ofString "lattice", Str.ofString "y", Str.ofString "x"] [] := F.binds (ps := [Str.ofString "lattice", Str.ofString "y", Str.ofString "x"]) fun _ _ _ _ _ _ us hl => match us, hl with | [_, _, _], _ => rfl
theorem b__law_meeting {f : Addr} {fd : FuncData} (F : Fun K (Str.ofString "_law_meeting") (Str.ofString "_law_meeting") s__law_meeting f fd) : Binds K fd [Str.ofString "one", Str.ofString "other"] [] := F.binds (ps := [Str.ofString "one", Str.ofString "other"]) fun _ _ _ _ _ _ us hl => match us, hl with | [_, _], _ => rfl
theorem b_basis_of {f : Addr} {fd : FuncData} (F : Fun K (Str.ofString "basis_of") (Str.ofString "basis_of") s_basis_of f fd) : Binds K fd [Str.ofString "lattice"] [] := F.binds (ps := [Str.ofString "lattice"]) fun _ _ _ _ _ _ us hl => match us, hl with | [_], _ => rfl
theorem b_common_form {f : Addr} {fd : FuncData} (F : Fun K (Str.ofString "common_form") (Str.ofString "common_form") s_common_form f fd) : Binds K fd [Str.ofString "v", Str.ofString "w"] [] := F.binds (ps := [Str.ofString "v", Str.ofString "w"]) fun _ _ _ _ _ _ us hl => match us, hl with | [_, _], _ => rfl
theorem b_with_vector {f : Addr} {fd : FuncData} (F : Fun K (Str.ofString "with_vector") (Str.ofString "with_vector") s_with_vector f fd) : Binds K fd [Str.ofString "lattice", Str.ofString "vector"] [] := F.binds (ps := [Str.ofString "lattice", Str.ofString "vector"]) fun _ _ _ _ _ _ us hl => match us, hl with | [_, _], _ => rfl
theorem b_lattice_sum {f : Addr} {fd : FuncData} (F : Fun K (Str.ofString "lattice_sum") (Str.ofString "lattice_sum") s_lattice_sum f fd) : Binds K fd [Str.ofString "lattice", Str.ofString "other"] [] := F.binds (ps := [Str.ofString "lattice", Str.ofString "other"]) fun _ _ _ _ _ _ us hl => match us, hl with | [_, _], _ => rfl
theorem b__law_same {f : Addr} {fd : FuncData} (F : Fun K (Str.ofString "_law_same") (Str.ofString "_law_same") s__law_same f fd) : Binds K fd [Str.ofString "a", Str.ofString "b"] [] := F.binds (ps := [Str.ofString "a", Str.ofString "b"]) fun _ _ _ _ _ _ us hl => match us, hl with | [_, _], _ => rfl
theorem b_index_of {f : Addr} {fd : FuncData} (F : Fun K (Str.ofString "index_of") (Str.ofString "index_of") s_index_of f fd) : Binds K fd [Str.ofString "lattice"] [] := F.binds (ps := [Str.ofString "lattice"]) fun _ _ _ _ _ _ us hl => match us, hl with | [_], _ => rfl
theorem b__law_is_lattice {f : Addr} {fd : FuncData} (F : Fun K (Str.ofString "_law_is_lattice") (Str.ofString "_law_is_lattice") s__law_is_lattice f fd) : Binds K fd [Str.ofString "told"] [] := F.binds (ps := [Str.ofString "told"]) fun _ _ _ _ _ _ us hl => match us, hl with | [_], _ => rfl
theorem b__law_holds {f : Addr} {fd : FuncData} (F : Fun K (Str.ofString "_law_holds") (Str.ofString "_law_holds") s__law_holds f fd) : Binds K fd [Str.ofString "lattice", Str.ofString "part"] [] := F.binds (ps := [Str.ofString "lattice", Str.ofString "part"]) fun _ _ _ _ _ _ us hl => match us, hl with | [_, _], _ => rfl
theorem b__law_parted {f : Addr} {fd : FuncData} (F : Fun K (Str.ofString "_law_parted") (Str.ofString "_law_parted") s__law_parted f fd) : Binds K fd [Str.ofString "one", Str.ofString "other", Str.ofString "y", Str.ofString "x"] [] := F.binds (ps := [Str.ofString "one", Str.ofString "other", Str.ofString "y", Str.ofString "x"]) fun _ _ _ _ _ _ us hl => match us, hl with | [_, _, _, _], _ => rfl
theorem b_has_vector {f : Addr} {fd : FuncData} (F : Fun K (Str.ofString "has_vector") (Str.ofString "has_vector") s_has_vector f fd) : Binds K fd [Str.ofString "lattice", Str.ofString "vector"] [] := F.binds (ps := [Str.ofString "lattice", Str.ofString "vector"]) fun _ _ _ _ _ _ us hl => match us, hl with | [_, _], _ => rfl
theorem b_lattice_meeting {f : Addr} {fd : FuncData} (F : Fun K (Str.ofString "lattice_meeting") (Str.ofString "lattice_meeting") s_lattice_meeting f fd) : Binds K fd [Str.ofString "lattice", Str.ofString "other"] [] := F.binds (ps := [Str.ofString "lattice", Str.ofString "other"]) fun _ _ _ _ _ _ us hl => match us, hl with | [_, _], _ => rfl
theorem b__law_yes {f : Addr} {fd : FuncData} (F : Fun K (Str.ofString "_law_yes") (Str.ofString "_law_yes") s__law_yes f fd) : Binds K fd [Str.ofString "told"] [] := F.binds (ps := [Str.ofString "told"]) fun _ _ _ _ _ _ us hl => match us, hl with | [_], _ => rfl
theorem b_is_within {f : Addr} {fd : FuncData} (F : Fun K (Str.ofString "is_within") (Str.ofString "is_within") s_is_within f fd) : Binds K fd [Str.ofString "lattice", Str.ofString "other"] [] := F.binds (ps := [Str.ofString "lattice", Str.ofString "other"]) fun _ _ _ _ _ _ us hl => match us, hl with | [_, _], _ => rfl
theorem b_law {f : Addr} {fd : FuncData} (F : Fun K (Str.ofString "law") (Str.ofString "law") s_law f fd) : Binds K fd [Str.ofString "script"] [] := F.binds (ps := [Str.ofString "script"]) fun _ _ _ _ _ _ us hl => match us, hl with | [_], _ => rfl
theorem linked {f__law_deal : Addr} {d__law_deal : FuncData} {f__law_take : Addr} {d__law_take : FuncData} {f__law_size : Addr} {d__law_size : FuncData} {f__law_drawn : Addr} {d__law_drawn : FuncData} {f__law_has : Addr} {d__law_has : FuncData} {f__law_meeting : Addr} {d__law_meeting : FuncData} {f_basis_of : Addr} {d_basis_of : FuncData} {f_common_form : Addr} {d_common_form : FuncData} {f_with_vector : Addr} {d_with_vector : FuncData} {f_lattice_sum : Addr} {d_lattice_sum : FuncData} {f__law_same : Addr} {d__law_same : FuncData} {f_index_of : Addr} {d_index_of : FuncData} {f__law_is_lattice : Addr} {d__law_is_lattice : FuncData} {f__law_holds : Addr} {d__law_holds : FuncData} {f__law_parted : Addr} {d__law_parted : FuncData} {f_has_vector : Addr} {d_has_vector : FuncData} {f_lattice_meeting : Addr} {d_lattice_meeting : FuncData} {f__law_yes : Addr} {d__law_yes : FuncData} {f_is_within : Addr} {d_is_within : FuncData} {f_law : Addr} {d_law : FuncData} (F__law_deal : Fun K (Str.ofString "_law_deal") (Str.ofString "_law_deal") s__law_deal f__law_deal d__law_deal) (m__law_deal : mg (Str.ofString "_law_deal") = some (.ref f__law_deal)) (F__law_take : Fun K (Str.ofString "_law_take") (Str.ofString "_law_take") s__law_take f__law_take d__law_take) (m__law_take : mg (Str.ofString "_law_take") = some (.ref f__law_take)) (F__law_size : Fun K (Str.ofString "_law_size") (Str.ofString "_law_size") s__law_size f__law_size d__law_size) (m__law_size : mg (Str.ofString "_law_size") = some (.ref f__law_size)) (F__law_drawn : Fun K (Str.ofString "_law_drawn") (Str.ofString "_law_drawn") s__law_drawn f__law_drawn d__law_drawn) (m__law_drawn : mg (Str.ofString "_law_drawn") = some (.ref f__law_drawn)) (F__law_has : Fun K (Str.ofString "_law_has") (Str.ofString "_law_has") s__law_has f__law_has d__law_has) (m__law_has : mg (Str.ofString "_law_has") = some (.ref f__law_has)) (F__law_meeting : Fun K (Str.ofString "_law_meeting") (Str.ofString "_law_meeting") s__law_meeting f__law_meeting d__law_meeting) (m__law_meeting : mg (Str.ofString "_law_meeting") = some (.ref f__law_meeting)) (F_basis_of : Fun K (Str.ofString "basis_of") (Str.ofString "basis_of") s_basis_of f_basis_of d_basis_of) (m_basis_of : mg (Str.ofString "basis_of") = some (.ref f_basis_of)) (F_common_form : Fun K (Str.ofString "common_form") (Str.ofString "common_form") s_common_form f_common_form d_common_form) (m_common_form : mg (Str.ofString "common_form") = some (.ref f_common_form)) (F_with_vector : Fun K (Str.ofString "with_vector") (Str.ofString "with_vector") s_with_vector f_with_vector d_with_vector) (m_with_vector : mg (Str.ofString "with_vector") = some (.ref f_with_vector)) (F_lattice_sum : Fun K (Str.ofString "lattice_sum") (Str.ofString "lattice_sum") s_lattice_sum f_lattice_sum d_lattice_sum) (m_lattice_sum : mg (Str.ofString "lattice_sum") = some (.ref f_lattice_sum)) (F__law_same : Fun K (Str.ofString "_law_same") (Str.ofString "_law_same") s__law_same f__law_same d__law_same) (m__law_same : mg (Str.ofString "_law_same") = some (.ref f__law_same)) (F_index_of : Fun K (Str.ofString "index_of") (Str.ofString "index_of") s_index_of f_index_of d_index_of) (m_index_of : mg (Str.ofString "index_of") = some (.ref f_index_of)) (F__law_is_lattice : Fun K (Str.ofString "_law_is_lattice") (Str.ofString "_law_is_lattice") s__law_is_lattice f__law_is_lattice d__law_is_lattice) (m__law_is_lattice : mg (Str.ofString "_law_is_lattice") = some (.ref f__law_is_lattice)) (F__law_holds : Fun K (Str.ofString "_law_holds") (Str.ofString "_law_holds") s__law_holds f__law_holds d__law_holds) (m__law_holds : mg (Str.ofString "_law_holds") = some (.ref f__law_holds)) (F__law_parted : Fun K (Str.ofString "_law_parted") (Str.ofString "_law_parted") s__law_parted f__law_parted d__law_parted) (m__law_parted : mg (Str.ofString "_law_parted") = some (.ref f__law_parted)) (F_has_vector : Fun K (Str.ofString "has_vector") (Str.ofString "has_vector") s_has_vector f_has_vector d_has_vector) (m_has_vector : mg (Str.ofString "has_vector") = some (.ref f_has_vector)) (F_lattice_meeting : Fun K (Str.ofString "lattice_meeting") (Str.ofString "lattice_meeting") s_lattice_meeting f_lattice_meeting d_lattice_meeting) (m_lattice_meeting : mg (Str.ofString "lattice_meeting") = some (.ref f_lattice_meeting)) (F__law_yes : Fun K (Str.ofString "_law_yes") (Str.ofString "_law_yes") s__law_yes f__law_yes d__law_yes) (m__law_yes : mg (Str.ofString "_law_yes") = some (.ref f__law_yes)) (F_is_within : Fun K (Str.ofString "is_within") (Str.ofString "is_within") s_is_within f_is_within d_is_within) (m_is_within : mg (Str.ofString "is_within") = some (.ref f_is_within)) (F_law : Fun K (Str.ofString "law") (Str.ofString "law") s_law f_law d_law) (m_law : mg (Str.ofString "law") = some (.ref f_law))  (hB : ∀ x ∈ blts, mg x = none) : FnOk P w K mg base CX0 13 f_law d_law (psOf c_law) (spOf K c_law) := by
  have L__law_deal : LkF P w K mg base 1 "_law_deal" (spOf K c__law_deal) := lk_of (cf := c__law_deal) F__law_deal m__law_deal (b__law_deal F__law_deal) k__law_deal hB trivial
  have L__law_take : LkF P w K mg base 1 "_law_take" (spOf K c__law_take) := lk_of (cf := c__law_take) F__law_take m__law_take (b__law_take F__law_take) k__law_take hB trivial
  have L__law_size : LkF P w K mg base 2 "_law_size" (spOf K c__law_size) := lk_of (cf := c__law_size) F__law_size m__law_size (b__law_size F__law_size) k__law_size hB ⟨L__law_take, L__law_take, L__law_take, trivial⟩
  have L__law_drawn : LkF P w K mg base 3 "_law_drawn" (spOf K c__law_drawn) := lk_of (cf := c__law_drawn) F__law_drawn m__law_drawn (b__law_drawn F__law_drawn) k__law_drawn hB ⟨L__law_size, L__law_size, L__law_take.up (by decide), trivial⟩
  have L__law_has : LkF P w K mg base 1 "_law_has" (spOf K c__law_has) := lk_of (cf := c__law_has) F__law_has m__law_has (b__law_has F__law_has) k__law_has hB trivial
  have L__law_meeting : LkF P w K mg base 2 "_law_meeting" (spOf K c__law_meeting) := lk_of (cf := c__law_meeting) F__law_meeting m__law_meeting (b__law_meeting F__law_meeting) k__law_meeting hB ⟨L__law_has, L__law_has, trivial⟩
  have L_basis_of : LkF P w K mg base 1 "basis_of" (spOf K c_basis_of) := lk_of (cf := c_basis_of) F_basis_of m_basis_of (b_basis_of F_basis_of) k_basis_of hB trivial
  have L_common_form : LkF P w K mg base 1 "common_form" (spOf K c_common_form) := lk_of (cf := c_common_form) F_common_form m_common_form (b_common_form F_common_form) k_common_form hB trivial
  have L_with_vector : LkF P w K mg base 2 "with_vector" (spOf K c_with_vector) := lk_of (cf := c_with_vector) F_with_vector m_with_vector (b_with_vector F_with_vector) k_with_vector hB ⟨L_common_form, trivial⟩
  have L_lattice_sum : LkF P w K mg base 3 "lattice_sum" (spOf K c_lattice_sum) := lk_of (cf := c_lattice_sum) F_lattice_sum m_lattice_sum (b_lattice_sum F_lattice_sum) k_lattice_sum hB ⟨L_basis_of.up (by decide), L_with_vector, trivial⟩
  have L__law_same : LkF P w K mg base 12 "_law_same" (spPr K prSame) := lk_same F__law_same m__law_same (b__law_same F__law_same) k__law_same hB 12
  have L_index_of : LkF P w K mg base 1 "index_of" (spOf K c_index_of) := lk_of (cf := c_index_of) F_index_of m_index_of (b_index_of F_index_of) k_index_of hB trivial
  have L__law_is_lattice : LkF P w K mg base 1 "_law_is_lattice" (spOf K c__law_is_lattice) := lk_of (cf := c__law_is_lattice) F__law_is_lattice m__law_is_lattice (b__law_is_lattice F__law_is_lattice) k__law_is_lattice hB trivial
  have L__law_holds : LkF P w K mg base 2 "_law_holds" (spOf K c__law_holds) := lk_of (cf := c__law_holds) F__law_holds m__law_holds (b__law_holds F__law_holds) k__law_holds hB ⟨L__law_has, L__law_has, trivial⟩
  have L__law_parted : LkF P w K mg base 2 "_law_parted" (spOf K c__law_parted) := lk_of (cf := c__law_parted) F__law_parted m__law_parted (b__law_parted F__law_parted) k__law_parted hB ⟨L__law_has, trivial⟩
  have L_has_vector : LkF P w K mg base 1 "has_vector" (spOf K c_has_vector) := lk_of (cf := c_has_vector) F_has_vector m_has_vector (b_has_vector F_has_vector) k_has_vector hB trivial
  have L_lattice_meeting : LkF P w K mg base 2 "lattice_meeting" (spOf K c_lattice_meeting) := lk_of (cf := c_lattice_meeting) F_lattice_meeting m_lattice_meeting (b_lattice_meeting F_lattice_meeting) k_lattice_meeting hB ⟨L_has_vector, L_has_vector, trivial⟩
  have L__law_yes : LkF P w K mg base 1 "_law_yes" (spOf K c__law_yes) := lk_of (cf := c__law_yes) F__law_yes m__law_yes (b__law_yes F__law_yes) k__law_yes hB trivial
  have L_is_within : LkF P w K mg base 2 "is_within" (spOf K c_is_within) := lk_of (cf := c_is_within) F_is_within m_is_within (b_is_within F_is_within) k_is_within hB ⟨L_basis_of, L_has_vector, trivial⟩
  exact ok_of (cf := c_law) F_law k_law hB ⟨L__law_deal.up (by decide), L__law_drawn.up (by decide), L__law_drawn.up (by decide), L__law_meeting.up (by decide), L__law_same, L_lattice_meeting.up (by decide), L__law_same, L_lattice_meeting.up (by decide), L_lattice_sum.up (by decide), L__law_is_lattice.up (by decide), L__law_holds.up (by decide), L__law_holds.up (by decide), L__law_parted.up (by decide), L__law_parted.up (by decide), L__law_same, L_lattice_sum.up (by decide), L__law_same, L_lattice_meeting.up (by decide), L__law_same, L_lattice_sum.up (by decide), L__law_same, L_lattice_meeting.up (by decide), L__law_same, L_lattice_sum.up (by decide), L__law_yes.up (by decide), L_is_within.up (by decide), L__law_yes.up (by decide), L_is_within.up (by decide), L_index_of.up (by decide), L_index_of.up (by decide), L__law_same, L_index_of.up (by decide), L_index_of.up (by decide), trivial⟩
end
theorem all_mk {l : PySem.W.OpenLaw} {w : World} {K : PySem.W.Frag} {h : Heap} {mg : Str → Option Value} {fa : Addr} (X : K.In h) (G : h.Ns mainGlobals mg) (hfa : mg "law" = some (.ref fa))
    {od0 an0 : Option Addr} {sl0 : Array (Option Value)} {oc0 kV0 dc0 pm0 cd0 ct0 : Value} {f0 : Addr} {od1 an1 : Option Addr} {sl1 : Array (Option Value)} {oc1 kV1 dc1 pm1 cd1 ct1 : Value} {f1 : Addr} {od2 an2 : Option Addr} {sl2 : Array (Option Value)} {oc2 kV2 dc2 pm2 cd2 ct2 : Value} {f2 : Addr} {od3 an3 : Option Addr} {sl3 : Array (Option Value)} {oc3 kV3 dc3 pm3 cd3 ct3 : Value} {f3 : Addr} {od4 an4 : Option Addr} {sl4 : Array (Option Value)} {oc4 kV4 dc4 pm4 cd4 ct4 : Value} {f4 : Addr} {od5 an5 : Option Addr} {sl5 : Array (Option Value)} {oc5 kV5 dc5 pm5 cd5 ct5 : Value} {f5 : Addr} {od6 an6 : Option Addr} {sl6 : Array (Option Value)} {oc6 kV6 dc6 pm6 cd6 ct6 : Value} {f6 : Addr} {od7 an7 : Option Addr} {sl7 : Array (Option Value)} {oc7 kV7 dc7 pm7 cd7 ct7 : Value} {f7 : Addr} {od8 an8 : Option Addr} {sl8 : Array (Option Value)} {oc8 kV8 dc8 pm8 cd8 ct8 : Value} {f8 : Addr} {od9 an9 : Option Addr} {sl9 : Array (Option Value)} {oc9 kV9 dc9 pm9 cd9 ct9 : Value} {f9 : Addr} {od10 an10 : Option Addr} {sl10 : Array (Option Value)} {oc10 kV10 dc10 pm10 cd10 ct10 : Value} {f10 : Addr} {od11 an11 : Option Addr} {sl11 : Array (Option Value)} {oc11 kV11 dc11 pm11 cd11 ct11 : Value} {f11 : Addr} {od12 an12 : Option Addr} {sl12 : Array (Option Value)} {oc12 kV12 dc12 pm12 cd12 ct12 : Value} {f12 : Addr} {od13 an13 : Option Addr} {sl13 : Array (Option Value)} {oc13 kV13 dc13 pm13 cd13 ct13 : Value} {f13 : Addr} {od14 an14 : Option Addr} {sl14 : Array (Option Value)} {oc14 kV14 dc14 pm14 cd14 ct14 : Value} {f14 : Addr} {od15 an15 : Option Addr} {sl15 : Array (Option Value)} {oc15 kV15 dc15 pm15 cd15 ct15 : Value} {f15 : Addr} {od16 an16 : Option Addr} {sl16 : Array (Option Value)} {oc16 kV16 dc16 pm16 cd16 ct16 : Value} {f16 : Addr} {od17 an17 : Option Addr} {sl17 : Array (Option Value)} {oc17 kV17 dc17 pm17 cd17 ct17 : Value} {f17 : Addr} {od18 an18 : Option Addr} {sl18 : Array (Option Value)} {oc18 kV18 dc18 pm18 cd18 ct18 : Value} {f18 : Addr} {od19 an19 : Option Addr} {sl19 : Array (Option Value)} {oc19 kV19 dc19 pm19 cd19 ct19 : Value} {f19 : Addr}
    (a0 : PySem.W.nsIn K mainGlobals "_law_deal" = some (some (.ref f0))) (l0 : K.lookup f0 = some ⟨oc0, od0, .func (PySem.W.fnOf "_law_deal" "_law_deal" (defArgs s__law_deal) (defBody s__law_deal) (defScope s__law_deal) .none kV0 dc0 pm0 an0 cd0 ct0), sl0⟩) (c0 : PySem.W.codeIn K cd0 "_law_deal" = true) (k0 : PySem.W.keepIn K (.ref f0) = true)
    (a1 : PySem.W.nsIn K mainGlobals "_law_take" = some (some (.ref f1))) (l1 : K.lookup f1 = some ⟨oc1, od1, .func (PySem.W.fnOf "_law_take" "_law_take" (defArgs s__law_take) (defBody s__law_take) (defScope s__law_take) .none kV1 dc1 pm1 an1 cd1 ct1), sl1⟩) (c1 : PySem.W.codeIn K cd1 "_law_take" = true) (k1 : PySem.W.keepIn K (.ref f1) = true)
    (a2 : PySem.W.nsIn K mainGlobals "_law_size" = some (some (.ref f2))) (l2 : K.lookup f2 = some ⟨oc2, od2, .func (PySem.W.fnOf "_law_size" "_law_size" (defArgs s__law_size) (defBody s__law_size) (defScope s__law_size) .none kV2 dc2 pm2 an2 cd2 ct2), sl2⟩) (c2 : PySem.W.codeIn K cd2 "_law_size" = true) (k2 : PySem.W.keepIn K (.ref f2) = true)
    (a3 : PySem.W.nsIn K mainGlobals "_law_drawn" = some (some (.ref f3))) (l3 : K.lookup f3 = some ⟨oc3, od3, .func (PySem.W.fnOf "_law_drawn" "_law_drawn" (defArgs s__law_drawn) (defBody s__law_drawn) (defScope s__law_drawn) .none kV3 dc3 pm3 an3 cd3 ct3), sl3⟩) (c3 : PySem.W.codeIn K cd3 "_law_drawn" = true) (k3 : PySem.W.keepIn K (.ref f3) = true)
    (a4 : PySem.W.nsIn K mainGlobals "_law_has" = some (some (.ref f4))) (l4 : K.lookup f4 = some ⟨oc4, od4, .func (PySem.W.fnOf "_law_has" "_law_has" (defArgs s__law_has) (defBody s__law_has) (defScope s__law_has) .none kV4 dc4 pm4 an4 cd4 ct4), sl4⟩) (c4 : PySem.W.codeIn K cd4 "_law_has" = true) (k4 : PySem.W.keepIn K (.ref f4) = true)
    (a5 : PySem.W.nsIn K mainGlobals "_law_meeting" = some (some (.ref f5))) (l5 : K.lookup f5 = some ⟨oc5, od5, .func (PySem.W.fnOf "_law_meeting" "_law_meeting" (defArgs s__law_meeting) (defBody s__law_meeting) (defScope s__law_meeting) .none kV5 dc5 pm5 an5 cd5 ct5), sl5⟩) (c5 : PySem.W.codeIn K cd5 "_law_meeting" = true) (k5 : PySem.W.keepIn K (.ref f5) = true)
    (a6 : PySem.W.nsIn K mainGlobals "basis_of" = some (some (.ref f6))) (l6 : K.lookup f6 = some ⟨oc6, od6, .func (PySem.W.fnOf "basis_of" "basis_of" (defArgs s_basis_of) (defBody s_basis_of) (defScope s_basis_of) .none kV6 dc6 pm6 an6 cd6 ct6), sl6⟩) (c6 : PySem.W.codeIn K cd6 "basis_of" = true) (k6 : PySem.W.keepIn K (.ref f6) = true)
    (a7 : PySem.W.nsIn K mainGlobals "common_form" = some (some (.ref f7))) (l7 : K.lookup f7 = some ⟨oc7, od7, .func (PySem.W.fnOf "common_form" "common_form" (defArgs s_common_form) (defBody s_common_form) (defScope s_common_form) .none kV7 dc7 pm7 an7 cd7 ct7), sl7⟩) (c7 : PySem.W.codeIn K cd7 "common_form" = true) (k7 : PySem.W.keepIn K (.ref f7) = true)
    (a8 : PySem.W.nsIn K mainGlobals "with_vector" = some (some (.ref f8))) (l8 : K.lookup f8 = some ⟨oc8, od8, .func (PySem.W.fnOf "with_vector" "with_vector" (defArgs s_with_vector) (defBody s_with_vector) (defScope s_with_vector) .none kV8 dc8 pm8 an8 cd8 ct8), sl8⟩) (c8 : PySem.W.codeIn K cd8 "with_vector" = true) (k8 : PySem.W.keepIn K (.ref f8) = true)
    (a9 : PySem.W.nsIn K mainGlobals "lattice_sum" = some (some (.ref f9))) (l9 : K.lookup f9 = some ⟨oc9, od9, .func (PySem.W.fnOf "lattice_sum" "lattice_sum" (defArgs s_lattice_sum) (defBody s_lattice_sum) (defScope s_lattice_sum) .none kV9 dc9 pm9 an9 cd9 ct9), sl9⟩) (c9 : PySem.W.codeIn K cd9 "lattice_sum" = true) (k9 : PySem.W.keepIn K (.ref f9) = true)
    (a10 : PySem.W.nsIn K mainGlobals "_law_same" = some (some (.ref f10))) (l10 : K.lookup f10 = some ⟨oc10, od10, .func (PySem.W.fnOf "_law_same" "_law_same" (defArgs s__law_same) (defBody s__law_same) (defScope s__law_same) .none kV10 dc10 pm10 an10 cd10 ct10), sl10⟩) (c10 : PySem.W.codeIn K cd10 "_law_same" = true) (k10 : PySem.W.keepIn K (.ref f10) = true)
    (a11 : PySem.W.nsIn K mainGlobals "index_of" = some (some (.ref f11))) (l11 : K.lookup f11 = some ⟨oc11, od11, .func (PySem.W.fnOf "index_of" "index_of" (defArgs s_index_of) (defBody s_index_of) (defScope s_index_of) .none kV11 dc11 pm11 an11 cd11 ct11), sl11⟩) (c11 : PySem.W.codeIn K cd11 "index_of" = true) (k11 : PySem.W.keepIn K (.ref f11) = true)
    (a12 : PySem.W.nsIn K mainGlobals "_law_is_lattice" = some (some (.ref f12))) (l12 : K.lookup f12 = some ⟨oc12, od12, .func (PySem.W.fnOf "_law_is_lattice" "_law_is_lattice" (defArgs s__law_is_lattice) (defBody s__law_is_lattice) (defScope s__law_is_lattice) .none kV12 dc12 pm12 an12 cd12 ct12), sl12⟩) (c12 : PySem.W.codeIn K cd12 "_law_is_lattice" = true) (k12 : PySem.W.keepIn K (.ref f12) = true)
    (a13 : PySem.W.nsIn K mainGlobals "_law_holds" = some (some (.ref f13))) (l13 : K.lookup f13 = some ⟨oc13, od13, .func (PySem.W.fnOf "_law_holds" "_law_holds" (defArgs s__law_holds) (defBody s__law_holds) (defScope s__law_holds) .none kV13 dc13 pm13 an13 cd13 ct13), sl13⟩) (c13 : PySem.W.codeIn K cd13 "_law_holds" = true) (k13 : PySem.W.keepIn K (.ref f13) = true)
    (a14 : PySem.W.nsIn K mainGlobals "_law_parted" = some (some (.ref f14))) (l14 : K.lookup f14 = some ⟨oc14, od14, .func (PySem.W.fnOf "_law_parted" "_law_parted" (defArgs s__law_parted) (defBody s__law_parted) (defScope s__law_parted) .none kV14 dc14 pm14 an14 cd14 ct14), sl14⟩) (c14 : PySem.W.codeIn K cd14 "_law_parted" = true) (k14 : PySem.W.keepIn K (.ref f14) = true)
    (a15 : PySem.W.nsIn K mainGlobals "has_vector" = some (some (.ref f15))) (l15 : K.lookup f15 = some ⟨oc15, od15, .func (PySem.W.fnOf "has_vector" "has_vector" (defArgs s_has_vector) (defBody s_has_vector) (defScope s_has_vector) .none kV15 dc15 pm15 an15 cd15 ct15), sl15⟩) (c15 : PySem.W.codeIn K cd15 "has_vector" = true) (k15 : PySem.W.keepIn K (.ref f15) = true)
    (a16 : PySem.W.nsIn K mainGlobals "lattice_meeting" = some (some (.ref f16))) (l16 : K.lookup f16 = some ⟨oc16, od16, .func (PySem.W.fnOf "lattice_meeting" "lattice_meeting" (defArgs s_lattice_meeting) (defBody s_lattice_meeting) (defScope s_lattice_meeting) .none kV16 dc16 pm16 an16 cd16 ct16), sl16⟩) (c16 : PySem.W.codeIn K cd16 "lattice_meeting" = true) (k16 : PySem.W.keepIn K (.ref f16) = true)
    (a17 : PySem.W.nsIn K mainGlobals "_law_yes" = some (some (.ref f17))) (l17 : K.lookup f17 = some ⟨oc17, od17, .func (PySem.W.fnOf "_law_yes" "_law_yes" (defArgs s__law_yes) (defBody s__law_yes) (defScope s__law_yes) .none kV17 dc17 pm17 an17 cd17 ct17), sl17⟩) (c17 : PySem.W.codeIn K cd17 "_law_yes" = true) (k17 : PySem.W.keepIn K (.ref f17) = true)
    (a18 : PySem.W.nsIn K mainGlobals "is_within" = some (some (.ref f18))) (l18 : K.lookup f18 = some ⟨oc18, od18, .func (PySem.W.fnOf "is_within" "is_within" (defArgs s_is_within) (defBody s_is_within) (defScope s_is_within) .none kV18 dc18 pm18 an18 cd18 ct18), sl18⟩) (c18 : PySem.W.codeIn K cd18 "is_within" = true) (k18 : PySem.W.keepIn K (.ref f18) = true)
    (a19 : PySem.W.nsIn K mainGlobals "law" = some (some (.ref f19))) (l19 : K.lookup f19 = some ⟨oc19, od19, .func (PySem.W.fnOf "law" "law" (defArgs s_law) (defBody s_law) (defScope s_law) .none kV19 dc19 pm19 an19 cd19 ct19), sl19⟩) (c19 : PySem.W.codeIn K cd19 "law" = true) (k19 : PySem.W.keepIn K (.ref f19) = true)
    (z0 : PySem.W.nsIn K mainGlobals "abs" = some none)
    (z1 : PySem.W.nsIn K mainGlobals "all" = some none)
    (z2 : PySem.W.nsIn K mainGlobals "bool" = some none)
    (z3 : PySem.W.nsIn K mainGlobals "int" = some none)
    (z4 : PySem.W.nsIn K mainGlobals "isinstance" = some none)
    (z5 : PySem.W.nsIn K mainGlobals "len" = some none)
    (z6 : PySem.W.nsIn K mainGlobals "list" = some none)
    (z7 : PySem.W.nsIn K mainGlobals "min" = some none)
    (z8 : PySem.W.nsIn K mainGlobals "range" = some none)
    (z9 : PySem.W.nsIn K mainGlobals "str" = some none)
    (z10 : PySem.W.nsIn K mainGlobals "sum" = some none)
    (z11 : PySem.W.nsIn K mainGlobals "tuple" = some none)
    : ∃ fd : FuncData, (∀ (s : Shared) (v : Value), BindsTo s fd ⟨[v], []⟩ [("script", v)]) ∧ ∀ base : Heap, K.In base → base.Ns mainGlobals mg → FnOk l.prog w K mg base CX0 13 fa fd ["script"] (spLaw K) := by
  have e := hfa.symm.trans (PySem.W.mg_of X G a19)
  cases e
  have F0 := fun_mk (st := s__law_deal) l0 c0 k0
  have F1 := fun_mk (st := s__law_take) l1 c1 k1
  have F2 := fun_mk (st := s__law_size) l2 c2 k2
  have F3 := fun_mk (st := s__law_drawn) l3 c3 k3
  have F4 := fun_mk (st := s__law_has) l4 c4 k4
  have F5 := fun_mk (st := s__law_meeting) l5 c5 k5
  have F6 := fun_mk (st := s_basis_of) l6 c6 k6
  have F7 := fun_mk (st := s_common_form) l7 c7 k7
  have F8 := fun_mk (st := s_with_vector) l8 c8 k8
  have F9 := fun_mk (st := s_lattice_sum) l9 c9 k9
  have F10 := fun_mk (st := s__law_same) l10 c10 k10
  have F11 := fun_mk (st := s_index_of) l11 c11 k11
  have F12 := fun_mk (st := s__law_is_lattice) l12 c12 k12
  have F13 := fun_mk (st := s__law_holds) l13 c13 k13
  have F14 := fun_mk (st := s__law_parted) l14 c14 k14
  have F15 := fun_mk (st := s_has_vector) l15 c15 k15
  have F16 := fun_mk (st := s_lattice_meeting) l16 c16 k16
  have F17 := fun_mk (st := s__law_yes) l17 c17 k17
  have F18 := fun_mk (st := s_is_within) l18 c18 k18
  have F19 := fun_mk (st := s_law) l19 c19 k19
  have hB : ∀ x ∈ blts, mg x = none := by
    intro x hx
    simp only [blts, List.mem_cons, List.mem_nil_iff, or_false] at hx
    rcases hx with rfl | rfl | rfl | rfl | rfl | rfl | rfl | rfl | rfl | rfl | rfl | rfl
    · exact PySem.W.mg_none_of X G z0
    · exact PySem.W.mg_none_of X G z1
    · exact PySem.W.mg_none_of X G z2
    · exact PySem.W.mg_none_of X G z3
    · exact PySem.W.mg_none_of X G z4
    · exact PySem.W.mg_none_of X G z5
    · exact PySem.W.mg_none_of X G z6
    · exact PySem.W.mg_none_of X G z7
    · exact PySem.W.mg_none_of X G z8
    · exact PySem.W.mg_none_of X G z9
    · exact PySem.W.mg_none_of X G z10
    · exact PySem.W.mg_none_of X G z11
  refine ⟨PySem.W.fnOf "law" "law" (defArgs s_law) (defBody s_law) (defScope s_law) .none kV19 dc19 pm19 an19 cd19 ct19, fun s v => .of_eq rfl, fun base _ _ => ?_⟩
  exact law_of (linked F0 (PySem.W.mg_of X G a0) F1 (PySem.W.mg_of X G a1) F2 (PySem.W.mg_of X G a2) F3 (PySem.W.mg_of X G a3) F4 (PySem.W.mg_of X G a4) F5 (PySem.W.mg_of X G a5) F6 (PySem.W.mg_of X G a6) F7 (PySem.W.mg_of X G a7) F8 (PySem.W.mg_of X G a8) F9 (PySem.W.mg_of X G a9) F10 (PySem.W.mg_of X G a10) F11 (PySem.W.mg_of X G a11) F12 (PySem.W.mg_of X G a12) F13 (PySem.W.mg_of X G a13) F14 (PySem.W.mg_of X G a14) F15 (PySem.W.mg_of X G a15) F16 (PySem.W.mg_of X G a16) F17 (PySem.W.mg_of X G a17) F18 (PySem.W.mg_of X G a18) F19 (PySem.W.mg_of X G a19)  hB) law_plain
end K06
open PySem PySem.W PyProof.Rows
set_option maxHeartbeats 0 in
theorem PySem.Challenge.cw_endlesslands_k06_meetings_and_sums_of_la_holds : PySem.Challenge.rw_endlesslands_k06_meetings_and_sums_of_la.Holds := by
  w_on; o_law; k_head; (case hw => w_witness2)
  k_fill
  refine L2.walk_of (l := PySem.Challenge.rw_endlesslands_k06_meetings_and_sums_of_la) (n := 63) (k := 13) (x := "script") (CX := fun _ => L2.CX0) (sp := fun w => EL.spLaw _) rfl (by decide) rfl ⟨rfl, by decide, by decide⟩ (fun w h Y => PySem.W.kIn_of Y) ?F (fun _ _ a ns hl hO hS => ⟨a, ns, rfl, hO, hS, hl, fun _ => rfl⟩) (fun _ _ _ _ _ h => h)
  case F =>
    intro w mg fa h KX G hmg
    refine' K06.all_mk KX G hmg ?a0 ?l0 ?c0 ?k0 ?a1 ?l1 ?c1 ?k1 ?a2 ?l2 ?c2 ?k2 ?a3 ?l3 ?c3 ?k3 ?a4 ?l4 ?c4 ?k4 ?a5 ?l5 ?c5 ?k5 ?a6 ?l6 ?c6 ?k6 ?a7 ?l7 ?c7 ?k7 ?a8 ?l8 ?c8 ?k8 ?a9 ?l9 ?c9 ?k9 ?a10 ?l10 ?c10 ?k10 ?a11 ?l11 ?c11 ?k11 ?a12 ?l12 ?c12 ?k12 ?a13 ?l13 ?c13 ?k13 ?a14 ?l14 ?c14 ?k14 ?a15 ?l15 ?c15 ?k15 ?a16 ?l16 ?c16 ?k16 ?a17 ?l17 ?c17 ?k17 ?a18 ?l18 ?c18 ?k18 ?a19 ?l19 ?c19 ?k19 ?z0 ?z1 ?z2 ?z3 ?z4 ?z5 ?z6 ?z7 ?z8 ?z9 ?z10 ?z11
    (case a0 => k_is); (case l0 => k_is); (case c0 => k_is); (case k0 => k_is); (case a1 => k_is); (case l1 => k_is); (case c1 => k_is); (case k1 => k_is); (case a2 => k_is); (case l2 => k_is); (case c2 => k_is); (case k2 => k_is); (case a3 => k_is); (case l3 => k_is); (case c3 => k_is); (case k3 => k_is); (case a4 => k_is); (case l4 => k_is); (case c4 => k_is); (case k4 => k_is); (case a5 => k_is); (case l5 => k_is); (case c5 => k_is); (case k5 => k_is); (case a6 => k_is); (case l6 => k_is); (case c6 => k_is); (case k6 => k_is); (case a7 => k_is); (case l7 => k_is); (case c7 => k_is); (case k7 => k_is); (case a8 => k_is); (case l8 => k_is); (case c8 => k_is); (case k8 => k_is); (case a9 => k_is); (case l9 => k_is); (case c9 => k_is); (case k9 => k_is); (case a10 => k_is); (case l10 => k_is); (case c10 => k_is); (case k10 => k_is); (case a11 => k_is); (case l11 => k_is); (case c11 => k_is); (case k11 => k_is); (case a12 => k_is); (case l12 => k_is); (case c12 => k_is); (case k12 => k_is); (case a13 => k_is); (case l13 => k_is); (case c13 => k_is); (case k13 => k_is); (case a14 => k_is); (case l14 => k_is); (case c14 => k_is); (case k14 => k_is); (case a15 => k_is); (case l15 => k_is); (case c15 => k_is); (case k15 => k_is); (case a16 => k_is); (case l16 => k_is); (case c16 => k_is); (case k16 => k_is); (case a17 => k_is); (case l17 => k_is); (case c17 => k_is); (case k17 => k_is); (case a18 => k_is); (case l18 => k_is); (case c18 => k_is); (case k18 => k_is); (case a19 => k_is); (case l19 => k_is); (case c19 => k_is); (case k19 => k_is); (case z0 => k_is); (case z1 => k_is); (case z2 => k_is); (case z3 => k_is); (case z4 => k_is); (case z5 => k_is); (case z6 => k_is); (case z7 => k_is); (case z8 => k_is); (case z9 => k_is); (case z10 => k_is); (case z11 => k_is)
