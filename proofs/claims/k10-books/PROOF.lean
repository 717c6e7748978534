import PyProof.Rows.All
import Wide.All
import OpenK.AllK
import Wide.FinOn
import HandS.ForMost
import HandS.TupAny
import HandS.TupMul
import HandS.Deep
import HandS.IsInst
import HandS.CallSlots
import HandS.Exc
import HandS.ExcIs
import HandS.HotCalls
import HandS.WordsExc
import KE.SortData
import HandS.Codes
import HandS.Style
import HandS.StrMore
import HandS.Rev
import HandS.Zip
import PyProof.StrOps2
import HandS.EndBits
import HandS.ExcOwn
import HandS.CallRecv
import HandS.TryOnly
import PyProof.ExcBaseAll.ValueError
import HandS.Conv
import HandS.Dict
import HandS.More
import HandS.Iter
import KE.DataFind
import KE.DataMinMax
import PyProof.FactsAll.list_3
import PySem.Challenge.RW_cardplaces_k10_books
set_option Elab.async false
set_option linter.all false
set_option maxRecDepth 100000
set_option maxHeartbeats 4000000
/-! AbA: abstract values, the abstract heap, the compiled forms of expressions and statements, the evaluator. -/
namespace Ab
open PySem L2

/-- an abstract value: a tree; ref: an object of the abstract heap; scr: the script -/
inductive AV where
  | non | bl (b : Bool) | int (i : Int) | str (s : Str)
  | tup (l : List AV) | lst (l : List AV)
  | dk (ks : List Key) (vs : List AV) | dt (ks : List (List Key)) (vs : List AV)
  | scr (l : List Int)
  | ref (n : Nat)
/-- what a slot or a field holds: a value, or a container of its own -/
inductive FV where
  | val (d : AV) | own (c : AV) | gone | exc (c : Nat)
inductive AO where
  | ins (c : Nat) (fs : List (Str × FV))
  | box (c : AV)
  | gone
abbrev AH := List AO
abbrev En := List (Option FV)
inductive R (α : Type) where
  | ok (a : α) (h : AH) | exc (c : Nat) (h : AH) | bad
abbrev Sem := List AV → AH → R AV
def R.bind {α β : Type} : R α → (α → AH → R β) → R β
  | .ok a h, k => k a h
  | .exc c h, _ => .exc c h
  | .bad, _ => .bad
@[simp] theorem R.bind_ok {α β : Type} (a : α) (h : AH) (k : α → AH → R β) : R.bind (.ok a h) k = k a h := rfl
@[simp] theorem R.bind_exc {α β : Type} (c : Nat) (h : AH) (k : α → AH → R β) : R.bind (.exc c h) k = .exc c h := rfl
@[simp] theorem R.bind_bad {α β : Type} (k : α → AH → R β) : R.bind .bad k = .bad := rfl

/-- the largest length -/
def LIM : Nat := 16777216

inductive Cmp where | eq | ne | lt | le | gt | ge | isn | isnn | inn | nin
inductive Bin where | add | sub | mul | fdv | mod
inductive Bi where | len | abs | min2 | max2 | minL | maxL | sumL | all | int | str | list | tuple | srt | srtSet | lenSet | isInt | isStr | isBool | isTup | lrng1 | lrng2 | dict
inductive Bm where | join | split | lstrip | count | index | get1 | get2
inductive It where | seq | rng1 | rng2 | rng3 | enum | rev | zip2 | zip3 | keys
inductive Tg where | nm (i : Nat) | tp (l : List Nat)

inductive IE where
  | slot (i : Nat)
  | con (d : AV)
  | nil | cons (a r : IE)
  | tup (es : IE) | lst (es : IE)
  | neg (a : IE)
  | bnd (a : IE)
  | bin (o : Bin) (a b : IE)
  | cmp (o : Cmp) (a b : IE)
  | chain (o o' : Cmp) (a b c : IE)
  | inK (neg : Bool) (a : IE) (ks : List Str)
  | and (a b : IE) | or (a b : IE) | not (a : IE)
  | ite (t a b : IE)
  | sub (a i : IE)
  | sli (a lo hi : IE)
  | rvs (a : IE)
  | call (f : Sem) (es : IE)
  | bi (b : Bi) (es : IE)
  | bm (b : Bm) (o es : IE)
  | fld (cs : List Nat) (o : IE) (f : Str)
  | fldz (cs : List Nat) (i : Nat) (f : Str)
  | meth (m : Str) (tbl : List (Nat × Sem)) (o es : IE)
  | make (c : Nat) (f : Sem) (es : IE)
  | isx (i : Nat) (cs : List Nat)
  | callx (f : Nat → AH → R AV) (i : Nat)
  | isTO (cs : List Nat) (a : IE)
  | slz (i : Nat)
  | comp (it : It) (src : IE) (tg : Tg) (t elt : IE) (own : List Nat)

inductive IS where
  | skip
  | seq (a b : IS)
  | asg (t : Tg) (e : IE)
  | par (i j : Nat) (a b : IE)
  | own (i : Nat) (e : IE)
  | frz (i : Nat)
  | drop (e : IE)
  | app (i : Nat) (e : IE)
  | sets (i : Nat) (k e : IE)
  | fset (cs : List Nat) (o : IE) (f : Str) (e : IE)
  | fown (cs : List Nat) (o : IE) (f : Str) (e : IE)
  | fsets (cs : List Nat) (o : IE) (f : Str) (k e : IE)
  | fpop (cs : List Nat) (o : IE) (f : Str) (k : IE)
  | ffrz (cs : List Nat) (i : Nat) (f : Str)
  | fmov (cs : List Nat) (o : IE) (f : Str) (i : Nat)
  | ifs (c : IE) (a b : IS)
  | fors (t : Tg) (it : It) (src : IE) (b : IS)
  | whil (c : IE) (b : IS)
  | ret (e : IE)
  | brk | cnt
  | rais (c : Nat)
  | retPop (t : IE) (i : Nat) (k b : IE)
  | appN (m : Str) (c : Nat) (F : Sem) (o es a : IE)
  | tryo (b : IS) (al cs : List Nat) (s : IS)
  | tryx (b : IS) (al cs : List Nat) (i : Nat) (s : IS)

/-! ### operations on values -/
/-- a value seen through a reference to a container -/
def vw (h : AH) : AV → AV
  | .ref n => match h[n]? with
    | some (.box c) => c
    | _ => .ref n
  | d => d
def scrL (l : List Int) : List AV := l.map AV.int

/-- a value as data, at most so deep -/
def toPD : Nat → AV → Option PyData
  | _, .non => some .none
  | _, .bl b => some (.bool b)
  | _, .int i => some (.int i)
  | _, .str s => some (.str s)
  | _ + 1, .scr l => some (.list (l.map .int))
  | n + 1, .tup l => (l.mapM (toPD n)).map .tuple
  | n + 1, .lst l => (l.mapM (toPD n)).map .list
  | _, _ => none
def DEEP : Nat := 30
def eqA (x y : AV) : Option Bool := match toPD DEEP x, toPD DEEP y with
  | some d, some e => some (PyData.eqv d e)
  | _, _ => none
/-- any list and the empty one -/
def nilEq : AV → AV → Option Bool
  | .lst (_ :: _), .lst [] => some false
  | _, _ => none
def eqX (x y : AV) : Option Bool := (eqA x y).or (nilEq x y)
/-- is x in l -/
def inL (x : AV) (l : List AV) : Option Bool := match toPD DEEP x, l.mapM (toPD DEEP) with
  | some d, some ds => some (ds.any fun z => PyData.eqv z d)
  | _, _ => none
/-- a key of a dict -/
def keyOf : AV → Option Key
  | .int i => some (.inl i)
  | .str s => some (.inr s)
  | _ => none
def keysOf : AV → Option (List Key)
  | .tup l => l.mapM keyOf
  | _ => none
def lookK {κ : Type} [DecidableEq κ] : List κ → List AV → κ → Option AV
  | k :: ks, v :: vs, x => if k = x then some v else lookK ks vs x
  | _, _, _ => none
def dGet (c k : AV) : Option (Option AV) := match c with
  | .dk ks vs => (keyOf k).map fun x => lookK ks vs x
  | .dt ks vs => (keysOf k).map fun x => lookK ks vs x
  | _ => none

def okO {α : Type} (o : Option α) (h : AH) : R α := match o with
  | some a => .ok a h
  | none => .bad

def doBin (o : Bin) (x y : AV) (h : AH) : R AV := match o, x, y with
  | .add, .int i, .int j => .ok (.int (i + j)) h
  | .add, .str a, .str b => if a.length + b.length ≤ LIM then .ok (.str (a ++ b)) h else .bad
  | .add, .tup a, .tup b => if a.length + b.length ≤ LIM then .ok (.tup (a ++ b)) h else .bad
  | .add, .lst a, .lst b => if a.length + b.length ≤ LIM then .ok (.lst (a ++ b)) h else .bad
  | .sub, .int i, .int j => .ok (.int (i - j)) h
  | .mul, .int i, .int j => if (-(2 ^ 64) < i ∧ i < 2 ^ 64) ∨ (-(2 ^ 64) < j ∧ j < 2 ^ 64) then .ok (.int (i * j)) h else .bad
  | .mul, .tup l, .int k => if l.length ≤ 1000 ∧ -1000 ≤ k ∧ k ≤ 1000 then .ok (.tup (List.replicate k.toNat l).flatten) h else .bad
  | .mul, .str a, .int k => if a.length ≤ 1000 ∧ -1000 ≤ k ∧ k ≤ 1000 then .ok (.str ⟨(List.replicate k.toNat a.cps.toList).flatten.toArray⟩) h else .bad
  | .mul, .lst l, .int k => if l.length ≤ 1000 ∧ -1000 ≤ k ∧ k ≤ 1000 then .ok (.lst (List.replicate k.toNat l).flatten) h else .bad
  | .fdv, .int i, .int j => if 0 < j ∧ j < 1073741824 then .ok (.int (i / j)) h else .bad
  | .mod, .int i, .int j => if 0 < j then .ok (.int (i % j)) h else .bad
  | _, _, _ => .bad

def doCmp (o : Cmp) (x y : AV) (h : AH) : R AV := match o with
  | .eq => okO ((eqX x y).map AV.bl) h
  | .ne => okO ((eqX x y).map fun b => AV.bl !b) h
  | .isn => (match y with | .non => (match x with | .non => .ok (.bl true) h | _ => .ok (.bl false) h) | _ => .bad)
  | .isnn => (match y with | .non => (match x with | .non => .ok (.bl false) h | _ => .ok (.bl true) h) | _ => .bad)
  | .lt => (match x, y with | .int i, .int j => .ok (.bl (decide (i < j))) h | _, _ => .bad)
  | .le => (match x, y with | .int i, .int j => .ok (.bl (decide (i ≤ j))) h | _, _ => .bad)
  | .gt => (match x, y with | .int i, .int j => .ok (.bl (decide (j < i))) h | _, _ => .bad)
  | .ge => (match x, y with | .int i, .int j => .ok (.bl (decide (j ≤ i))) h | _, _ => .bad)
  | .inn => (match y with
    | .lst l => okO ((inL x l).map AV.bl) h
    | .tup l => okO ((inL x l).map AV.bl) h
    | .dk ks vs => okO ((keyOf x).map fun k => AV.bl (lookK ks vs k).isSome) h
    | .dt ks vs => okO ((keysOf x).map fun k => AV.bl (lookK ks vs k).isSome) h
    | .str s => (match x with | .str a => (match a.cps.toList with | [c] => .ok (.bl (decide (c ∈ s.cps.toList))) h | _ => .bad) | _ => .bad)
    | _ => .bad)
  | .nin => (match y with
    | .lst l => okO ((inL x l).map fun b => AV.bl !b) h
    | .tup l => okO ((inL x l).map fun b => AV.bl !b) h
    | .dk ks vs => okO ((keyOf x).map fun k => AV.bl !(lookK ks vs k).isSome) h
    | .dt ks vs => okO ((keysOf x).map fun k => AV.bl !(lookK ks vs k).isSome) h
    | .str s => (match x with | .str a => (match a.cps.toList with | [c] => .ok (.bl !(decide (c ∈ s.cps.toList))) h | _ => .bad) | _ => .bad)
    | _ => .bad)

def sgn (c : Nat) : Str := ⟨#[c]⟩
def doSub (x i : AV) (h : AH) : R AV := match x, i with
  | .tup l, .int k => okO (atI l k) h
  | .lst l, .int k => okO (atI l k) h
  | .scr l, .int k => okO ((atI l k).map AV.int) h
  | .str s, .int k => if s.length ≤ LIM then okO ((atI s.cps.toList k).map fun c => AV.str (sgn c)) h else .bad
  | .dk ks vs, k => okO ((keyOf k).bind fun z => lookK ks vs z) h
  | .dt ks vs, k => okO ((keysOf k).bind fun z => lookK ks vs z) h
  | _, _ => .bad
/-- the part lo .. hi of a list -/
def cutA {α : Type} (xs : List α) (lo hi : Option Int) : List α := (xs.drop (HT.sIx xs.length 0 lo)).take (HT.sIx xs.length xs.length hi - HT.sIx xs.length 0 lo)
def partO : AV → Option (Option Int)
  | .non => some none
  | .int i => some (some i)
  | _ => none
def sliA (x : AV) (a b : Option Int) (h : AH) : R AV := match x with
  | .tup l => .ok (.tup (cutA l a b)) h
  | .lst l => .ok (.lst (cutA l a b)) h
  | .str s => if s.length ≤ LIM then .ok (.str ⟨(cutA s.cps.toList a b).toArray⟩) h else .bad
  | _ => .bad
def doSli (x lo hi : AV) (h : AH) : R AV := match partO lo, partO hi with
  | some a, some b => sliA x a b h
  | _, _ => .bad
def allInt : List AV → Option (List Int)
  | [] => some []
  | .int i :: r => (allInt r).map (i :: ·)
  | _ => none
def allStr : List AV → Option (List Str)
  | [] => some []
  | .str s :: r => (allStr r).map (s :: ·)
  | _ => none
def allBl : List AV → Option (List Bool)
  | [] => some []
  | .bl b :: r => (allBl r).map (b :: ·)
  | _ => none
/-- pairs of whole numbers -/
def prsA : List AV → Option (List (Int × Int))
  | [] => some []
  | .tup [.int a, .int b] :: r => (prsA r).map ((a, b) :: ·)
  | _ => none
def minPr (x : Int × Int) (l : List (Int × Int)) : Int × Int := l.foldl (fun m y => if y.1 < m.1 ∨ (y.1 = m.1 ∧ y.2 < m.2) then y else m) x
def prA (p : Int × Int) : AV := .tup [.int p.1, .int p.2]
def lenA : AV → Option Nat
  | .tup l => some l.length
  | .lst l => some l.length
  | .scr l => some l.length
  | .str s => if s.length ≤ LIM then some s.length else none
  | _ => none
def seqA : AV → Option (List AV)
  | .tup l => some l
  | .lst l => some l
  | .scr l => some (scrL l)
  | _ => none
/-- values as data, in order -/
def pdA (x : AV) : PyData := (toPD DEEP x).getD .none
def leA (x y : AV) : Bool := !PySem.W.dataLt (pdA y) (pdA x)
def alikeL (ds : List PyData) : Bool := ds.all fun x => ds.all fun y => PySem.W.alike x y
def srtA (l : List AV) : Option (List AV) := match l.mapM (toPD DEEP) with
  | some ds => if alikeL ds = true ∧ (ds.all fun d => match d with | .none => false | _ => true) = true then some (l.mergeSort leA) else none
  | none => none
def putK1 {κ : Type} [DecidableEq κ] (ks : List κ) (vs : List AV) (x : κ) (y : AV) : List κ × List AV :=
  if x ∈ ks then (ks, List.zipWith (fun k v => if k = x then y else v) ks vs) else (ks ++ [x], vs ++ [y])
/-- pairs (key, value) -/
def prsK : List AV → Option (List (Key × AV))
  | [] => some []
  | .tup [k, v] :: r => (keyOf k).bind fun z => (prsK r).map ((z, v) :: ·)
  | _ => none
/-- texts in order -/
def leS (a b : Str) : Bool := !PySem.Spec.ltCps b.cps.toList a.cps.toList
def strKs : List Key → Option (List Str)
  | [] => some []
  | .inr s :: r => if PyData.strOk s = true then (strKs r).map (s :: ·) else none
  | _ => none
def srtK (ks : List Key) : Option AV := match strKs ks with
  | some ss => if ss.length < 64 then some (.lst ((ss.mergeSort leS).map AV.str)) else none
  | none => none
def doBi (b : Bi) (xs : List AV) (h : AH) : R AV := match b, xs with
  | .len, [x] => okO ((lenA x).map fun (n : Nat) => AV.int (n : Int)) h
  | .abs, [.int i] => .ok (.int (if i < 0 then -i else i)) h
  | .min2, [.int i, .int j] => .ok (.int (if j < i then j else i)) h
  | .max2, [.int i, .int j] => .ok (.int (if j > i then j else i)) h
  | .all, [.lst l] => okO ((allBl l).map fun bs => AV.bl (bs.all id)) h
  | .srt, [.lst l] => okO ((srtA l).map AV.lst) h
  | .srt, [.dk ks vs] => okO (srtK ks) h
  | .dict, [.dk ks vs] => .ok (.dk ks vs) h
  | .dict, [.lst l] => (match prsK l with
    | some ps => .ok (.dk (ps.foldl (fun a p => putK1 a.1 a.2 p.1 p.2) ([], [])).1 (ps.foldl (fun a p => putK1 a.1 a.2 p.1 p.2) ([], [])).2) h
    | none => .bad)
  | .maxL, [.lst l] => (match allInt l with | some (i :: r) => .ok (.int (r.foldl max i)) h | _ => .bad)
  | .minL, [.lst l] => (match prsA l with | some (x :: r) => .ok (prA (minPr x r)) h | _ => .bad)
  | .int, [.int i] => .ok (.int i) h
  | .int, [.bl k] => .ok (.int (if k then 1 else 0)) h
  | .list, [x] => okO ((seqA x).map AV.lst) h
  | .tuple, [.lst l] => .ok (.tup l) h
  | .tuple, [.tup l] => .ok (.tup l) h
  | .lrng1, [.int j] => if -(2 ^ 62) ≤ j ∧ j ≤ LIM then .ok (.lst ((List.range j.toNat).map fun (k : Nat) => AV.int (0 + k))) h else .bad
  | .lrng2, [.int i, .int j] => if -(2 ^ 62) ≤ i ∧ i < 2 ^ 62 ∧ -(2 ^ 62) ≤ j ∧ j < 2 ^ 62 ∧ j - i ≤ LIM then .ok (.lst ((List.range (j - i).toNat).map fun (k : Nat) => AV.int (i + k))) h else .bad
  | .isInt, [x] => (match x with | .int _ => .ok (.bl true) h | .bl _ => .ok (.bl true) h | .non | .str _ | .tup _ | .lst _ => .ok (.bl false) h | _ => .bad)
  | .isBool, [x] => (match x with | .bl _ => .ok (.bl true) h | .int _ | .non | .str _ | .tup _ | .lst _ => .ok (.bl false) h | _ => .bad)
  | .isStr, [x] => (match x with | .str _ => .ok (.bl true) h | .bl _ | .int _ | .non | .tup _ | .lst _ => .ok (.bl false) h | _ => .bad)
  | .isTup, [x] => (match x with | .tup _ => .ok (.bl true) h | .bl _ | .int _ | .non | .str _ | .lst _ => .ok (.bl false) h | _ => .bad)
  | _, _ => .bad
def bmOk (b : Bm) (o : AV) : Bool := match b, o with
  | .join, .str _ => true
  | .lstrip, .str _ => true
  | .split, .str _ => true
  | .count, .lst _ => true
  | .index, .lst _ => true
  | .get1, .dk _ _ => true
  | .get1, .dt _ _ => true
  | .get2, .dk _ _ => true
  | .get2, .dt _ _ => true
  | _, _ => false
def datL (l : List AV) (x : AV) : Option (List PyData × PyData) := match l.mapM (toPD DEEP), toPD DEEP x with
  | some ds, some d => some (ds, d)
  | _, _ => none
def flatA : AV → Bool
  | .lst _ | .dk _ _ | .dt _ _ => false
  | _ => true
def doBm (b : Bm) (o : AV) (xs : List AV) (h : AH) : R AV := match b, o, xs with
  | .join, .str s, [.lst l] => (match allStr l with | some ss => if (ss.map (·.length)).sum + ss.length * s.length ≤ 16777216 then .ok (.str (Txt.join s ss)) h else .bad | none => .bad)
  | .join, .str s, [.tup l] => (match allStr l with | some ss => if (ss.map (·.length)).sum + ss.length * s.length ≤ 16777216 then .ok (.str (Txt.join s ss)) h else .bad | none => .bad)
  | .split, .str s, [.str p] => if p.length = 1 ∧ s.length + 2 ≤ 16777216 then .ok (.lst ((Txt.split s p).map .str)) h else .bad
  | .index, .lst l, [x] => (match datL l x with | some p => (match p.1.findIdx? (fun z => PyData.eqv z p.2) with | some j => .ok (.int (j : Int)) h | none => .bad) | none => .bad)
  | .count, .lst l, [x] => (match datL l x with | some p => .ok (.int ((p.1.countP fun z => PyData.eqv z p.2 : Nat) : Int)) h | none => .bad)
  | .get1, c, [k] => okO ((dGet c k).map fun o => o.getD .non) h
  | .get2, c, [k, d] => if flatA d = true then okO ((dGet c k).map fun o => o.getD d) h else .bad
  | _, _, _ => .bad

/-- what a for walks -/
def rngL (lo : Int) (n : Nat) : List AV := (List.range n).map fun (k : Nat) => AV.int (lo + k)
def rngD (hi : Int) (n : Nat) : List AV := (List.range n).map fun (k : Nat) => AV.int (hi - k)
def pairL (l : List AV) : List AV := (List.range l.length).zipWith (fun (k : Nat) x => AV.tup [.int k, x]) l
/-- a dict's keys as values -/
def keyA : Key → Option AV
  | .inl i => some (.int i)
  | .inr s => if PyData.strOk s = true then some (.str s) else none
def keyAs (ks : List Key) : Option (List AV) := if ks.length ≤ LIM then ks.mapM keyA else none
def itemsA (it : It) (xs : List AV) : Option (List AV) := match it, xs with
  | .seq, [x] => (match x with
    | .str s => if s.length ≤ LIM then some (s.cps.toList.map fun c => AV.str (sgn c)) else none
    | x => seqA x)
  | .rng1, [.int j] => if -(2 ^ 62) ≤ j ∧ j ≤ LIM then some (rngL 0 j.toNat) else none
  | .rng2, [.int i, .int j] => if -(2 ^ 62) ≤ i ∧ i < 2 ^ 62 ∧ -(2 ^ 62) ≤ j ∧ j < 2 ^ 62 ∧ j - i ≤ LIM then some (rngL i (j - i).toNat) else none
  | .enum, [x] => (match x with | .lst l => some (pairL l) | _ => none)
  | .keys, [x] => (match x with | .dk ks _ => keyAs ks | _ => none)
  | .rng3, [.int i, .int j, .int k] => if k = -1 ∧ -(2 ^ 62) ≤ i ∧ i < 2 ^ 62 ∧ -(2 ^ 62) ≤ j ∧ j < 2 ^ 62 ∧ i - j ≤ LIM then some (rngD i (i - j).toNat) else none
  | .rev, [x] => (match x with | .lst l => some l.reverse | .tup l => some l.reverse | _ => none)
  | _, _ => none

def itR (it : It) (ds : AV) (h : AH) : R (List AV) := match ds with
  | .tup xs => okO (itemsA it xs) h
  | _ => .bad
/-! ### the evaluator -/
def setL : List Nat → List AV → En → Option En
  | [], [], e => some e
  | i :: r, d :: ds, e => if i < e.length then setL r ds (e.set i (some (.val d))) else none
  | _, _, _ => none
def setTg : Tg → AV → En → Option En
  | .nm i, d, e => if i < e.length then some (e.set i (some (.val d))) else none
  | .tp l, .tup ds, e => setL l ds e
  | _, _, _ => none
def wipeE (e : En) : List Nat → En
  | [] => e
  | v :: vs => (wipeE e vs).set v none
def compL (fi : AV → Option En) (t g : En → AH → R AV) : List AV → AH → R (List AV)
  | [], h => .ok [] h
  | x :: r, h => match fi x with
    | none => .bad
    | some e' => (t e' h).bind fun b h1 => match b with
      | .bl true => (g e' h1).bind fun d h2 => (compL fi t g r h2).bind fun l h3 => .ok (d :: l) h3
      | .bl false => compL fi t g r h1
      | _ => .bad
def noExc : R (List AV) → R AV
  | .ok ys h => .ok (.lst ys) h
  | _ => .bad
def lookF (f : Str) : List (Str × FV) → Option FV
  | [] => none
  | (g, v) :: r => if g = f then some v else lookF f r
def slotV (v : Bool) (e : En) (i : Nat) (h : AH) : R AV := match e[i]? with
  | some (some (.val d)) => .ok (if v then vw h d else d) h
  | some (some (.own c)) => if v then .ok c h else .bad
  | _ => .bad
def fldV (cs : List Nat) (v : Bool) (o : AV) (f : Str) (h : AH) : R AV := match o with
  | .ref n => (match h[n]? with
    | some (.ins c fs) => if cs.contains c = true then (match lookF f fs with
      | some (.val d) => .ok (if v then vw h d else d) h
      | some (.own c) => if v then .ok c h else .bad
      | _ => .bad) else .bad
    | _ => .bad)
  | _ => .bad
/-- the def that a name means at an object -/
def methOf (m : Str) (tbl : List (Nat × Sem)) (x : AV) (h : AH) : Option (Nat × Sem) := match x with
  | .ref n => (match h[n]? with
    | some (.ins c fs) => if (lookF m fs).isNone = true then (tbl.lookup c).map fun F => (n, F) else none
    | _ => none)
  | _ => none
def madeR (n : Nat) (r : R AV) : R AV := match r with
  | .ok .non h => .ok (.ref n) h
  | _ => .bad
def unT : AV → Option (List AV)
  | .tup l => some l
  | _ => none
def fresh (v : Bool) (d : AV) (h : AH) : R AV := .ok (if v then vw h d else d) h
/-- nothing is called that may change an object -/
def pureI : IE → Bool
  | .call _ _ | .meth _ _ _ _ | .make _ _ _ | .callx _ _ => false
  | .cons a r => pureI a && pureI r
  | .tup a | .lst a | .neg a | .bnd a | .not a | .rvs a | .inK _ a _ | .fld _ a _ => pureI a
  | .bin _ a b | .cmp _ a b | .and a b | .or a b | .sub a b => pureI a && pureI b
  | .chain _ _ a b c => pureI a && (pureI b && pureI c)
  | .ite a b c | .sli a b c => pureI a && (pureI b && pureI c)
  | .bi _ es => pureI es
  | .bm _ o es => pureI o && pureI es
  | .comp _ src _ t elt _ => pureI src && (pureI t && pureI elt)
  | .isTO _ a => pureI a
  | .slot _ | .con _ | .nil | .isx _ _ | .fldz _ _ _ | .slz _ => true
/-- isinstance(x, tuple), x perhaps an object of one of the classes -/
def isTR (cs : List Nat) (x : AV) (h : AH) : R AV := match x with
  | .ref n => (match h[n]? with
    | some (.ins c _) => if cs.contains c = true then .ok (.bl false) h else .bad
    | _ => .bad)
  | x => doBi .isTup [x] h
/-- v: a container that is somebody's own may be looked at -/
def ev (v : Bool) : IE → En → AH → R AV
  | .slot i, e, h => slotV v e i h
  | .con d, _, h => .ok d h
  | .nil, _, h => .ok (.tup []) h
  | .cons a r, e, h => (ev (v && pureI r) a e h).bind fun d h1 => (ev v r e h1).bind fun ds h2 => match ds with
    | .tup l => .ok (.tup (d :: l)) h2
    | _ => .bad
  | .tup es, e, h => (ev false es e h).bind fun ds h1 => match ds with
    | .tup l => if l.length ≤ LIM then .ok (.tup l) h1 else .bad
    | _ => .bad
  | .lst es, e, h => (ev false es e h).bind fun ds h1 => match ds with
    | .tup l => if l.length ≤ LIM then .ok (.lst l) h1 else .bad
    | _ => .bad
  | .neg a, e, h => (ev false a e h).bind fun d h1 => match d with
    | .int i => .ok (.int (-i)) h1
    | _ => .bad
  | .bnd a, e, h => (ev false a e h).bind fun d h1 => match d with
    | .int i => .ok (.int i) h1
    | _ => .bad
  | .bin o a b, e, h => (ev (pureI b) a e h).bind fun x h1 => (ev true b e h1).bind fun y h2 => doBin o x y h2
  | .cmp o a b, e, h => (ev (pureI b) a e h).bind fun x h1 => (ev true b e h1).bind fun y h2 => doCmp o x y h2
  | .chain o o' a b c, e, h => (ev false a e h).bind fun x h1 => (ev false b e h1).bind fun y h2 => (doCmp o x y h2).bind fun z h3 => match z with
    | .bl true => (ev false c e h3).bind fun u h4 => doCmp o' y u h4
    | .bl false => .ok (.bl false) h3
    | _ => .bad
  | .inK neg a ks, e, h => (ev true a e h).bind fun x h1 => match x with
    | .str s => .ok (.bl (if neg then !(decide (s ∈ ks)) else decide (s ∈ ks))) h1
    | _ => .bad
  | .and a b, e, h => (ev true a e h).bind fun x h1 => match x with
    | .bl true => ev v b e h1
    | .bl false => .ok (.bl false) h1
    | _ => .bad
  | .or a b, e, h => (ev true a e h).bind fun x h1 => match x with
    | .bl true => .ok (.bl true) h1
    | .bl false => ev v b e h1
    | _ => .bad
  | .not a, e, h => (ev true a e h).bind fun x h1 => match x with
    | .bl k => .ok (.bl !k) h1
    | _ => .bad
  | .ite t a b, e, h => (ev true t e h).bind fun x h1 => match x with
    | .bl true => ev v a e h1
    | .bl false => ev v b e h1
    | _ => .bad
  | .sub a i, e, h => (ev (pureI i) a e h).bind fun x h1 => (ev false i e h1).bind fun y h2 => (doSub x y h2).bind fun d h3 => fresh v d h3
  | .sli a lo hi, e, h => (ev (pureI lo && pureI hi) a e h).bind fun x h1 => (ev false lo e h1).bind fun y h2 => (ev false hi e h2).bind fun z h3 => doSli x y z h3
  | .rvs a, e, h => (ev true a e h).bind fun x h1 => match x with
    | .lst l => .ok (.lst l.reverse) h1
    | _ => .bad
  | .call f es, e, h => (ev false es e h).bind fun ds h1 => match ds with
    | .tup l => (f l h1).bind fun d h2 => fresh v d h2
    | _ => .bad
  | .bi b es, e, h => (ev true es e h).bind fun ds h1 => match ds with
    | .tup l => doBi b l h1
    | _ => .bad
  | .bm b o es, e, h => (ev (pureI es) o e h).bind fun x h1 => if bmOk b x = true then ((ev true es e h1).bind fun ds h2 => match ds with
    | .tup l => doBm b x l h2
    | _ => .bad) else .bad
  | .fld cs o f, e, h => (ev false o e h).bind fun x h1 => fldV cs v x f h1
  | .isTO cs a, e, h => (ev true a e h).bind fun x h1 => isTR cs x h1
  | .slz i, e, h => slotV false e i h
  | .fldz cs i f, e, h => (slotV false e i h).bind fun x h1 => fldV cs false x f h1
  | .meth m tbl o es, e, h => (ev false o e h).bind fun x h1 => match methOf m tbl x h1 with
    | some F => (ev false es e h1).bind fun ds h2 => (match ds with
      | .tup l => (F.2 (.ref F.1 :: l) h2).bind fun d h3 => fresh v d h3
      | _ => .bad)
    | none => .bad
  | .make c f es, e, h => (ev false es e h).bind fun ds h1 => match ds with
    | .tup l => madeR h1.length (f (.ref h1.length :: l) (h1 ++ [.ins c []]))
    | _ => .bad
  | .isx i cs, e, h => match e[i]? with
    | some (some (.exc c)) => .ok (.bl (cs.contains c)) h
    | _ => .bad
  | .callx f i, e, h => match e[i]? with
    | some (some (.exc c)) => (f c h).bind fun d h2 => fresh v d h2
    | _ => .bad
  | .comp it src tg t elt own, e, h => ((ev (pureI t && pureI elt) src e h).bind (itR it)).bind fun l h1 => noExc (compL (fun x => setTg tg x (wipeE e own)) (ev true t) (ev false elt) l h1)

inductive RS where
  | nx (e : En) (h : AH) | brk (e : En) (h : AH) | cnt (e : En) (h : AH) | ret (d : AV) (h : AH) | exc (c : Nat) (e : En) (h : AH) | bad
/-- behind an expression -/
def R.thn {α : Type} (r : R α) (e : En) (k : α → AH → RS) : RS := match r with
  | .ok a h => k a h
  | .exc c h => .exc c e h
  | .bad => .bad
def RS.seq (r : RS) (k : En → AH → RS) : RS := match r with
  | .nx e h => k e h
  | r => r
def forL (step : AV → En → AH → RS) : List AV → En → AH → RS
  | [], e, h => .nx e h
  | x :: r, e, h => match step x e h with
    | .nx e' h' => forL step r e' h'
    | .cnt e' h' => forL step r e' h'
    | .brk e' h' => .nx e' h'
    | q => q
def whileL (c : En → AH → R AV) (b : En → AH → RS) : Nat → En → AH → RS
  | 0, _, _ => .bad
  | n + 1, e, h => (c e h).thn e fun x h1 => match x with
    | .bl false => .nx e h1
    | .bl true => (match b e h1 with
      | .nx e' h' => whileL c b n e' h'
      | .cnt e' h' => whileL c b n e' h'
      | .brk e' h' => .nx e' h'
      | q => q)
    | _ => .bad
def FUEL : Nat := 100000
/-- c[k] = d of a container -/
def putA (c k d : AV) : Option AV := match c, k with
  | .lst l, .int i => (ixN l.length i).map fun j => AV.lst (l.set j d)
  | .dk ks vs, k => if ks.length < LIM then (keyOf k).map fun z => AV.dk (putK1 ks vs z d).1 (putK1 ks vs z d).2 else none
  | .dt ks vs, k => if ks.length < LIM then (keysOf k).map fun z => AV.dt (putK1 ks vs z d).1 (putK1 ks vs z d).2 else none
  | _, _ => none
def putFA (f : Str) (v : FV) : List (Str × FV) → List (Str × FV)
  | [] => [(f, v)]
  | (g, u) :: r => if g = f then (g, v) :: r else (g, u) :: putFA f v r

/-- a field of an object stored -/
def putO (cs : List Nat) (x : AV) (f : Str) (v : FV) (h : AH) : Option AH := match x with
  | .ref n => (match h[n]? with
    | some (.ins c fs) => if cs.contains c = true ∧ fs.length < 1000 then some (h.set n (.ins c (putFA f v fs))) else none
    | _ => none)
  | _ => none
def uniqF (f : Str) (fs : List (Str × FV)) : Bool := decide ((fs.filter fun p => decide (p.1 = f)).length = 1)
/-- a field holds a container of its own -/
def isOwnF (cs : List Nat) (x : AV) (f : Str) (h : AH) : Bool := match x with
  | .ref n => (match h[n]? with
    | some (.ins c fs) => cs.contains c && (match lookF f fs with | some (.own _) => true | _ => false)
    | _ => false)
  | _ => false
/-- x.f[k] = d -/
def putFO (cs : List Nat) (x : AV) (f : Str) (k d : AV) (h : AH) : Option AH := match x with
  | .ref n => (match h[n]? with
    | some (.ins c fs) => if cs.contains c = true ∧ uniqF f fs = true then (match lookF f fs with
      | some (.own cc) => (putA cc k d).map fun cc' => h.set n (.ins c (putFA f (.own cc') fs))
      | _ => none) else none
    | _ => none)
  | _ => none
/-- a key taken out -/
def popK {κ : Type} [DecidableEq κ] (ks : List κ) (vs : List AV) (z : κ) : Option (List κ × List AV) := if z ∈ ks then some (ks.filter fun k => decide (k ≠ z), ((ks.zip vs).filter fun p => decide (p.1 ≠ z)).map (·.2)) else none
def popA (c k : AV) : Option AV := match c with
  | .dk ks vs => (keyOf k).bind fun z => (popK ks vs z).map fun p => .dk p.1 p.2
  | _ => none
/-- what a key that is taken out stood for, and what is left -/
def popV (c k : AV) : Option (AV × AV) := match c with
  | .dk ks vs => (keyOf k).bind fun z => (lookK ks vs z).bind fun v => (popA (.dk ks vs) k).map fun c' => (v, c')
  | _ => none
/-- a field holds a dict of its own -/
def isOwnD (cs : List Nat) (x : AV) (f : Str) (h : AH) : Bool := match x with
  | .ref n => (match h[n]? with
    | some (.ins c fs) => cs.contains c && (match lookF f fs with | some (.own (.dk _ _)) => true | _ => false)
    | _ => false)
  | _ => false
/-- x.f.pop(k) -/
def popFO (cs : List Nat) (x : AV) (f : Str) (k : AV) (h : AH) : Option AH := match x with
  | .ref n => (match h[n]? with
    | some (.ins c fs) => if cs.contains c = true ∧ uniqF f fs = true then (match lookF f fs with
      | some (.own cc) => (popA cc k).map fun cc' => h.set n (.ins c (putFA f (.own cc') fs))
      | _ => none) else none
    | _ => none)
  | _ => none
/-- the container of x.f is let go -/
def frzF (cs : List Nat) (x : AV) (f : Str) (h : AH) : AH := match x with
  | .ref n => (match h[n]? with
    | some (.ins c fs) => if cs.contains c = true ∧ uniqF f fs = true then (match lookF f fs with
      | some (.own cc) => h.set n (.ins c (putFA f (.val cc) fs))
      | _ => h) else h
    | _ => h)
  | _ => h
/-- behind a suite that named an exception -/
def noX : Option FV → Option FV
  | some (.exc _) => none
  | x => x
def unx (i : Nat) : RS → RS
  | .nx e h => .nx ((e.map noX).set i none) h
  | .brk e h => .brk ((e.map noX).set i none) h
  | .cnt e h => .cnt ((e.map noX).set i none) h
  | .ret d h => .ret d h
  | _ => .bad
def slotD (e : En) (i : Nat) : AV := match e[i]? with
  | some (some (.val d)) => d
  | _ => .non
def isC : AV → Bool
  | .lst _ | .dk _ _ | .dt _ _ => true
  | _ => false
def ownR (d : AV) (h : AH) : R AV := if isC d = true then .ok d h else .bad
def ownC (e : En) (i : Nat) : Option AV := match e[i]? with
  | some (some (.own c)) => some c
  | _ => none
def ownLst (e : En) (i : Nat) : Option (List AV) := match e[i]? with
  | some (some (.own (.lst l))) => some l
  | _ => none
/-- a method called that makes a new container -/
def appR (m : Str) (c : Nat) (F : Sem) (o es : IE) (e : En) (h : AH) : R AV := (ev false o e h).bind fun x h1 => match methOf m [(c, F)] x h1 with
  | some G => (ev false es e h1).bind fun ds h2 => (match ds with
    | .tup l => (G.2 (.ref G.1 :: l) h2).bind ownR
    | _ => .bad)
  | none => .bad
def ex : IS → En → AH → RS
  | .skip, e, h => .nx e h
  | .seq a b, e, h => (ex a e h).seq (ex b)
  | .asg t a, e, h => (ev false a e h).thn e fun d h1 => match setTg t d e with
    | some e' => .nx e' h1
    | none => .bad
  | .par i j a b, e, h => (ev false a e h).thn e fun x h1 => (ev false b e h1).thn e fun y h2 =>
    if i < e.length ∧ j < e.length then .nx ((e.set i (some (.val x))).set j (some (.val y))) h2 else .bad
  | .own i a, e, h => ((ev false a e h).bind ownR).thn e fun d h1 => if i < e.length then .nx (e.set i (some (.own d))) h1 else .bad
  | .frz i, e, h => match e[i]? with
    | some (some (.own c)) => .nx (e.set i (some (.val c))) h
    | _ => .nx e h
  | .drop a, e, h => (ev true a e h).thn e fun _ h1 => .nx e h1
  | .app i a, e, h => match ownLst e i with
    | some l => (ev false a e h).thn e fun d h1 => if l.length < LIM then .nx (e.set i (some (.own (.lst (l ++ [d]))))) h1 else .bad
    | none => .bad
  | .sets i k a, e, h => match ownC e i with
    | some c => (ev false a e h).thn e fun d h1 => (ev false k e h1).thn e fun x h2 => (match putA c x d with
      | some c' => .nx (e.set i (some (.own c'))) h2
      | none => .bad)
    | none => .bad
  | .fset cs o f a, e, h => (ev false a e h).thn e fun d h1 => (ev false o e h1).thn e fun x h2 => match putO cs x f (.val d) h2 with
    | some h3 => .nx e h3
    | none => .bad
  | .fown cs o f a, e, h => ((ev false a e h).bind ownR).thn e fun d h1 => (ev false o e h1).thn e fun x h2 => match putO cs x f (.own d) h2 with
    | some h3 => .nx e h3
    | none => .bad
  | .fsets cs o f k a, e, h => (ev false a e h).thn e fun d h1 => (ev false o e h1).thn e fun x h2 => if isOwnF cs x f h2 = true then ((ev false k e h2).thn e fun y h3 => match putFO cs x f y d h3 with
      | some h4 => .nx e h4
      | none => .bad) else .bad
  | .fpop cs o f k, e, h => (ev false o e h).thn e fun x h1 => if isOwnD cs x f h1 = true then ((ev false k e h1).thn e fun y h2 => match popFO cs x f y h2 with
      | some h3 => .nx e h3
      | none => .bad) else .bad
  | .ffrz cs i f, e, h => .nx e (frzF cs (slotD e i) f h)
  | .fmov cs o f i, e, h => match ownC e i with
    | some c => (ev false o e h).thn e fun x h1 => (match putO cs x f (.own c) h1 with
      | some h2 => .nx (e.set i (some .gone)) h2
      | none => .bad)
    | none => .bad
  | .ifs c a b, e, h => (ev true c e h).thn e fun x h1 => match x with
    | .bl true => ex a e h1
    | .bl false => ex b e h1
    | _ => .bad
  | .fors t it src b, e, h => ((ev false src e h).bind (itR it)).thn e fun l h1 => forL (fun x e1 h2 => match setTg t x e1 with | some e2 => ex b e2 h2 | none => .bad) l e h1
  | .whil c b, e, h => whileL (ev true c) (ex b) FUEL e h
  | .ret a, e, h => (ev false a e h).thn e fun d h1 => .ret d h1
  | .brk, e, h => .brk e h
  | .cnt, e, h => .cnt e h
  | .rais c, e, h => .exc c e h
  | .appN m c F o es a, e, h => (appR m c F o es e h).thn e fun d h1 => match d with
    | .lst l => (ev false a e h1).thn e fun _ h2 => if l.length < LIM then .nx e h2 else .bad
    | _ => .bad
  | .retPop t i k b, e, h => (ev true t e h).thn e fun x h1 => match x with
    | .bl true => (match ownC e i with
      | some (.dk ks vs) => (ev false k e h1).thn e fun y h2 => (match popV (.dk ks vs) y with
        | some p => .ret (.tup [p.1, p.2]) h2
        | none => .bad)
      | _ => .bad)
    | .bl false => (ev false b e h1).thn e fun d h2 => .ret d h2
    | _ => .bad
  | .tryo b al cs s, e, h => match ex b e h with
    | .exc c e' h' => if al.contains c = true then (if cs.contains c = true then ex s e' h' else .exc c e' h') else .bad
    | q => q
  | .tryx b al cs i s, e, h => match ex b e h with
    | .exc c e' h' => if al.contains c = true then (if cs.contains c = true then unx i (ex s (e'.set i (some (.exc c))) h') else .exc c e' h') else .bad
    | q => q

/-- a def's body run -/
def runDef (n : Nat) (b : IS) : Sem := fun args h => match ex b (args.map (fun d => some (.val d)) ++ List.replicate (n - args.length) none) h with
  | .ret d h => .ok d h
  | .nx _ h => .ok .non h
  | .exc c _ h => .exc c h
  | _ => .bad
/-- a def that gets an exception of the class c -/
def runX (n : Nat) (b : IS) : Nat → AH → R AV := fun c h => match ex b (some (.exc c) :: List.replicate (n - 1) none) h with
  | .ret d h => .ok d h
  | .nx _ h => .ok .non h
  | _ => .bad
end Ab

set_option autoImplicit false
set_option maxHeartbeats 2000000
/-! AbB: what an abstract state says of a heap; the readings; the first nodes. -/
namespace Ab
open PySem PySem.Spec PyProof.Rows L2

/-- who holds a hidden object -/
inductive Ow where
  | obj (n : Nat) | fld (n : Nat) (f : Str) | slot (i : Nat) | out
/-- where the classes stand -/
structure Bs where
  K : PySem.W.Frag
  ca : Nat → Addr
  xa : Nat → Addr
  xo : Addr → Nat → Prop

structure WS where
  H : Hp
  ah : AH
  w : Addr → Option Ow
def WS.G (S : WS) : Hp := fun b => match S.w b with
  | none => S.H b
  | some _ => none
theorem WS.G_none {S : WS} {b : Addr} (h : S.w b = none) : S.G b = S.H b := by unfold WS.G; rw [h]
theorem WS.G_some {S : WS} {b : Addr} {o : HO} (h : S.G b = some o) : S.w b = none ∧ S.H b = some o := by
  unfold WS.G at h
  cases q : S.w b with
  | none => rw [q] at h; exact ⟨rfl, h⟩
  | some x => rw [q] at h; cases h

inductive Fo {α β : Type} (r : α → β → Prop) : List α → List β → Prop where
  | nil : Fo r [] []
  | cons {a b l m} : r a b → Fo r l m → Fo r (a :: l) (b :: m)
section
variable {α β : Type} {r s : α → β → Prop}
theorem Fo.len : ∀ {l : List α} {m : List β}, Fo r l m → l.length = m.length
  | _, _, .nil => rfl
  | _, _, .cons _ t => by rw [List.length_cons, List.length_cons, t.len]
theorem Fo.imp (h : ∀ a b, r a b → s a b) : ∀ {l : List α} {m : List β}, Fo r l m → Fo s l m
  | _, _, .nil => .nil
  | _, _, .cons p t => .cons (h _ _ p) (t.imp h)
theorem Fo.app : ∀ {l l' : List α} {m m' : List β}, Fo r l m → Fo r l' m' → Fo r (l ++ l') (m ++ m')
  | _, _, _, _, .nil, t => t
  | _, _, _, _, .cons p q, t => .cons p (q.app t)
theorem Fo.take : ∀ (n : Nat) {l : List α} {m : List β}, Fo r l m → Fo r (l.take n) (m.take n)
  | 0, _, _, _ => by simpa using Fo.nil
  | _ + 1, _, _, .nil => by simpa using Fo.nil
  | n + 1, _, _, .cons p t => .cons p (t.take n)
theorem Fo.drop : ∀ (n : Nat) {l : List α} {m : List β}, Fo r l m → Fo r (l.drop n) (m.drop n)
  | 0, _, _, h => h
  | _ + 1, _, _, .nil => by simpa using Fo.nil
  | n + 1, _, _, .cons _ t => t.drop n
theorem Fo.rev {l : List α} {m : List β} (h : Fo r l m) : Fo r l.reverse m.reverse := by
  induction h with
  | nil => exact .nil
  | cons p _ ih => rw [List.reverse_cons, List.reverse_cons]; exact ih.app (.cons p .nil)
theorem Fo.set {a : α} {b : β} (p : r a b) : ∀ (i : Nat) {l : List α} {m : List β}, Fo r l m → Fo r (l.set i a) (m.set i b)
  | _, _, _, .nil => .nil
  | 0, _, _, .cons _ t => .cons p t
  | i + 1, _, _, .cons q t => .cons q (t.set p i)
theorem Fo.get : ∀ {i : Nat} {l : List α} {m : List β} {a : α}, Fo r l m → l[i]? = some a → ∃ b, m[i]? = some b ∧ r a b
  | _, _, _, _, .nil, e => by simp at e
  | 0, _, _, _, .cons p _, e => by simp at e; subst e; exact ⟨_, rfl, p⟩
  | i + 1, _, _, _, .cons _ t, e => by
    obtain ⟨b, h1, h2⟩ := Fo.get (i := i) t (by simpa using e)
    exact ⟨b, by simpa using h1, h2⟩
theorem Fo.get' : ∀ {i : Nat} {l : List α} {m : List β} {b : β}, Fo r l m → m[i]? = some b → ∃ a, l[i]? = some a ∧ r a b
  | _, _, _, _, .nil, e => by simp at e
  | 0, _, _, _, .cons p _, e => by simp at e; subst e; exact ⟨_, rfl, p⟩
  | i + 1, _, _, _, .cons _ t, e => by
    obtain ⟨b, h1, h2⟩ := Fo.get' (i := i) t (by simpa using e)
    exact ⟨b, by simpa using h1, h2⟩
theorem Fo.mapR {γ : Type} {f : γ → β} (h : ∀ a c, s a (f c) → s a (f c)) : True := trivial
end

section
variable (K : PySem.W.Frag) (w : Addr → Option Ow) (G : Hp)
mutual
/-- the value v stands for d; all of it frozen -/
inductive Rep : AV → V → Prop where
  | non : Rep .non .non
  | bl (b : Bool) : Rep (.bl b) (.bl b)
  | int (i : Int) : Rep (.int i) (.int i)
  | str (s : Str) (h : PyData.strOk s = true) : Rep (.str s) (.str s)
  | tup {a : Addr} {l : List AV} {xs : List V} : G a = some (.tup xs) → Reps l xs → Rep (.tup l) (.ref a)
  | lst {a : Addr} {l : List AV} {xs : List V} : G a = some (.lst xs) → Reps l xs → Rep (.lst l) (.ref a)
  | dk {a : Addr} {ks : List Key} {l : List AV} {kvs : List (Key × V)} : Rd G a (.dK kvs) → kvs.map (·.1) = ks → Reps l (kvs.map (·.2)) → Rep (.dk ks l) (.ref a)
  | dt {a : Addr} {ks : List (List Key)} {l : List AV} {kvs : List (List Key × V)} : Rd G a (.dT kvs) → kvs.map (·.1) = ks → Reps l (kvs.map (·.2)) → Rep (.dt ks l) (.ref a)
  | scr {a : Addr} {l : List Int} : l.length ≤ LIM → SqL K G a (l.map V.int) → Rep (.scr l) (.ref a)
  | ref {a : Addr} {n : Nat} : w a = some (.obj n) → Rep (.ref n) (.ref a)
inductive Reps : List AV → List V → Prop where
  | nil : Reps [] []
  | cons {d : AV} {l : List AV} {v : V} {xs : List V} : Rep d v → Reps l xs → Reps (d :: l) (v :: xs)
end
/-- a container whose own object is read off H -/
inductive RepC (H : Hp) : AV → Addr → Prop where
  | lst {a : Addr} {l : List AV} {xs : List V} : H a = some (.lst xs) → Reps K w G l xs → RepC H (.lst l) a
  | dk {a : Addr} {ks : List Key} {l : List AV} {kvs : List (Key × V)} : H a = some (.dK kvs) → kvs.map (·.1) = ks → Reps K w G l (kvs.map (·.2)) → RepC H (.dk ks l) a
  | dt {a : Addr} {ks : List (List Key)} {l : List AV} {kvs : List (List Key × V)} : H a = some (.dT kvs) → kvs.map (·.1) = ks → Reps K w G l (kvs.map (·.2)) → RepC H (.dt ks l) a
end
theorem reps_fo {K : PySem.W.Frag} {w : Addr → Option Ow} {G : Hp} : ∀ {l : List AV} {xs : List V}, Reps K w G l xs → Fo (Rep K w G) l xs
  | _, _, .nil => .nil
  | _, _, .cons p t => .cons p (reps_fo t)
theorem fo_reps {K : PySem.W.Frag} {w : Addr → Option Ow} {G : Hp} : ∀ {l : List AV} {xs : List V}, Fo (Rep K w G) l xs → Reps K w G l xs
  | _, _, .nil => .nil
  | _, _, .cons p t => .cons p (fo_reps t)
theorem rd_same {G G' : Hp} (h : Same G G') {a : Addr} {u : HO} (q : Rd G a u) : Rd G' a u := q.imp (h _ _) fun ⟨o, e⟩ => ⟨o, h _ _ e⟩
theorem same_sql {K : PySem.W.Frag} {G G' : Hp} {a : Addr} {xs : List V} (h : Same G G') (q : SqL K G a xs) : SqL K G' a xs := h.seq q
mutual
theorem Rep.mono {K : PySem.W.Frag} {w w' : Addr → Option Ow} {G G' : Hp} (hw : ∀ a n, w a = some (.obj n) → w' a = some (.obj n)) (hG : Same G G') : ∀ {d : AV} {v : V}, Rep K w G d v → Rep K w' G' d v
  | _, _, .non => .non
  | _, _, .bl b => .bl b
  | _, _, .int b => .int b
  | _, _, .str b h => .str b h
  | _, _, .tup e t => .tup (hG _ _ e) (Reps.mono hw hG t)
  | _, _, .lst e t => .lst (hG _ _ e) (Reps.mono hw hG t)
  | _, _, .dk e k t => .dk (rd_same hG e) k (Reps.mono hw hG t)
  | _, _, .dt e k t => .dt (rd_same hG e) k (Reps.mono hw hG t)
  | _, _, .scr z e => .scr z (same_sql hG e)
  | _, _, .ref e => .ref (hw _ _ e)
theorem Reps.mono {K : PySem.W.Frag} {w w' : Addr → Option Ow} {G G' : Hp} (hw : ∀ a n, w a = some (.obj n) → w' a = some (.obj n)) (hG : Same G G') : ∀ {d : List AV} {v : List V}, Reps K w G d v → Reps K w' G' d v
  | _, _, .nil => .nil
  | _, _, .cons p t => .cons (Rep.mono hw hG p) (Reps.mono hw hG t)
end

section
variable (B : Bs)
abbrev WS.R (S : WS) : AV → V → Prop := Rep B.K S.w S.G
abbrev WS.Rs (S : WS) : List AV → List V → Prop := Fo (Rep B.K S.w S.G)
abbrev WS.C (S : WS) : AV → Addr → Prop := RepC B.K S.w S.G S.H
/-- a value that may be looked at: frozen, or a container that is somebody's own -/
def WS.View (S : WS) (d : AV) (v : V) : Prop := S.R B d v ∨ ∃ b, v = .ref b ∧ S.C B d b
/-- a field of the object n -/
def FR (S : WS) (n : Nat) (f : Str) (fv : FV) (v : V) : Prop := match fv with
  | .val d => S.R B d v
  | .own c => ∃ b, v = .ref b ∧ S.w b = some (.fld n f) ∧ S.C B c b
  | .gone => True
  | .exc _ => True
def FRs (S : WS) (n : Nat) : List (Str × FV) → List (Str × V) → Prop := Fo fun p q => p.1 = q.1 ∧ FR B S n p.1 p.2 q.2
def OR (S : WS) (n : Nat) (a : Addr) : AO → Prop
  | .ins c fs => ∃ dx fs', S.H a = some (.ins (B.ca c) dx fs') ∧ FRs B S n fs fs'
  | .box c => S.C B c a
  | .gone => True
structure WS.Ok (S : WS) : Prop where
  objs : ∀ n o, S.ah[n]? = some o → ∃ a, S.w a = some (.obj n) ∧ OR B S n a o
  inj : ∀ a b n, S.w a = some (.obj n) → S.w b = some (.obj n) → a = b
  lt : ∀ a n, S.w a = some (.obj n) → n < S.ah.length
  trk : ∀ a o, S.w a = some o → ∃ u, S.H a = some u
  szl : ∀ a xs, S.H a = some (.lst xs) → xs.length ≤ LIM
  szt : ∀ a xs, S.H a = some (.tup xs) → xs.length ≤ LIM

/-- what an expression leaves: frozen things stay, the frames' own containers stay; p: all hidden things stay -/
structure WS.le (p : Bool) (S T : WS) : Prop where
  objs : ∀ a n, S.w a = some (.obj n) → T.w a = some (.obj n)
  same : Same S.G T.G
  slots : ∀ b i, S.w b = some (.slot i) → T.w b = some (.slot i) ∧ T.H b = S.H b
  outs : ∀ b, S.w b = some .out → T.w b = some .out ∧ T.H b = S.H b
  keep : p = true → ∀ b o, S.w b = some o → T.w b = some o ∧ T.H b = S.H b
end
/-- frozen things and objects stay; p: all hidden things -/
structure WS.lk (p : Bool) (S T : WS) : Prop where
  objs : ∀ a n, S.w a = some (.obj n) → T.w a = some (.obj n)
  same : Same S.G T.G
  keep : p = true → ∀ b o, S.w b = some o → T.w b = some o ∧ T.H b = S.H b
/-- what a statement leaves -/
structure WS.leS (S T : WS) : Prop where
  objs : ∀ a n, S.w a = some (.obj n) → T.w a = some (.obj n)
  same : Same S.G T.G
  outs : ∀ b, S.w b = some .out → T.w b = some .out ∧ T.H b = S.H b
theorem WS.le.lk {p : Bool} {S T : WS} (l : S.le p T) : S.lk p T := ⟨l.objs, l.same, l.keep⟩
theorem WS.le.s {p : Bool} {S T : WS} (l : S.le p T) : S.leS T := ⟨l.objs, l.same, l.outs⟩
theorem WS.leS.lk {S T : WS} (l : S.leS T) : S.lk false T := ⟨l.objs, l.same, fun z => nomatch z⟩
theorem WS.leS.refl (S : WS) : S.leS S := ⟨fun _ _ h => h, fun _ _ h => h, fun _ h => ⟨h, rfl⟩⟩
theorem WS.leS.trans {S T U : WS} (a : S.leS T) (b : T.leS U) : S.leS U := by
  refine ⟨fun x n e => b.objs _ _ (a.objs _ _ e), fun x o e => b.same _ _ (a.same _ _ e), fun x e => ?_⟩
  obtain ⟨e1, e2⟩ := a.outs x e
  obtain ⟨e3, e4⟩ := b.outs x e1
  exact ⟨e3, e4.trans e2⟩
theorem WS.le.refl (p : Bool) (S : WS) : S.le p S := ⟨fun _ _ h => h, fun _ _ h => h, fun _ _ h => ⟨h, rfl⟩, fun _ h => ⟨h, rfl⟩, fun _ _ _ h => ⟨h, rfl⟩⟩
theorem WS.le.trans {p q r : Bool} {S T U : WS} (a : S.le p T) (b : T.le q U) (h : r = true → p = true ∧ q = true) : S.le r U := by
  refine ⟨fun x n e => b.objs _ _ (a.objs _ _ e), fun x o e => b.same _ _ (a.same _ _ e), fun x i e => ?_, fun x e => ?_, fun hr x o e => ?_⟩
  · obtain ⟨e1, e2⟩ := a.slots x i e
    obtain ⟨e3, e4⟩ := b.slots x i e1
    exact ⟨e3, e4.trans e2⟩
  · obtain ⟨e1, e2⟩ := a.outs x e
    obtain ⟨e3, e4⟩ := b.outs x e1
    exact ⟨e3, e4.trans e2⟩
  · obtain ⟨hp, hq⟩ := h hr
    obtain ⟨e1, e2⟩ := a.keep hp x o e
    obtain ⟨e3, e4⟩ := b.keep hq x o e1
    exact ⟨e3, e4.trans e2⟩
theorem WS.le.weak {p q : Bool} {S T : WS} (a : S.le p T) (h : q = true → p = true) : S.le q T := ⟨a.objs, a.same, a.slots, a.outs, fun e => a.keep (h e)⟩

section
variable {B : Bs} {S T : WS} {p : Bool}
theorem WS.le.rep (l : S.le p T) {d : AV} {v : V} (h : S.R B d v) : T.R B d v := Rep.mono l.objs l.same h
theorem WS.le.reps (l : S.le p T) {d : List AV} {v : List V} (h : S.Rs B d v) : T.Rs B d v := h.imp fun _ _ q => l.rep q
theorem WS.le.repsI (l : S.le p T) {d : List AV} {v : List V} (h : Reps B.K S.w S.G d v) : Reps B.K T.w T.G d v := Reps.mono l.objs l.same h
theorem WS.le.cont (l : S.le p T) {c : AV} {b : Addr} (h : S.C B c b) (e : T.H b = S.H b) : T.C B c b := by
  cases h with
  | lst q t => exact .lst (e.trans q) (l.repsI t)
  | dk q k t => exact .dk (e.trans q) k (l.repsI t)
  | dt q k t => exact .dt (e.trans q) k (l.repsI t)
theorem WS.C.tracked {c : AV} {b : Addr} (h : S.C B c b) : ∃ u, S.H b = some u := by
  cases h with
  | lst q _ => exact ⟨_, q⟩
  | dk q _ _ => exact ⟨_, q⟩
  | dt q _ _ => exact ⟨_, q⟩
theorem WS.le.view (l : S.le true T) {d : AV} {v : V} (h : S.View B d v) : T.View B d v := by
  rcases h with h | ⟨b, rfl, h⟩
  · exact .inl (l.rep h)
  · refine .inr ⟨b, rfl, l.cont h ?_⟩
    cases q : S.w b with
    | some o => exact (l.keep rfl b o q).2
    | none =>
      obtain ⟨u, hu⟩ := h.tracked
      have e := l.same b u ((WS.G_none q).trans hu)
      rw [(WS.G_some e).2, hu]
end

section
variable {B : Bs} {S T : WS} {p : Bool}
theorem WS.lk.rep (l : S.lk p T) {d : AV} {v : V} (h : S.R B d v) : T.R B d v := Rep.mono l.objs l.same h
theorem WS.leS.rep (l : S.leS T) {d : AV} {v : V} (h : S.R B d v) : T.R B d v := Rep.mono l.objs l.same h
theorem WS.lk.repsI (l : S.lk p T) {d : List AV} {v : List V} (h : Reps B.K S.w S.G d v) : Reps B.K T.w T.G d v := Reps.mono l.objs l.same h
theorem WS.lk.cont (l : S.lk p T) {c : AV} {b : Addr} (h : S.C B c b) (e : T.H b = S.H b) : T.C B c b := by
  cases h with
  | lst q t => exact .lst (e.trans q) (l.repsI t)
  | dk q k t => exact .dk (e.trans q) k (l.repsI t)
  | dt q k t => exact .dt (e.trans q) k (l.repsI t)
theorem WS.lk.view (l : S.lk true T) {d : AV} {v : V} (h : S.View B d v) : T.View B d v := by
  rcases h with h | ⟨b, rfl, h⟩
  · exact .inl (l.rep h)
  · refine .inr ⟨b, rfl, l.cont h ?_⟩
    cases q : S.w b with
    | some o => exact (l.keep rfl b o q).2
    | none =>
      obtain ⟨u, hu⟩ := h.tracked
      have e := l.same b u ((WS.G_none q).trans hu)
      rw [(WS.G_some e).2, hu]
end
/-- what a frame's slots hold -/
def SR (B : Bs) (S : WS) (i : Nat) (fv : FV) (v : V) : Prop := match fv with
  | .val d => S.R B d v
  | .own c => ∃ b, v = .ref b ∧ S.w b = some (.slot i) ∧ S.C B c b
  | .gone => True
  | .exc c => ∃ a, v = .ref a ∧ B.xo a c
structure ERep (B : Bs) (S : WS) (env : En) (σ : L2.St) : Prop where
  len : env.length = σ.length
  at_ : ∀ i fv, env[i]? = some (some fv) → ∃ v, σ[i]? = some (some v) ∧ SR B S i fv v
theorem ERep.mono {B : Bs} {S T : WS} {p : Bool} {env : En} {σ : L2.St} (e : ERep B S env σ) (l : S.le p T) : ERep B T env σ := by
  refine ⟨e.len, fun i fv h => ?_⟩
  obtain ⟨v, h1, h2⟩ := e.at_ i fv h
  refine ⟨v, h1, ?_⟩
  cases fv with
  | val d => exact l.rep h2
  | own c =>
    obtain ⟨b, rfl, hb, hc⟩ := h2
    obtain ⟨q1, q2⟩ := l.slots b i hb
    exact ⟨b, rfl, q1, l.cont hc q2⟩
  | gone => exact True.intro
  | exc _ => first | exact trivial | exact h2 | exact e2 | exact h

/-! ### outcomes -/
def Outs (B : Bs) (S : WS) (p : Bool) {α β : Type} (rel : WS → α → β → Prop) (E : Nat → Hp → Prop) (r : R α) (Q : β → Hp → Prop) : Prop := match r with
  | .ok d ah => ∀ T : WS, T.Ok B → T.ah = ah → S.le p T → ∀ x, rel T d x → Q x T.H
  | .exc c ah => ∀ T : WS, T.Ok B → T.ah = ah → S.le false T → E c T.H
  | .bad => False
theorem Outs.bind {B : Bs} {S : WS} {p p1 p2 : Bool} {α β γ δ : Type} {rel1 : WS → α → β → Prop} {rel2 : WS → γ → δ → Prop} {E : Nat → Hp → Prop} {r : R α} {k : α → AH → R γ} {Q : δ → Hp → Prop} {Q1 : β → Hp → Prop}
    (h : Outs B S p rel2 E (r.bind k) Q) (hp : p = true → p1 = true ∧ p2 = true)
    (hQ : ∀ (T : WS) d x, T.Ok B → S.le p1 T → rel1 T d x → r = .ok d T.ah → Outs B T p2 rel2 E (k d T.ah) Q → Q1 x T.H) : Outs B S p1 rel1 E r Q1 := by
  cases r with
  | bad => exact h
  | exc c ah => exact h
  | ok d ah =>
    intro T ok e l x hx
    subst e
    refine hQ T d x ok l hx rfl ?_
    have h' : Outs B S p rel2 E (k d T.ah) Q := h
    cases q : k d T.ah with
    | bad => rw [q] at h'; exact h'
    | exc c ah2 =>
      rw [q] at h'
      exact fun U ok2 e2 l2 => h' U ok2 e2 (l.trans l2 (fun z => nomatch z))
    | ok d2 ah2 =>
      rw [q] at h'
      exact fun U ok2 e2 l2 x2 hx2 => h' U ok2 e2 (l.trans l2 hp) x2 hx2
theorem Outs.imp {B : Bs} {S : WS} {p : Bool} {α β : Type} {rel : WS → α → β → Prop} {E : Nat → Hp → Prop} {r : R α} {Q Q' : β → Hp → Prop} (h : Outs B S p rel E r Q) (hQ : ∀ x H, Q x H → Q' x H) : Outs B S p rel E r Q' := by
  cases r with
  | bad => exact h
  | exc c ah => exact h
  | ok d ah => exact fun T ok e l x hx => hQ _ _ (h T ok e l x hx)

def RV (B : Bs) (v : Bool) (S : WS) (d : AV) (x : V) : Prop := match v with
  | true => S.View B d x
  | false => S.R B d x
theorem RV.of {B : Bs} {v : Bool} {S : WS} {d : AV} {x : V} (h : S.R B d x) : RV B v S d x := by
  cases v with
  | true => exact .inl h
  | false => exact h
theorem RV.view {B : Bs} {v : Bool} {S : WS} {d : AV} {x : V} (h : RV B v S d x) : S.View B d x := by
  cases v with
  | true => exact h
  | false => exact .inl h
def RL (B : Bs) (v : Bool) (S : WS) (d : AV) (xs : List V) : Prop := ∃ l, d = .tup l ∧ Fo (RV B v S) l xs
def WE (B : Bs) (W : WX) (σ : L2.St) : Nat → Hp → Prop := fun c H => W (.ref (B.xa c)) none σ H
/-- the reading of a compiled expression -/
def tE (B : Bs) (W : WX) (v : Bool) (ir : IE) : TE := fun σ H Q => ∃ (S : WS) (env : En), S.H = H ∧ S.Ok B ∧ ERep B S env σ ∧ Outs B S (pureI ir) (RV B v) (WE B W σ) (ev v ir env S.ah) Q
def tA (B : Bs) (W : WX) (v : Bool) (ir : IE) : TA := fun σ H Q => ∃ (S : WS) (env : En), S.H = H ∧ S.Ok B ∧ ERep B S env σ ∧ Outs B S (pureI ir) (RL B v) (WE B W σ) (ev v ir env S.ah) Q

/-! ### a new frozen object -/
def WS.put (S : WS) (p : Addr) (o : HO) : WS := { S with H := upd S.H p o }
section
variable {B : Bs} {S : WS} {p : Addr} {o : HO}
theorem WS.Ok.free (ok : S.Ok B) (h : S.H p = none) : S.w p = none := by
  cases q : S.w p with
  | none => rfl
  | some x =>
    obtain ⟨u, hu⟩ := ok.trk p x q
    rw [h] at hu; cases hu
theorem put_le (ok : S.Ok B) (h : S.H p = none) (q : Bool) : S.le q (S.put p o) := by
  have hw := ok.free h
  have ne : ∀ b x, S.w b = some x → b ≠ p := fun b x e z => by rw [z, hw] at e; cases e
  refine ⟨fun _ _ e => e, fun b u e => ?_, fun b i e => ⟨e, upd_ne (ne b _ e)⟩, fun b e => ⟨e, upd_ne (ne b _ e)⟩, fun _ b x e => ⟨e, upd_ne (ne b _ e)⟩⟩
  obtain ⟨e1, e2⟩ := WS.G_some e
  have nb : b ≠ p := fun z => by rw [z, h] at e2; cases e2
  show WS.G _ b = some u
  rw [WS.G_none (S := S.put p o) e1]
  exact (upd_ne nb).trans e2
theorem put_at (ok : S.Ok B) (h : S.H p = none) : (S.put p o).G p = some o := by
  rw [WS.G_none (S := S.put p o) (ok.free h)]
  exact upd_same
theorem sql_put {K : PySem.W.Frag} {H : Hp} {a : Addr} {xs : List V} (h : SqL K (upd H p o) a xs) : a = p ∧ (o = .lst xs ∨ ∃ ob, o = .frz ob (.lst xs)) ∨ SqL K H a xs := by
  rcases h with (h | ⟨ob, h⟩) | h
  · by_cases e : a = p
    · subst e; rw [upd_same] at h; exact .inl ⟨rfl, .inl (Option.some.inj h)⟩
    · rw [upd_ne e] at h; exact .inr (.inl (.inl h))
  · by_cases e : a = p
    · subst e; rw [upd_same] at h; exact .inl ⟨rfl, .inr ⟨ob, Option.some.inj h⟩⟩
    · rw [upd_ne e] at h; exact .inr (.inl (.inr ⟨ob, h⟩))
  · exact .inr (.inr h)
theorem FR.mono {T : WS} {n : Nat} {f : Str} {fv : FV} {v : V} {q : Bool} (l : S.le q T) (hk : ∀ b o, S.w b = some o → T.w b = some o ∧ T.H b = S.H b) (h : FR B S n f fv v) : FR B T n f fv v := by
  cases fv with
  | val d => exact l.rep h
  | own c =>
    obtain ⟨b, rfl, hb, hc⟩ := h
    obtain ⟨q1, q2⟩ := hk b _ hb
    exact ⟨b, rfl, q1, l.cont hc q2⟩
  | gone => exact True.intro
  | exc _ => first | exact trivial | exact h2 | exact e2 | exact h
theorem OR.mono {T : WS} {n : Nat} {a : Addr} {ob : AO} {q : Bool} (l : S.le q T) (hk : ∀ b o, S.w b = some o → T.w b = some o ∧ T.H b = S.H b) (ha : S.w a = some (.obj n)) (h : OR B S n a ob) : OR B T n a ob := by
  cases ob with
  | gone => exact True.intro
  | box c => exact l.cont h (hk a _ ha).2
  | ins c fs =>
    obtain ⟨dx, fs', h1, h2⟩ := h
    exact ⟨dx, fs', (hk a _ ha).2.trans h1, h2.imp fun _ _ ⟨e, q⟩ => ⟨e, q.mono l hk⟩⟩
theorem put_ok (ok : S.Ok B) (h : S.H p = none) (hl : ∀ xs, o = .lst xs → xs.length ≤ LIM) (ht : ∀ xs, o = .tup xs → xs.length ≤ LIM) (hf : ∀ ob u, o ≠ .frz ob u) : (S.put p o).Ok B := by
  have hw := ok.free h
  have l : S.le true (S.put p o) := put_le ok h true
  refine ⟨fun n ob e => ?_, ok.inj, ok.lt, fun a x e => ?_, fun a xs e => ?_, fun a xs e => ?_⟩
  · obtain ⟨a, ha, q⟩ := ok.objs n ob e
    exact ⟨a, ha, q.mono l (l.keep rfl) ha⟩
  · obtain ⟨u, hu⟩ := ok.trk a x e
    by_cases z : a = p
    · exact ⟨o, by rw [z]; exact upd_same⟩
    · exact ⟨u, (upd_ne z).trans hu⟩
  · have e : upd S.H p o a = some (.lst xs) := e
    by_cases z : a = p
    · rw [z, upd_same] at e; exact hl xs (Option.some.inj e)
    · rw [upd_ne z] at e; exact ok.szl a xs e
  · have e : upd S.H p o a = some (.tup xs) := e
    by_cases z : a = p
    · rw [z, upd_same] at e; exact ht xs (Option.some.inj e)
    · rw [upd_ne z] at e; exact ok.szt a xs e
end
theorem LIM_line : LIM = sizeLine := by rw [sizeLine_eq]; rfl

section
variable {B : Bs} {S : WS}
/-- a view of a list, a tuple, as HandS reads it -/
theorem WS.View.lst {l : List AV} {v : V} (h : S.View B (.lst l) v) : ∃ a xs, v = .ref a ∧ S.H a = some (.lst xs) ∧ S.Rs B l xs := by
  rcases h with h | ⟨b, rfl, h⟩
  · cases h with
    | lst e t => exact ⟨_, _, rfl, (WS.G_some e).2, reps_fo t⟩
  · cases h with
    | lst e t => exact ⟨b, _, rfl, e, reps_fo t⟩
theorem WS.View.tup {l : List AV} {v : V} (h : S.View B (.tup l) v) : ∃ a xs, v = .ref a ∧ S.H a = some (.tup xs) ∧ S.Rs B l xs := by
  rcases h with h | ⟨b, rfl, h⟩
  · cases h with
    | tup e t => exact ⟨_, _, rfl, (WS.G_some e).2, reps_fo t⟩
  · cases h
theorem WS.View.int {i : Int} {v : V} (h : S.View B (.int i) v) : v = .int i := by
  rcases h with h | ⟨b, rfl, h⟩
  · cases h; rfl
  · cases h
theorem WS.View.str {i : Str} {v : V} (h : S.View B (.str i) v) : v = .str i ∧ PyData.strOk i = true := by
  rcases h with h | ⟨b, rfl, h⟩
  · cases h with
    | str _ q => exact ⟨rfl, q⟩
  · cases h
theorem strOk_app {a b : Str} (ha : PyData.strOk a = true) (hb : PyData.strOk b = true) : PyData.strOk (a ++ b) = true := by
  unfold PyData.strOk at *
  rw [Array.all_eq_true_iff_forall_mem] at *
  intro x hx
  have hx : x ∈ a.cps ++ b.cps := hx
  rcases Array.mem_append.mp hx with h | h
  · exact ha x h
  · exact hb x h
theorem strOk_iff {a : Str} : PyData.strOk a = true ↔ ∀ x ∈ a.cps.toList, x < 1114112 := by
  unfold PyData.strOk
  rw [Array.all_eq_true_iff_forall_mem]
  constructor
  · intro h x hx
    simpa using h x (by simpa using hx)
  · intro h x hx
    simpa using h x (by simpa using hx)
theorem WS.View.bl {i : Bool} {v : V} (h : S.View B (.bl i) v) : v = .bl i := by
  rcases h with h | ⟨b, rfl, h⟩
  · cases h; rfl
  · cases h
theorem WS.View.non {v : V} (h : S.View B .non v) : v = .non := by
  rcases h with h | ⟨b, rfl, h⟩
  · cases h; rfl
  · cases h
theorem WS.View.scr {l : List Int} {v : V} (h : S.View B (.scr l) v) : ∃ a, v = .ref a ∧ SqL B.K S.H a (l.map V.int) := by
  rcases h with h | ⟨b, rfl, h⟩
  · cases h with
    | scr z e => exact ⟨_, rfl, same_sql (fun b o q => (WS.G_some q).2) e⟩
  · cases h
theorem WS.View.scrL {l : List Int} {v : V} (h : S.View B (.scr l) v) : l.length ≤ LIM := by
  rcases h with h | ⟨b, rfl, h⟩
  · cases h with
    | scr z e => exact z
  · cases h
end

/-! ### from a rule of HandS to a node -/
/-- what is shown of a compiled expression -/
structure SndE (B : Bs) (X : Cx) (W : WX) (e : Expr) (ir : IE) : Prop where
  pe : ∀ v, PE X e (tE B W v ir)
  pt : PT X e (tB (tE B W true ir))
structure SndA (B : Bs) (X : Cx) (W : WX) (es : List Expr) (ir : IE) : Prop where
  pa : ∀ v, PA X es (tA B W v ir)
theorem _root_.L2.PE.imp {X : Cx} {e : Expr} {t t' : TE} (h : PE X e t) (q : ∀ σ H Q, t' σ H Q → t σ H Q) : PE X e t' := ⟨fun pins s σ H Q I z => h.run pins s σ H Q I (q σ H Q z)⟩
theorem _root_.L2.PT.imp {X : Cx} {e : Expr} {t t' : TT} (h : PT X e t) (q : ∀ σ H Q, t' σ H Q → t σ H Q) : PT X e t' := ⟨fun pins s σ H Q I z => h.run pins s σ H Q I (q σ H Q z)⟩
theorem _root_.L2.PA.imp {X : Cx} {e : List Expr} {t t' : TA} (h : PA X e t) (q : ∀ σ H Q, t' σ H Q → t σ H Q) : PA X e t' := ⟨fun pos pins s σ H Q I z => h.run pos pins s σ H Q I (q σ H Q z)⟩
theorem _root_.L2.PE.or {X : Cx} {e : Expr} {t t' : TE} (h : PE X e t) (h' : PE X e t') : PE X e (fun σ H Q => t σ H Q ∨ t' σ H Q) := ⟨fun pins s σ H Q I z => z.elim (h.run pins s σ H Q I) (h'.run pins s σ H Q I)⟩
theorem _root_.L2.PT.or {X : Cx} {e : Expr} {t t' : TT} (h : PT X e t) (h' : PT X e t') : PT X e (fun σ H Q => t σ H Q ∨ t' σ H Q) := ⟨fun pins s σ H Q I z => z.elim (h.run pins s σ H Q I) (h'.run pins s σ H Q I)⟩
/-- an expression of which no test asks in its own way -/
def plainT : Expr → Bool
  | .UnaryOp .Not _ _ => false
  | .BoolOp _ _ _ => false
  | .IfExp _ _ _ _ => false
  | .Compare _ _ _ _ => false
  | _ => true
theorem isTrue_of {e : Expr} {env : Env} (h : plainT e = true) : ∀ whole, isTrue e env whole = (do let v ← whole; standAt e.pos; holding [v] (truthy v)) := by
  intro whole
  cases e with
  | UnaryOp op a p => cases op <;> first | rfl | cases h
  | BoolOp op a p => cases h
  | IfExp a b c p => cases h
  | Compare a b c p => cases h
  | _ => rfl
theorem SndE.plain {B : Bs} {X : Cx} {W : WX} {e : Expr} {ir : IE} (h : ∀ v, PE X e (tE B W v ir)) (hp : plainT e = true) : SndE B X W e ir := ⟨h, pt_val (h true) (isTrue_of hp)⟩
end Ab

set_option autoImplicit false
set_option maxHeartbeats 2000000
/-! AbC: the nodes of expressions, each sound. -/
namespace Ab
open PySem PySem.Spec PyProof.Rows L2

section
variable {B : Bs} {X : Cx} {W : WX}

/-- one operand -/
theorem tE_use {σ : L2.St} {S : WS} {env : En} {va : Bool} {ia : IE} {p p2 : Bool} {Q1 : VK} {α : Type} {β : Type} {rel : WS → α → β → Prop} {k : AV → AH → R α} {Q : β → Hp → Prop}
    (ok : S.Ok B) (er : ERep B S env σ) (out : Outs B S p rel (WE B W σ) ((ev va ia env S.ah).bind k) Q) (hp : p = true → pureI ia = true ∧ p2 = true)
    (hQ : ∀ (T : WS) d x, T.Ok B → S.le (pureI ia) T → ERep B T env σ → RV B va T d x → Outs B T p2 rel (WE B W σ) (k d T.ah) Q → Q1 x T.H) : tE B W va ia σ S.H Q1 :=
  ⟨S, env, rfl, ok, er, Outs.bind out hp fun T d x ok1 l1 h1 _ o1 => hQ T d x ok1 l1 (er.mono l1) h1 o1⟩
theorem tA_use {σ : L2.St} {S : WS} {env : En} {va : Bool} {ia : IE} {p p2 : Bool} {α : Type} {β : Type} {rel : WS → α → β → Prop} {k : AV → AH → R α} {Q : β → Hp → Prop} {Q1 : List V → Hp → Prop}
    (ok : S.Ok B) (er : ERep B S env σ) (out : Outs B S p rel (WE B W σ) ((ev va ia env S.ah).bind k) Q) (hp : p = true → pureI ia = true ∧ p2 = true)
    (hQ : ∀ (T : WS) d x, T.Ok B → S.le (pureI ia) T → ERep B T env σ → RL B va T d x → Outs B T p2 rel (WE B W σ) (k d T.ah) Q → Q1 x T.H) : tA B W va ia σ S.H Q1 :=
  ⟨S, env, rfl, ok, er, Outs.bind out hp fun T d x ok1 l1 h1 _ o1 => hQ T d x ok1 l1 (er.mono l1) h1 o1⟩
theorem tA_useE {σ : L2.St} {S : WS} {env : En} {va : Bool} {ia : IE} {p p2 : Bool} {α : Type} {β : Type} {rel : WS → α → β → Prop} {k : AV → AH → R α} {Q : β → Hp → Prop} {Q1 : List V → Hp → Prop}
    (ok : S.Ok B) (er : ERep B S env σ) (out : Outs B S p rel (WE B W σ) ((ev va ia env S.ah).bind k) Q) (hp : p = true → pureI ia = true ∧ p2 = true)
    (hQ : ∀ (T : WS) d x, T.Ok B → S.le (pureI ia) T → ERep B T env σ → RL B va T d x → ev va ia env S.ah = .ok d T.ah → Outs B T p2 rel (WE B W σ) (k d T.ah) Q → Q1 x T.H) : tA B W va ia σ S.H Q1 :=
  ⟨S, env, rfl, ok, er, Outs.bind out hp fun T d x ok1 l1 h1 e1 o1 => hQ T d x ok1 l1 (er.mono l1) h1 e1 o1⟩

theorem and2 {a b : Bool} (h : (a && b) = true) : a = true ∧ b = true := by simpa using h
theorem and3 {a b c : Bool} (h : (a && (b && c)) = true) : a = true ∧ b = true ∧ c = true := by simpa using h

/-! ### slots, constants -/
theorem vw_view {S : WS} (ok : S.Ok B) {d : AV} {x : V} (h : S.R B d x) : S.View B (vw S.ah d) x := by
  cases h with
  | @ref a n e =>
    show S.View B (match S.ah[n]? with | some (.box c) => c | _ => .ref n) (.ref a)
    cases q : S.ah[n]? with
    | none => exact .inl (.ref e)
    | some o =>
      cases o with
      | ins c fs => exact .inl (.ref e)
      | gone => exact .inl (.ref e)
      | box c =>
        obtain ⟨b, hb, hc⟩ := ok.objs n _ q
        have z := ok.inj a b n e hb
        subst z
        exact .inr ⟨a, rfl, hc⟩
  | non => exact .inl .non
  | bl b => exact .inl (.bl b)
  | int b => exact .inl (.int b)
  | str b h => exact .inl (.str b h)
  | tup e t => exact .inl (.tup e t)
  | lst e t => exact .inl (.lst e t)
  | dk e k t => exact .inl (.dk e k t)
  | dt e k t => exact .inl (.dt e k t)
  | scr z e => exact .inl (.scr z e)
/-- the end of a reading: the value as it is -/
theorem fin_rv {S : WS} {v : Bool} {d : AV} {x : V} {p : Bool} {E : Nat → Hp → Prop} {Q : VK} (ok : S.Ok B) (h : S.R B d x) (o : Outs B S p (RV B v) E (.ok d S.ah) Q) : Q x S.H :=
  o S ok rfl (.refl _ _) x (RV.of h)
theorem tup_rep {S : WS} {l : List AV} {x : V} (h : S.View B (.tup l) x) : S.R B (.tup l) x := by
  rcases h with h | ⟨b, rfl, h⟩
  · exact h
  · cases h
theorem fin_view {S : WS} {v : Bool} {l : List AV} {x : V} {p : Bool} {E : Nat → Hp → Prop} {Q : VK} (ok : S.Ok B) (h : S.View B (.tup l) x) (o : Outs B S p (RV B v) E (.ok (.tup l) S.ah) Q) : Q x S.H :=
  fin_rv ok (tup_rep h) o
theorem fin_fresh {S : WS} {v : Bool} {d : AV} {x : V} {p : Bool} {E : Nat → Hp → Prop} {Q : VK} (ok : S.Ok B) (h : S.R B d x) (o : Outs B S p (RV B v) E (fresh v d S.ah) Q) : Q x S.H := by
  refine o S ok rfl (.refl _ _) x ?_
  cases v with
  | true => exact vw_view ok h
  | false => exact h
theorem fin_new {S : WS} {v : Bool} {d : AV} {p : Bool} {E : Nat → Hp → Prop} {Q : VK} {a : Addr} {o : HO} (ok : S.Ok B) (ha : S.H a = none) (hl : ∀ xs, o = .lst xs → xs.length ≤ LIM) (ht : ∀ xs, o = .tup xs → xs.length ≤ LIM) (hf : ∀ ob u, o ≠ .frz ob u)
    (h : (S.put a o).R B d (.ref a)) (q : Outs B S p (RV B v) E (.ok d S.ah) Q) : Q (.ref a) (upd S.H a o) :=
  q (S.put a o) (put_ok ok ha hl ht hf) rfl (put_le ok ha _) (.ref a) (RV.of h)
theorem fin_tup {S : WS} {v : Bool} {l : List AV} {xs : List V} {p : Bool} {E : Nat → Hp → Prop} {Q : VK} {a : Addr} (ok : S.Ok B) (ha : S.H a = none) (hs : xs.length ≤ LIM) (h : S.Rs B l xs) (q : Outs B S p (RV B v) E (.ok (.tup l) S.ah) Q) : Q (.ref a) (upd S.H a (.tup xs)) := by
  refine fin_new ok ha (fun _ e => by cases e) (fun ys e => by cases e; exact hs) (fun _ _ e => by cases e) ?_ q
  exact .tup (put_at ok ha) ((put_le (o := .tup xs) ok ha true).repsI (fo_reps h))
theorem fin_lst {S : WS} {v : Bool} {l : List AV} {xs : List V} {p : Bool} {E : Nat → Hp → Prop} {Q : VK} {a : Addr} (ok : S.Ok B) (ha : S.H a = none) (hs : xs.length ≤ LIM) (h : S.Rs B l xs) (q : Outs B S p (RV B v) E (.ok (.lst l) S.ah) Q) : Q (.ref a) (upd S.H a (.lst xs)) := by
  refine fin_new ok ha (fun ys e => by cases e; exact hs) (fun _ e => by cases e) (fun _ _ e => by cases e) ?_ q
  exact .lst (put_at ok ha) ((put_le (o := .lst xs) ok ha true).repsI (fo_reps h))
theorem put_rs {S : WS} {l : List AV} {xs : List V} {a : Addr} {o : HO} (ok : S.Ok B) (ha : S.H a = none) (h : S.Rs B l xs) : (S.put a o).Rs B l xs := (put_le (o := o) ok ha true).reps h

theorem snd_slot {i : Nat} {x : Str} {pos : Pos} (hN : X.N[i]? = some x) (hv : Vis X.env.scope x) (hd : (x == ("__debug__" : Str)) = false) (hcd : (x == ("__classdict__" : Str)) = false) : SndE B X W (.Name x pos) (.slot i) := by
  refine .plain (fun v => (pe_var hN hv hd hcd).imp fun σ H Q h => ?_) rfl
  obtain ⟨S, env, rfl, ok, er, out⟩ := h
  have out : Outs B S true (RV B v) (WE B W σ) (slotV v env i S.ah) Q := out
  unfold slotV at out
  cases e : env[i]? with
  | none => rw [e] at out; exact out.elim
  | some o =>
    cases o with
    | none => rw [e] at out; exact out.elim
    | some fv =>
      obtain ⟨y, h1, h2⟩ := er.at_ i fv e
      refine ⟨y, h1, ?_⟩
      rw [e] at out
      cases fv with
      | gone => exact out.elim
      | exc _ => exact out.elim
      | val d => exact fin_fresh ok h2 out
      | own c =>
        cases v with
        | false => exact out.elim
        | true =>
          obtain ⟨b, rfl, hb, hc⟩ := h2
          exact out S ok rfl (.refl _ _) (.ref b) (.inr ⟨b, rfl, hc⟩)
theorem snd_con {e : Expr} {d : AV} {x : V} (h : PE X e (tC x)) (hr : ∀ S : WS, S.R B d x) (hp : plainT e = true) : SndE B X W e (.con d) := by
  refine .plain (fun v => h.imp fun σ H Q h => ?_) hp
  obtain ⟨S, env, rfl, ok, er, out⟩ := h
  exact fin_rv ok (hr S) out
theorem snd_int {i : Int} {j : Nat} {pos : Pos} : SndE B X W (.Constant (.int i) j pos) (.con (.int i)) := snd_con pe_int (fun _ => .int i) rfl
theorem snd_str {i : Str} {j : Nat} {pos : Pos} (h : PyData.strOk i = true) : SndE B X W (.Constant (.str i) j pos) (.con (.str i)) := snd_con pe_str (fun _ => .str i h) rfl
theorem snd_bl {i : Bool} {j : Nat} {pos : Pos} : SndE B X W (.Constant (.bool i) j pos) (.con (.bl i)) := snd_con pe_bl (fun _ => .bl i) rfl
theorem snd_non {j : Nat} {pos : Pos} : SndE B X W (.Constant .none j pos) (.con .non) := snd_con pe_non (fun _ => .non) rfl

/-! ### argument lists -/
def noStar : Expr → Bool
  | .Starred _ _ => false
  | _ => true
theorem starEach_of {e : Expr} {es : List Expr} {env : Env} (h : noStar e = true) : starEach (e :: es) env = (false, eval e env) :: starEach es env := by
  cases e <;> first | rfl | cases h
theorem sna_nil : SndA B X W [] .nil := by
  refine ⟨fun v => pa_nil.imp fun σ H Q h => ?_⟩
  obtain ⟨S, env, rfl, ok, er, out⟩ := h
  exact out S ok rfl (.refl _ _) [] ⟨[], rfl, .nil⟩
theorem sna_cons {e : Expr} {es : List Expr} {a r : IE} (ha : SndE B X W e a) (hr : SndA B X W es r) (hs : noStar e = true) : SndA B X W (e :: es) (.cons a r) := by
  refine ⟨fun v => (pa_cons (ha.pe (v && pureI r)) (hr.pa v) (starEach_of hs)).imp fun σ H Q h => ?_⟩
  obtain ⟨S, env, rfl, ok, er, out⟩ := h
  refine tE_use (p2 := pureI r) ok er out (fun z => and2 z) fun T d x ok1 l1 er1 h1 o1 => ?_
  refine tA_use (p2 := true) ok1 er1 o1 (fun z => ⟨z, rfl⟩) fun U ds xs ok2 l2 er2 h2 o2 => ?_
  obtain ⟨l, rfl, hl⟩ := h2
  refine o2 U ok2 rfl (.refl _ _) (x :: xs) ⟨d :: l, rfl, .cons ?_ hl⟩
  cases v with
  | false => exact l2.rep h1
  | true =>
    cases q : pureI r with
    | true => rw [q] at h1 l2; exact l2.view h1
    | false => rw [q] at h1; exact .inl (l2.rep h1)

/-! ### displays -/
theorem snd_tup {es : List Expr} {k : Nat} {pos : Pos} {r : IE} (h : SndA B X W es r) : SndE B X W (.Tuple es k pos) (.tup r) := by
  refine .plain (fun v => (pe_tup (h.pa false)).imp fun σ H Q h => ?_) rfl
  obtain ⟨S, env, rfl, ok, er, out⟩ := h
  refine tA_use (p2 := true) ok er out (fun z => ⟨z, rfl⟩) fun T ds xs ok1 l1 er1 h1 o1 => ?_
  obtain ⟨l, rfl, hl⟩ := h1
  have o1 : Outs B T true (RV B v) (WE B W σ) (if l.length ≤ LIM then .ok (.tup l) T.ah else .bad) Q := o1
  by_cases c : l.length ≤ LIM
  · rw [if_pos c] at o1
    have hx : xs.length ≤ LIM := by rw [← hl.len]; exact c
    exact ⟨by rw [← LIM_line]; exact hx, fun p hp => fin_tup ok1 hp hx hl o1⟩
  · rw [if_neg c] at o1; exact o1.elim
theorem snd_lst {es : List Expr} {pos : Pos} {r : IE} (h : SndA B X W es r) : SndE B X W (.List es pos) (.lst r) := by
  refine .plain (fun v => (pe_lst (h.pa false)).imp fun σ H Q h => ?_) rfl
  obtain ⟨S, env, rfl, ok, er, out⟩ := h
  refine tA_use (p2 := true) ok er out (fun z => ⟨z, rfl⟩) fun T ds xs ok1 l1 er1 h1 o1 => ?_
  obtain ⟨l, rfl, hl⟩ := h1
  have o1 : Outs B T true (RV B v) (WE B W σ) (if l.length ≤ LIM then .ok (.lst l) T.ah else .bad) Q := o1
  by_cases c : l.length ≤ LIM
  · rw [if_pos c] at o1
    have hx : xs.length ≤ LIM := by rw [← hl.len]; exact c
    exact ⟨by rw [← LIM_line]; exact hx, fun p hp => fin_lst ok1 hp hx hl o1⟩
  · rw [if_neg c] at o1; exact o1.elim

/-! ### two operands -/
theorem two {e : Expr} {ia ib ir : IE} {k : AV → AV → AH → R AV} {r : R2} {v : Bool} (hpe : PE X e (tOp r (tE B W (pureI ib) ia) (tE B W true ib)))
    (hev : ∀ env h, ev v ir env h = (ev (pureI ib) ia env h).bind fun x h1 => (ev true ib env h1).bind fun y h2 => k x y h2) (hpu : pureI ir = (pureI ia && pureI ib))
    (hk : ∀ (S : WS) x y xv yv (Q : VK) (E : Nat → Hp → Prop), S.Ok B → S.View B x xv → S.View B y yv → Outs B S true (RV B v) E (k x y S.ah) Q → r xv yv S.H Q) : ∀ σ H Q, tE B W v ir σ H Q → tOp r (tE B W (pureI ib) ia) (tE B W true ib) σ H Q := by
  intro σ H Q h
  obtain ⟨S, env, rfl, ok, er, out⟩ := h
  rw [hev, hpu] at out
  refine tE_use (p2 := pureI ib) ok er out (fun z => and2 z) fun T d x ok1 l1 er1 h1 o1 => ?_
  refine tE_use (p2 := true) ok1 er1 o1 (fun z => ⟨z, rfl⟩) fun U d2 y ok2 l2 er2 h2 o2 => ?_
  refine hk U d d2 x y Q _ ok2 ?_ h2 o2
  cases q : pureI ib with
  | true => rw [q] at h1 l2; exact l2.view h1
  | false => rw [q] at h1; exact .inl (l2.rep h1)

def rAddAll (K : PySem.W.Frag) : R2 := fun x y H Q => rI0 (fun i j => V.int (i + j)) x y H Q ∨ (∃ i j, x = .str i ∧ y = .str j ∧ i.length + j.length ≤ sizeLine ∧ Q (.str (i ++ j)) H) ∨ rCatA K x y H Q ∨ rCat x y H Q
theorem op_addAll : OpR X (binaryOp .Add) (rAddAll X.K) := op_add.or (op_add_str.or (op_catA.or op_cat))
theorem snd_add {a b : Expr} {ia ib : IE} {pos : Pos} (hK : X.K = B.K) (ha : SndE B X W a ia) (hb : SndE B X W b ib) : SndE B X W (.BinOp a .Add b pos) (.bin .add ia ib) := by
  have main : ∀ v, PE X (.BinOp a .Add b pos) (tE B W v (.bin .add ia ib)) := fun v => by
    have hpe := pe_op (pos := pos) (op_addAll (X := X)) (ha.pe (pureI ib)) (hb.pe true)
    refine hpe.imp (two (k := doBin .add) hpe (fun _ _ => rfl) rfl fun S x y xv yv Q E ok hx hy out => ?_)
    cases x <;> cases y <;> first | exact out.elim | skip
    · rename_i i j
      cases hx.int; cases hy.int
      exact .inl ⟨i, j, rfl, rfl, fin_rv ok (.int _) out⟩
    · rename_i i j
      obtain ⟨rfl, hi⟩ := hx.str
      obtain ⟨rfl, hj⟩ := hy.str
      have out : Outs B S true (RV B v) E (if i.length + j.length ≤ LIM then .ok (.str (i ++ j)) S.ah else .bad) Q := out
      by_cases c : i.length + j.length ≤ LIM
      · rw [if_pos c] at out
        exact .inr (.inl ⟨i, j, rfl, rfl, by rw [← LIM_line]; exact c, fin_rv ok (.str _ (strOk_app hi hj)) out⟩)
      · rw [if_neg c] at out; exact out.elim
    · rename_i i j
      obtain ⟨p, xs, rfl, h1, r1⟩ := hx.tup
      obtain ⟨q, ys, rfl, h2, r2⟩ := hy.tup
      have out : Outs B S true (RV B v) E (if i.length + j.length ≤ LIM then .ok (.tup (i ++ j)) S.ah else .bad) Q := out
      by_cases c : i.length + j.length ≤ LIM
      · rw [if_pos c] at out
        have cx : xs.length + ys.length ≤ LIM := by rw [← r1.len, ← r2.len]; exact c
        refine .inr (.inr (.inl ⟨p, q, xs, ys, rfl, rfl, SqT.of h1, SqT.of h2, by rw [← LIM_line]; exact cx, fun e => ?_, fun _ e => ?_, fun _ _ a ha => ?_⟩))
        · subst e
          cases r1
          exact fin_view ok hy out
        · subst e
          cases r2
          rw [List.append_nil] at out
          exact fin_view ok hx out
        · exact fin_tup ok ha (by rw [List.length_append]; exact cx) (r1.app r2) out
      · rw [if_neg c] at out; exact out.elim
    · rename_i i j
      obtain ⟨p, xs, rfl, h1, r1⟩ := hx.lst
      obtain ⟨q, ys, rfl, h2, r2⟩ := hy.lst
      have out : Outs B S true (RV B v) E (if i.length + j.length ≤ LIM then .ok (.lst (i ++ j)) S.ah else .bad) Q := out
      by_cases c : i.length + j.length ≤ LIM
      · rw [if_pos c] at out
        have cx : xs.length + ys.length ≤ LIM := by rw [← r1.len, ← r2.len]; exact c
        refine .inr (.inr (.inr ⟨p, q, xs, ys, rfl, rfl, h1, h2, by rw [← LIM_line]; exact cx, fun a ha => fin_lst ok ha (by rw [List.length_append]; exact cx) (r1.app r2) out⟩))
      · rw [if_neg c] at out; exact out.elim
  exact .plain main rfl

/-- two ints: an operation -/
theorem int2 {op : Operator} {o : Bin} {C : Int → Int → Prop} {g : Int → Int → Int} {a b : Expr} {ia ib : IE} {pos : Pos} (hop : OpR X (binaryOp op) (rI C fun i j => .int (g i j))) (ha : SndE B X W a ia) (hb : SndE B X W b ib)
    (hk : ∀ (S : WS) x y xv yv (Q : VK) (E : Nat → Hp → Prop) v, S.View B x xv → S.View B y yv → Outs B S true (RV B v) E (doBin o x y S.ah) Q → ∃ i j, x = .int i ∧ y = .int j ∧ C i j ∧ Outs B S true (RV B v) E (.ok (.int (g i j)) S.ah) Q) :
    SndE B X W (.BinOp a op b pos) (.bin o ia ib) := by
  have main : ∀ v, PE X (.BinOp a op b pos) (tE B W v (.bin o ia ib)) := fun v => by
    have hpe := pe_op (pos := pos) hop (ha.pe (pureI ib)) (hb.pe true)
    refine hpe.imp (two (k := doBin o) hpe (fun _ _ => rfl) rfl fun S x y xv yv Q E ok hx hy out => ?_)
    obtain ⟨i, j, rfl, rfl, hc, q⟩ := hk S x y xv yv Q E v hx hy out
    cases hx.int; cases hy.int
    exact ⟨i, j, rfl, rfl, hc, fin_rv ok (.int _) q⟩
  exact .plain main rfl
theorem rI0_rI {g : Int → Int → V} {f : Value → Value → PySem.Sem Value} (h : OpR X f (rI0 g)) : OpR X f (rI (fun _ _ => True) g) := fun pins s σ H x y v u Q I rx ry ⟨i, j, e1, e2, _, q⟩ => h pins s σ H x y v u Q I rx ry ⟨i, j, e1, e2, q⟩
theorem snd_sub {a b : Expr} {ia ib : IE} {pos : Pos} (ha : SndE B X W a ia) (hb : SndE B X W b ib) : SndE B X W (.BinOp a .Sub b pos) (.bin .sub ia ib) := by
  refine int2 (rI0_rI op_sub) ha hb fun S x y xv yv Q E v hx hy out => ?_
  cases x <;> cases y <;> first | exact out.elim | skip
  exact ⟨_, _, rfl, rfl, trivial, out⟩
theorem snd_fdv {a b : Expr} {ia ib : IE} {pos : Pos} (ha : SndE B X W a ia) (hb : SndE B X W b ib) : SndE B X W (.BinOp a .FloorDiv b pos) (.bin .fdv ia ib) := by
  refine int2 op_fdiv ha hb fun S x y xv yv Q E v hx hy out => ?_
  cases x <;> cases y <;> first | exact out.elim | skip
  rename_i i j
  have out : Outs B S true (RV B v) E (if 0 < j ∧ j < 1073741824 then .ok (.int (i / j)) S.ah else .bad) Q := out
  by_cases c : 0 < j ∧ j < 1073741824
  · rw [if_pos c] at out; exact ⟨_, _, rfl, rfl, c, out⟩
  · rw [if_neg c] at out; exact out.elim
theorem snd_mod {a b : Expr} {ia ib : IE} {pos : Pos} (ha : SndE B X W a ia) (hb : SndE B X W b ib) : SndE B X W (.BinOp a .Mod b pos) (.bin .mod ia ib) := by
  refine int2 op_mod ha hb fun S x y xv yv Q E v hx hy out => ?_
  cases x <;> cases y <;> first | exact out.elim | skip
  rename_i i j
  have out : Outs B S true (RV B v) E (if 0 < j then .ok (.int (i % j)) S.ah else .bad) Q := out
  by_cases c : 0 < j
  · rw [if_pos c] at out; exact ⟨_, _, rfl, rfl, c, out⟩
  · rw [if_neg c] at out; exact out.elim
theorem snd_neg {a : Expr} {ia : IE} {pos : Pos} (ha : SndE B X W a ia) : SndE B X W (.UnaryOp .USub a pos) (.neg ia) := by
  refine .plain (fun v => (pe_un un_neg (ha.pe false)).imp fun σ H Q h => ?_) rfl
  obtain ⟨S, env, rfl, ok, er, out⟩ := h
  refine tE_use (p2 := true) ok er out (fun z => ⟨z, rfl⟩) fun T d x ok1 l1 er1 h1 o1 => ?_
  cases d <;> first | exact o1.elim | skip
  cases h1
  exact ⟨_, rfl, fin_rv ok1 (.int _) o1⟩

/-! ### comparisons -/
theorem cmp_node {a b : Expr} {o : Cmp} {op : CmpOp} {r : R2} {ia ib : IE} {pos : Pos} (hop : OpR X (compareOp op) r) (hm : behindInMarks op b = false) (ha : SndE B X W a ia) (hb : SndE B X W b ib)
    (hk : ∀ (S : WS) x y xv yv (Q : VK) (E : Nat → Hp → Prop) v, S.Ok B → S.View B x xv → S.View B y yv → Outs B S true (RV B v) E (doCmp o x y S.ah) Q → r xv yv S.H Q) : SndE B X W (.Compare a [op] [b] pos) (.cmp o ia ib) := by
  have main : ∀ v, PE X (.Compare a [op] [b] pos) (tE B W v (.cmp o ia ib)) := fun v => by
    have hpe := pe_cmpR (pos := pos) hop (ha.pe (pureI ib)) (hb.pe true) hm
    exact hpe.imp (two (k := doCmp o) hpe (fun _ _ => rfl) rfl fun S x y xv yv Q E ok hx hy out => hk S x y xv yv Q E v ok hx hy out)
  refine ⟨main, ?_⟩
  have hpe := pe_cmpR (pos := pos) hop (ha.pe (pureI ib)) (hb.pe true) hm
  refine (pt_cmpR (pos := pos) hop (ha.pe (pureI ib)) (hb.pe true) hm).imp fun σ H Q h => ?_
  exact two (k := doCmp o) hpe (fun _ _ => rfl) rfl (fun S x y xv yv Q E ok hx hy out => hk S x y xv yv Q E true ok hx hy out) σ H _ h
theorem cmp_int {a b : Expr} {o : Cmp} {op : CmpOp} {g : Int → Int → Bool} {ia ib : IE} {pos : Pos} (hop : OpR X (compareOp op) (rI0 fun i j => .bl (g i j))) (hm : behindInMarks op b = false) (ha : SndE B X W a ia) (hb : SndE B X W b ib)
    (he : ∀ i j h, doCmp o (.int i) (.int j) h = .ok (.bl (g i j)) h) (hn : ∀ x y h, (∀ i j, ¬ (x = .int i ∧ y = .int j)) → doCmp o x y h = .bad) : SndE B X W (.Compare a [op] [b] pos) (.cmp o ia ib) := by
  refine cmp_node hop hm ha hb fun S x y xv yv Q E v ok hx hy out => ?_
  by_cases c : ∃ i j, x = .int i ∧ y = .int j
  · obtain ⟨i, j, rfl, rfl⟩ := c
    rw [he] at out
    cases hx.int; cases hy.int
    exact ⟨i, j, rfl, rfl, fin_rv ok (.bl _) out⟩
  · rw [hn x y _ fun i j z => c ⟨i, j, z⟩] at out
    exact out.elim
theorem nm_of {b : Expr} {op : CmpOp} (h : op ≠ .In) (h2 : op ≠ .NotIn) : behindInMarks op b = false := nobehind b h h2

theorem snd_lt {a b : Expr} {ia ib : IE} {pos : Pos} (ha : SndE B X W a ia) (hb : SndE B X W b ib) : SndE B X W (.Compare a [.Lt] [b] pos) (.cmp .lt ia ib) :=
  cmp_int op_lt (nm_of (by decide) (by decide)) ha hb (fun _ _ _ => rfl) fun x y h n => by cases x <;> cases y <;> first | rfl | exact absurd ⟨rfl, rfl⟩ (n _ _)
theorem snd_le {a b : Expr} {ia ib : IE} {pos : Pos} (ha : SndE B X W a ia) (hb : SndE B X W b ib) : SndE B X W (.Compare a [.LtE] [b] pos) (.cmp .le ia ib) :=
  cmp_int op_le (nm_of (by decide) (by decide)) ha hb (fun _ _ _ => rfl) fun x y h n => by cases x <;> cases y <;> first | rfl | exact absurd ⟨rfl, rfl⟩ (n _ _)
theorem snd_gt {a b : Expr} {ia ib : IE} {pos : Pos} (ha : SndE B X W a ia) (hb : SndE B X W b ib) : SndE B X W (.Compare a [.Gt] [b] pos) (.cmp .gt ia ib) :=
  cmp_int op_gt (nm_of (by decide) (by decide)) ha hb (fun _ _ _ => rfl) fun x y h n => by cases x <;> cases y <;> first | rfl | exact absurd ⟨rfl, rfl⟩ (n _ _)
theorem snd_ge {a b : Expr} {ia ib : IE} {pos : Pos} (ha : SndE B X W a ia) (hb : SndE B X W b ib) : SndE B X W (.Compare a [.GtE] [b] pos) (.cmp .ge ia ib) :=
  cmp_int op_ge (nm_of (by decide) (by decide)) ha hb (fun _ _ _ => rfl) fun x y h n => by cases x <;> cases y <;> first | rfl | exact absurd ⟨rfl, rfl⟩ (n _ _)
theorem non_iff {S : WS} {x : AV} {v : V} (h : S.View B x v) : decide (v = V.non) = (match x with | .non => true | _ => false) := by
  rcases h with h | ⟨b, rfl, h⟩
  · cases h <;> rfl
  · cases h <;> rfl
theorem snd_isn {a b : Expr} {ia ib : IE} {pos : Pos} (ha : SndE B X W a ia) (hb : SndE B X W b ib) : SndE B X W (.Compare a [.Is] [b] pos) (.cmp .isn ia ib) := by
  refine cmp_node op_isN (nm_of (by decide) (by decide)) ha hb fun S x y xv yv Q E v ok hx hy out => ?_
  cases y <;> first | exact out.elim | skip
  refine ⟨hy.non, ?_⟩
  rw [non_iff hx]
  cases x <;> exact fin_rv ok (.bl _) out
theorem snd_isnn {a b : Expr} {ia ib : IE} {pos : Pos} (ha : SndE B X W a ia) (hb : SndE B X W b ib) : SndE B X W (.Compare a [.IsNot] [b] pos) (.cmp .isnn ia ib) := by
  refine cmp_node op_notN (nm_of (by decide) (by decide)) ha hb fun S x y xv yv Q E v ok hx hy out => ?_
  cases y <;> first | exact out.elim | skip
  refine ⟨hy.non, ?_⟩
  rw [non_iff hx]
  cases x <;> exact fin_rv ok (.bl _) out

/-! data -/
theorem mapM_some {α β : Type} {f : α → Option β} : ∀ {l : List α} {m : List β}, l.mapM f = some m → Fo (fun a b => f a = some b) l m
  | [], m, h => by
    have h : some [] = some m := by simpa using h
    cases h; exact .nil
  | a :: l, m, h => by
    rw [List.mapM_cons] at h
    cases e : f a with
    | none => rw [e] at h; cases h
    | some b =>
      rw [e] at h
      cases q : l.mapM f with
      | none => rw [q] at h; cases h
      | some m' =>
        rw [q] at h
        have h : some (b :: m') = some m := h
        cases h
        exact .cons e (mapM_some q)
theorem pd_depth_all {n : Nat} : ∀ {ds : List PyData}, (∀ d ∈ ds, d.depth ≤ n) → PyData.depthAll ds ≤ n
  | [], _ => by simp [PyData.depthAll]
  | d :: ds, h => by
    rw [PyData.depthAll]
    have h1 := h d (List.mem_cons_self)
    have h2 := pd_depth_all fun e he => h e (List.mem_cons_of_mem _ he)
    omega

theorem dp_of {S : WS} : ∀ (n : Nat) {d : AV} {v : V} {x : PyData}, toPD n d = some x → S.View B d v → Dp B.K S.H v x ∧ x.depth ≤ n ∧ x.canLay0 = true := by
  intro n
  induction n with
  | zero =>
    intro d v x h hv
    cases d with
    | non => cases h; cases hv.non; exact ⟨.non, by simp [PyData.depth], rfl⟩
    | bl b => cases h; cases hv.bl; exact ⟨.bl b, by simp [PyData.depth], rfl⟩
    | int b => cases h; cases hv.int; exact ⟨.int b, by simp [PyData.depth], rfl⟩
    | str b => cases h; obtain ⟨rfl, q⟩ := hv.str; exact ⟨.str b, by simp [PyData.depth], q⟩
    | _ => cases h
  | succ n ih =>
    have each : ∀ {l : List AV} {m : List PyData}, Fo (fun a b => toPD n a = some b) l m → ∀ {xs : List V}, S.Rs B l xs → DpAll B.K S.H xs m ∧ (∀ d ∈ m, d.depth ≤ n) ∧ PyData.canLayAll0 m = true := by
      intro l m h
      induction h with
      | nil => intro xs hx; cases hx; exact ⟨.nil, fun _ z => (nomatch z), rfl⟩
      | cons e t iht =>
        intro xs hx
        cases hx with
        | cons r rs =>
          obtain ⟨h1, h2, h3⟩ := iht rs
          obtain ⟨k1, k2, k3⟩ := ih e (.inl r)
          refine ⟨.cons k1 h1, fun d hd => ?_, ?_⟩
          · rcases List.mem_cons.mp hd with z | z
            · rw [z]; exact k2
            · exact h2 d z
          · rw [PyData.canLayAll0, k3, h3]; rfl
    have atom : ∀ {y : PyData} {v : V}, Dp B.K S.H v y → y.depth = 0 → y.canLay0 = true → Dp B.K S.H v y ∧ y.depth ≤ n + 1 ∧ y.canLay0 = true := fun a b c => ⟨a, by omega, c⟩
    intro d v x h hv
    cases d with
    | non => cases h; cases hv.non; exact atom .non (by simp [PyData.depth]) rfl
    | bl b => cases h; cases hv.bl; exact atom (.bl b) (by simp [PyData.depth]) rfl
    | int b => cases h; cases hv.int; exact atom (.int b) (by simp [PyData.depth]) rfl
    | str b => cases h; obtain ⟨rfl, q⟩ := hv.str; exact atom (.str b) (by simp [PyData.depth]) q
    | scr l =>
      cases h
      obtain ⟨a, rfl, ha⟩ := hv.scr
      have h1 : ∀ l : List Int, DpAll B.K S.H (l.map V.int) (l.map PyData.int) := fun l => by
        induction l with
        | nil => exact .nil
        | cons i r ih => exact .cons (.int i) ih
      have h2 : ∀ l : List Int, PyData.depthAll (l.map PyData.int) = 0 := PySem.W.depth_ints
      have h3 : ∀ l : List Int, PyData.canLayAll0 (l.map PyData.int) = true := fun l => by
        induction l with
        | nil => rfl
        | cons i r ih => rw [List.map_cons, PyData.canLayAll0, ih]; rfl
      exact ⟨.lst ha (h1 l), by rw [PyData.depth, h2]; omega, by rw [PyData.canLay0]; exact h3 l⟩
    | tup l =>
      have h : (l.mapM (toPD n)).map PyData.tuple = some x := h
      cases q : l.mapM (toPD n) with
      | none => rw [q] at h; cases h
      | some m =>
        rw [q] at h
        cases h
        obtain ⟨a, xs, rfl, ha, hr⟩ := hv.tup
        obtain ⟨h1, h2, h3⟩ := each (mapM_some q) hr
        refine ⟨.tup (SqT.of ha) h1, ?_, by rw [PyData.canLay0]; exact h3⟩
        rw [PyData.depth]
        have := pd_depth_all h2
        omega
    | lst l =>
      have h : (l.mapM (toPD n)).map PyData.list = some x := h
      cases q : l.mapM (toPD n) with
      | none => rw [q] at h; cases h
      | some m =>
        rw [q] at h
        cases h
        obtain ⟨a, xs, rfl, ha, hr⟩ := hv.lst
        obtain ⟨h1, h2, h3⟩ := each (mapM_some q) hr
        refine ⟨.lst (SqL.of ha) h1, ?_, by rw [PyData.canLay0]; exact h3⟩
        rw [PyData.depth]
        have := pd_depth_all h2
        omega
    | dk _ _ => cases h
    | dt _ _ => cases h
    | ref _ => cases h

theorem shaped_of {d : PyData} {n : Nat} (h : d.depth ≤ n) (hn : n ≤ 64) (c : d.canLay0 = true) : SeqAt.shaped d = true := by
  unfold SeqAt.shaped
  rw [c, Bool.true_and]
  exact decide_eq_true (by omega)
theorem eqA_dp {S : WS} {x y : AV} {xv yv : V} {b : Bool} (h : eqA x y = some b) (hx : S.View B x xv) (hy : S.View B y yv) : ∃ d e, Dp B.K S.H xv d ∧ Dp B.K S.H yv e ∧ SeqAt.shaped d = true ∧ SeqAt.shaped e = true ∧ b = PyData.eqv d e := by
  unfold eqA at h
  cases e1 : toPD DEEP x with
  | none => rw [e1] at h; cases h
  | some d =>
    cases e2 : toPD DEEP y with
    | none => rw [e1, e2] at h; cases h
    | some e =>
      rw [e1, e2] at h
      cases h
      obtain ⟨a1, a2, a3⟩ := dp_of DEEP e1 hx
      obtain ⟨b1, b2, b3⟩ := dp_of DEEP e2 hy
      exact ⟨d, e, a1, b1, shaped_of a2 (by decide) a3, shaped_of b2 (by decide) b3, rfl⟩
theorem okO_map {α : Type} {o : Option α} {g : α → AV} {S : WS} {v : Bool} {p : Bool} {E : Nat → Hp → Prop} {Q : VK} (h : Outs B S p (RV B v) E (okO (o.map g) S.ah) Q) : ∃ a, o = some a ∧ Outs B S p (RV B v) E (.ok (g a) S.ah) Q := by
  cases o with
  | none => exact h.elim
  | some a => exact ⟨a, rfl, h⟩
/-- a list that is not empty and an empty one -/
def rNil (f : Bool) : R2 := fun x y H Q => ∃ a b z zs, x = .ref a ∧ y = .ref b ∧ H a = some (.lst (z :: zs)) ∧ H b = some (.lst []) ∧ Q (.bl f) H
theorem nil_szs {pins : List (Addr × Obj)} {σ : L2.St} {H : Hp} {s : Shared} {a b : Addr} {z : V} {zs : List V} (I : Inv X pins σ H s) (ha : H a = some (.lst (z :: zs))) (hb : H b = some (.lst [])) :
    ∃ i j : Array Value, s.heap.IsList a i ∧ s.heap.IsList b j ∧ (i.size != j.size) = true := by
  obtain ⟨i, r1, ⟨o, n, ho, hc, hd0, hd⟩, _⟩ := I.list (a := a) (xs := z :: zs) (.inl (.inl ha))
  obtain ⟨j, r2, ⟨o2, n2, ho2, hc2, hd02, hd2⟩, _⟩ := I.list (a := b) (xs := []) (.inl (.inl hb))
  refine ⟨i.toArray, j.toArray, ⟨o, ho, hc, n, hd⟩, ⟨o2, ho2, hc2, n2, hd2⟩, ?_⟩
  have e1 := r1.length
  have e2 := r2.length
  simp only [List.length_cons, List.length_nil] at e1 e2
  simp only [List.size_toArray, bne_iff_ne, ne_eq]
  omega
theorem op_eqNil (hu : X.A.units + 64 < cLine) : OpR X (compareOp .Eq) (rNil false) := by
  intro pins s σ H x y v u Q I rx ry h
  obtain ⟨a, b, z, zs, rfl, rfl, ha, hb, q⟩ := h
  cases rx
  cases ry
  obtain ⟨i, j, h1, h2, h3⟩ := nil_szs I ha hb
  exact SeqAt.eq_list_lengthsAt h1 h2 h3 (by omega) ⟨.bl false, H, I, rfl, q⟩
theorem op_neNil (hu : X.A.units + 64 < cLine) : OpR X (compareOp .NotEq) (rNil true) := by
  intro pins s σ H x y v u Q I rx ry h
  obtain ⟨a, b, z, zs, rfl, rfl, ha, hb, q⟩ := h
  cases rx
  cases ry
  obtain ⟨i, j, h1, h2, h3⟩ := nil_szs I ha hb
  exact SeqAt.RcNeAt.lists_lengths h1 h2 h3 (by omega) X.prog X.w _ _ ⟨.bl true, H, I, rfl, q⟩
theorem eqX_cases {x y : AV} {b : Bool} (h : eqX x y = some b) : eqA x y = some b ∨ (∃ z zs, x = .lst (z :: zs) ∧ y = .lst [] ∧ b = false) := by
  unfold eqX at h
  cases e : eqA x y with
  | some c => rw [e] at h; exact .inl h
  | none =>
    rw [e] at h
    have h : nilEq x y = some b := h
    unfold nilEq at h
    split at h
    · cases h; exact .inr ⟨_, _, rfl, rfl, rfl⟩
    · cases h
theorem nil_views {S : WS} {z : AV} {zs : List AV} {xv yv : V} (hx : S.View B (.lst (z :: zs)) xv) (hy : S.View B (.lst []) yv) : ∃ a b z zs, xv = .ref a ∧ yv = .ref b ∧ S.H a = some (.lst (z :: zs)) ∧ S.H b = some (.lst []) := by
  obtain ⟨a, xs, rfl, h1, h2⟩ := hx.lst
  obtain ⟨b, ys, rfl, h3, h4⟩ := hy.lst
  cases h2 with
  | cons p t =>
    cases h4
    exact ⟨a, b, _, _, rfl, rfl, h1, h3⟩
theorem snd_eq {k : Nat} {a b : Expr} {ia ib : IE} {pos : Pos} (hK : X.K = B.K) (hr : L2H.RoomH k X.A) (ha : SndE B X W a ia) (hb : SndE B X W b ib) : SndE B X W (.Compare a [.Eq] [b] pos) (.cmp .eq ia ib) := by
  have hu : X.A.units + 64 < cLine := by have := hr.un; omega
  refine cmp_node ((op_eqD hu).or (op_eqNil hu)) (nm_of (by decide) (by decide)) ha hb fun S x y xv yv Q E v ok hx hy out => ?_
  obtain ⟨c, e, out⟩ := okO_map out
  rcases eqX_cases e with e | ⟨z, zs, rfl, rfl, rfl⟩
  · obtain ⟨d1, d2, h1, h2, h3, h4, rfl⟩ := eqA_dp e hx hy
    rw [← hK] at h1 h2
    exact .inl ⟨d1, d2, h1, h2, h3, h4, fin_rv ok (.bl _) out⟩
  · obtain ⟨a, b, z, zs, r1, r2, r3, r4⟩ := nil_views hx hy
    exact .inr ⟨a, b, z, zs, r1, r2, r3, r4, fin_rv ok (.bl _) out⟩
theorem snd_ne {k : Nat} {a b : Expr} {ia ib : IE} {pos : Pos} (hK : X.K = B.K) (hr : L2H.RoomH k X.A) (ha : SndE B X W a ia) (hb : SndE B X W b ib) : SndE B X W (.Compare a [.NotEq] [b] pos) (.cmp .ne ia ib) := by
  have hu : X.A.units + 64 < cLine := by have := hr.un; omega
  refine cmp_node ((op_neD hu).or (op_neNil hu)) (nm_of (by decide) (by decide)) ha hb fun S x y xv yv Q E v ok hx hy out => ?_
  obtain ⟨c, e, out⟩ := okO_map out
  rcases eqX_cases e with e | ⟨z, zs, rfl, rfl, rfl⟩
  · obtain ⟨d1, d2, h1, h2, h3, h4, rfl⟩ := eqA_dp e hx hy
    rw [← hK] at h1 h2
    exact .inl ⟨d1, d2, h1, h2, h3, h4, fin_rv ok (.bl _) out⟩
  · obtain ⟨a, b, z, zs, r1, r2, r3, r4⟩ := nil_views hx hy
    exact .inr ⟨a, b, z, zs, r1, r2, r3, r4, fin_rv ok (.bl _) out⟩

/-! ### and, or, not, if -/
theorem bl_rv {S : WS} {k : Bool} {x : V} (h : S.View B (.bl k) x) : x = .bl k := h.bl
theorem snd_not {a : Expr} {ia : IE} {pos : Pos} (ha : SndE B X W a ia) : SndE B X W (.UnaryOp .Not a pos) (.not ia) := by
  have key : ∀ v σ (S : WS) env (Q : VK), S.Ok B → ERep B S env σ → Outs B S (pureI (.not ia)) (RV B v) (WE B W σ) (ev v (.not ia) env S.ah) Q → tE B W true ia σ S.H fun x H1 => ∃ c, x = .bl c ∧ Q (.bl (!c)) H1 := by
    intro v σ S env Q ok er out
    refine tE_use (p2 := true) ok er out (fun z => ⟨z, rfl⟩) fun T d x ok1 l1 er1 h1 o1 => ?_
    cases d <;> first | exact o1.elim | skip
    exact ⟨_, bl_rv h1, fin_rv ok1 (.bl _) o1⟩
  refine ⟨fun v => (pe_not (ha.pe true)).imp fun σ H Q h => ?_, (pt_not ha.pt).imp fun σ H Q h => ?_⟩
  · obtain ⟨S, env, rfl, ok, er, out⟩ := h
    exact key v σ S env Q ok er out
  · obtain ⟨S, env, rfl, ok, er, out⟩ := h
    obtain ⟨S', env', e, ok', er', out'⟩ := key true σ S env _ ok er out
    refine ⟨S', env', e, ok', er', out'.imp fun x H ⟨c, e, c', e', q⟩ => ⟨c, e, ?_⟩⟩
    cases e'; exact q
theorem weakO {S : WS} {p q : Bool} {α β : Type} {rel : WS → α → β → Prop} {E : Nat → Hp → Prop} {r : R α} {Q : β → Hp → Prop} (h : Outs B S p rel E r Q) (hpq : p = true → q = true) : Outs B S q rel E r Q := by
  cases r with
  | bad => exact h
  | exc c ah => exact h
  | ok d ah => exact fun T ok e l x hx => h T ok e (l.weak hpq) x hx
theorem pt_ifExp {c a b : Expr} {tc ta tb : TT} {pos : Pos} (hc : PT X c tc) (ha : PT X a ta) (hb : PT X b tb) : PT X (.IfExp c a b pos) (fun σ H Q => tc σ H fun k H1 => if k = true then ta σ H1 Q else tb σ H1 Q) := by
  refine ⟨fun pins s σ H Q I h => ?_⟩
  refine PyProof.Rows.isTrue_IfExp (thn (hc.run pins s σ H _ I h) fun d s1 ⟨H1, I1, q1⟩ => ?_)
  cases d with
  | true => exact ha.run pins s1 σ H1 Q I1 q1
  | false => exact hb.run pins s1 σ H1 Q I1 q1
theorem snd_ite {c a b : Expr} {ic ia ib : IE} {pos : Pos} (hc : SndE B X W c ic) (ha : SndE B X W a ia) (hb : SndE B X W b ib) : SndE B X W (.IfExp c a b pos) (.ite ic ia ib) := by
  have key : ∀ v σ (S : WS) env (Q : VK), S.Ok B → ERep B S env σ → Outs B S (pureI (.ite ic ia ib)) (RV B v) (WE B W σ) (ev v (.ite ic ia ib) env S.ah) Q →
      tE B W true ic σ S.H fun x H1 => ∃ k, x = .bl k ∧ if k = true then tE B W v ia σ H1 Q else tE B W v ib σ H1 Q := by
    intro v σ S env Q ok er out
    refine tE_use (p2 := pureI ia && pureI ib) ok er out (fun z => and2 z) fun T d x ok1 l1 er1 h1 o1 => ?_
    cases d <;> first | exact o1.elim | skip
    rename_i k
    refine ⟨k, bl_rv h1, ?_⟩
    cases k with
    | true => exact iteT ⟨T, env, rfl, ok1, er1, weakO (q := pureI ia) (r := ev v ia env T.ah) o1 fun z => (and2 z).1⟩
    | false => exact iteF ⟨T, env, rfl, ok1, er1, weakO (r := ev v ib env T.ah) o1 fun z => (and2 z).2⟩
  refine ⟨fun v => (pe_ifExp hc.pt (ha.pe v) (hb.pe v)).imp fun σ H Q h => ?_, (pt_ifExp hc.pt ha.pt hb.pt).imp fun σ H Q h => ?_⟩
  · obtain ⟨S, env, rfl, ok, er, out⟩ := h
    exact key v σ S env Q ok er out
  · obtain ⟨S, env, rfl, ok, er, out⟩ := h
    exact key true σ S env _ ok er out

/-- a row of and, or -/
structure SndO (B : Bs) (X : Cx) (W : WX) (op : BoolOp) (es : List Expr) (ir : IE) : Prop where
  pe : ∀ v pos, PE X (.BoolOp op es pos) (tE B W v ir)
  pw : ∀ pos, PW X (.BoolOp op es pos) (tB (tE B W true ir))
theorem _root_.L2.PW.imp {X : Cx} {e : Expr} {t t' : TT} (h : PW X e t) (q : ∀ σ H Q, t' σ H Q → t σ H Q) : PW X e t' := ⟨fun wh pins s σ H Q I z => h.run wh pins s σ H Q I (q σ H Q z)⟩
theorem sno_one {op : BoolOp} {a : Expr} {ia : IE} (ha : SndE B X W a ia) : SndO B X W op [a] ia :=
  ⟨fun v pos => pe_one (ha.pe v), fun pos => by cases op; exact pw_and1 ha.pt; exact pw_or1 ha.pt⟩
theorem sno_and {a b : Expr} {es : List Expr} {ia ib : IE} (ha : SndE B X W a ia) (hb : SndO B X W .And (b :: es) ib) : SndO B X W .And (a :: b :: es) (.and ia ib) := by
  have key : ∀ v σ (S : WS) env (Q : VK), S.Ok B → ERep B S env σ → Outs B S (pureI (.and ia ib)) (RV B v) (WE B W σ) (ev v (.and ia ib) env S.ah) Q →
      tE B W true ia σ S.H fun x H1 => ∃ k, x = .bl k ∧ if k = true then tE B W v ib σ H1 Q else Q (.bl false) H1 := by
    intro v σ S env Q ok er out
    refine tE_use (p2 := pureI ib) ok er out (fun z => and2 z) fun T d x ok1 l1 er1 h1 o1 => ?_
    cases d <;> first | exact o1.elim | skip
    rename_i k
    refine ⟨k, bl_rv h1, ?_⟩
    cases k with
    | true => exact iteT ⟨T, env, rfl, ok1, er1, o1⟩
    | false => exact iteF (fin_rv ok1 (.bl _) o1)
  refine ⟨fun v pos => (pe_and (ha.pe true) (hb.pe v pos)).imp fun σ H Q h => ?_, fun pos => (pw_and ha.pt (hb.pw pos)).imp fun σ H Q h => ?_⟩
  · obtain ⟨S, env, rfl, ok, er, out⟩ := h
    exact key v σ S env Q ok er out
  · obtain ⟨S, env, rfl, ok, er, out⟩ := h
    obtain ⟨S', env', e, ok', er', out'⟩ := key true σ S env _ ok er out
    refine ⟨S', env', e, ok', er', out'.imp fun x H ⟨k, e, q⟩ => ⟨k, e, ?_⟩⟩
    cases k with
    | true => exact q
    | false =>
      have q : ∃ c, V.bl false = .bl c ∧ Q c H := by simpa using q
      obtain ⟨c, e, q⟩ := q
      cases e
      exact iteF q
theorem sno_or {a b : Expr} {es : List Expr} {ia ib : IE} (ha : SndE B X W a ia) (hb : SndO B X W .Or (b :: es) ib) : SndO B X W .Or (a :: b :: es) (.or ia ib) := by
  have key : ∀ v σ (S : WS) env (Q : VK), S.Ok B → ERep B S env σ → Outs B S (pureI (.or ia ib)) (RV B v) (WE B W σ) (ev v (.or ia ib) env S.ah) Q →
      tE B W true ia σ S.H fun x H1 => ∃ k, x = .bl k ∧ if k = true then Q (.bl true) H1 else tE B W v ib σ H1 Q := by
    intro v σ S env Q ok er out
    refine tE_use (p2 := pureI ib) ok er out (fun z => and2 z) fun T d x ok1 l1 er1 h1 o1 => ?_
    cases d <;> first | exact o1.elim | skip
    rename_i k
    refine ⟨k, bl_rv h1, ?_⟩
    cases k with
    | true => exact iteT (fin_rv ok1 (.bl _) o1)
    | false => exact iteF ⟨T, env, rfl, ok1, er1, o1⟩
  refine ⟨fun v pos => (pe_or (ha.pe true) (hb.pe v pos)).imp fun σ H Q h => ?_, fun pos => (pw_or ha.pt (hb.pw pos)).imp fun σ H Q h => ?_⟩
  · obtain ⟨S, env, rfl, ok, er, out⟩ := h
    exact key v σ S env Q ok er out
  · obtain ⟨S, env, rfl, ok, er, out⟩ := h
    obtain ⟨S', env', e, ok', er', out'⟩ := key true σ S env _ ok er out
    refine ⟨S', env', e, ok', er', out'.imp fun x H ⟨k, e, q⟩ => ⟨k, e, ?_⟩⟩
    cases k with
    | false => exact q
    | true =>
      have q : ∃ c, V.bl true = .bl c ∧ Q c H := by simpa using q
      obtain ⟨c, e, q⟩ := q
      cases e
      exact iteT q
theorem snd_bool {op : BoolOp} {es : List Expr} {ir : IE} {pos : Pos} (h : SndO B X W op es ir) : SndE B X W (.BoolOp op es pos) ir := ⟨fun v => h.pe v pos, (h.pw pos).pt⟩

/-! ### a chain of two comparisons of ints -/
def CmpI (X : Cx) (o : Cmp) (op : CmpOp) : Prop := ∃ g : Int → Int → Bool, OpR X (compareOp op) (rI0 fun i j => .bl (g i j)) ∧ (∀ i j h, doCmp o (.int i) (.int j) h = .ok (.bl (g i j)) h) ∧ (∀ x y h, (∀ i j, ¬ (x = .int i ∧ y = .int j)) → doCmp o x y h = .bad)
theorem cmpI_lt : CmpI X .lt .Lt := ⟨_, op_lt, fun _ _ _ => rfl, fun x y h n => by cases x <;> cases y <;> first | rfl | exact absurd ⟨rfl, rfl⟩ (n _ _)⟩
theorem cmpI_le : CmpI X .le .LtE := ⟨_, op_le, fun _ _ _ => rfl, fun x y h n => by cases x <;> cases y <;> first | rfl | exact absurd ⟨rfl, rfl⟩ (n _ _)⟩
theorem snd_chain {a b c : Expr} {ia ib ic : IE} {o o' : Cmp} {op op' : CmpOp} {pos : Pos} (h1 : CmpI X o op) (h2 : CmpI X o' op') (hm : behindInMarks op' c = false) (hm0 : behindInMarks op b = false) (ha : SndE B X W a ia) (hb : SndE B X W b ib) (hc : SndE B X W c ic) : SndE B X W (.Compare a [op, op'] [b, c] pos) (.chain o o' ia ib ic) := by
  obtain ⟨g1, r1, e1, n1⟩ := h1
  obtain ⟨g2, r2, e2, n2⟩ := h2
  have key : ∀ v σ (S : WS) env (Q : VK), S.Ok B → ERep B S env σ → Outs B S (pureI (.chain o o' ia ib ic)) (RV B v) (WE B W σ) (ev v (.chain o o' ia ib ic) env S.ah) Q →
      tChain (rI0 fun i j => .bl (g1 i j)) (rI0 fun i j => .bl (g2 i j)) (tE B W false ia) (tE B W false ib) (tE B W false ic) σ S.H Q := by
    intro v σ S env Q ok er out
    refine tE_use (p2 := pureI ib && pureI ic) ok er out (fun z => and2 z) fun T d x ok1 l1 er1 k1 o1 => ?_
    refine tE_use (p2 := pureI ic) ok1 er1 o1 (fun z => and2 z) fun U d2 y ok2 l2 er2 k2 o2 => ?_
    by_cases q : ∃ i j, d = .int i ∧ d2 = .int j
    · obtain ⟨i, j, rfl, rfl⟩ := q
      cases k1; cases k2
      rw [e1] at o2
      refine ⟨i, j, rfl, rfl, _, rfl, ?_⟩
      cases z : g1 i j with
      | false =>
        rw [z] at o2
        exact iteF (fin_rv ok2 (.bl false) o2)
      | true =>
        rw [z] at o2
        refine iteT (tE_use (p2 := true) ok2 er2 o2 (fun z => ⟨z, rfl⟩) fun Y d3 u ok3 l3 er3 k3 o3 => ?_)
        by_cases q2 : ∃ l, d3 = .int l
        · obtain ⟨l, rfl⟩ := q2
          cases k3
          rw [e2] at o3
          exact ⟨j, l, rfl, rfl, fin_rv ok3 (.bl _) o3⟩
        · rw [n2 _ _ _ fun i' j' z => q2 ⟨j', z.2⟩] at o3
          exact o3.elim
    · rw [n1 _ _ _ fun i' j' z => q ⟨i', j', z⟩] at o2
      exact o2.elim
  have hl : lastMarks [op, op'] [b, c] = false := hm
  refine ⟨fun v => (pe_chain r1 r2 (ha.pe false) (hb.pe false) (hc.pe false) hl).imp fun σ H Q h => ?_, (pt_chain r1 r2 (ha.pe false) (hb.pe false) (hc.pe false) hl).imp fun σ H Q h => ?_⟩
  · obtain ⟨S, env, rfl, ok, er, out⟩ := h
    exact key v σ S env Q ok er out
  · obtain ⟨S, env, rfl, ok, er, out⟩ := h
    exact key true σ S env _ ok er out

/-! ### is it in -/
theorem inL_dp {S : WS} {x : AV} {l : List AV} {xv : V} {ys : List V} {b : Bool} (h : inL x l = some b) (hx : S.View B x xv) (hl : S.Rs B l ys) :
    ∃ d ds, Dp B.K S.H xv d ∧ DpAll B.K S.H ys ds ∧ SeqAt.shaped d = true ∧ SeqAt.shaped (.list ds) = true ∧ SeqAt.shaped (.tuple ds) = true ∧ b = ds.any fun z => PyData.eqv z d := by
  unfold inL at h
  cases e1 : toPD DEEP x with
  | none => rw [e1] at h; cases h
  | some d =>
    cases e2 : l.mapM (toPD DEEP) with
    | none => rw [e1, e2] at h; cases h
    | some ds =>
      rw [e1, e2] at h
      cases h
      obtain ⟨a1, a2, a3⟩ := dp_of DEEP e1 hx
      have each : ∀ {l : List AV} {m : List PyData}, Fo (fun a b => toPD DEEP a = some b) l m → ∀ {xs : List V}, S.Rs B l xs → DpAll B.K S.H xs m ∧ (∀ d ∈ m, d.depth ≤ DEEP) ∧ PyData.canLayAll0 m = true := by
        intro l m h
        induction h with
        | nil => intro xs hx; cases hx; exact ⟨.nil, fun _ z => (nomatch z), rfl⟩
        | cons e t iht =>
          intro xs hx
          cases hx with
          | cons r rs =>
            obtain ⟨h1, h2, h3⟩ := iht rs
            obtain ⟨k1, k2, k3⟩ := dp_of DEEP e (.inl r)
            refine ⟨.cons k1 h1, fun d hd => ?_, ?_⟩
            · rcases List.mem_cons.mp hd with z | z
              · rw [z]; exact k2
              · exact h2 d z
            · rw [PyData.canLayAll0, k3, h3]; rfl
      obtain ⟨h1, h2, h3⟩ := each (mapM_some e2) hl
      have dd := pd_depth_all h2
      refine ⟨d, ds, a1, h1, shaped_of a2 (by decide) a3, shaped_of (n := DEEP + 1) ?_ (by decide) (by rw [PyData.canLay0]; exact h3), shaped_of (n := DEEP + 1) ?_ (by decide) (by rw [PyData.canLay0]; exact h3), rfl⟩
      · rw [PyData.depth]; omega
      · rw [PyData.depth]; omega
def rInD' (K : PySem.W.Frag) (neg : Bool) : R2 := fun x y H Q => ∃ d ds, Dp K H x d ∧ (Dp K H y (.list ds) ∨ Dp K H y (.tuple ds)) ∧ SeqAt.shaped d = true ∧ SeqAt.shaped (.list ds) = true ∧ SeqAt.shaped (.tuple ds) = true ∧ Q (.bl (if neg then !ds.any fun z => PyData.eqv z d else ds.any fun z => PyData.eqv z d)) H
theorem op_inD' (hu : X.A.units + 65 < cLine) : OpR X (compareOp .In) (rInD' X.K false) := by
  intro pins s σ H x y v u Q I rx ry h
  obtain ⟨d, ds, hd, he, sd, se, st, q⟩ := h
  obtain ⟨as, r1⟩ := Dp.reads I d x v hd rx
  rcases he with he | he
  · obtain ⟨bs, r2⟩ := Dp.reads I (.list ds) y u he ry
    exact SeqAt.in_list_reads r2 r1 (SeqAt.canLay_of_shaped se) (SeqAt.canLay_of_shaped sd) (room_in_shaped sd hu) ⟨.bl _, H, I, rfl, q⟩
  · obtain ⟨bs, r2⟩ := Dp.reads I (.tuple ds) y u he ry
    exact SeqAt.in_tuple_reads r2 r1 (SeqAt.canLay_of_shaped st) (SeqAt.canLay_of_shaped sd) (room_in_shaped sd hu) ⟨.bl _, H, I, rfl, q⟩
theorem op_ninD' (hu : X.A.units + 65 < cLine) : OpR X (compareOp .NotIn) (rInD' X.K true) := by
  intro pins s σ H x y v u Q I rx ry h
  obtain ⟨d, ds, hd, he, sd, se, st, q⟩ := h
  obtain ⟨as, r1⟩ := Dp.reads I d x v hd rx
  rcases he with he | he
  · obtain ⟨bs, r2⟩ := Dp.reads I (.list ds) y u he ry
    exact SeqAt.notIn_list_reads r2 r1 (SeqAt.canLay_of_shaped se) (SeqAt.canLay_of_shaped sd) (room_in_shaped sd hu) ⟨.bl _, H, I, rfl, q⟩
  · obtain ⟨bs, r2⟩ := Dp.reads I (.tuple ds) y u he ry
    exact SeqAt.notIn_tuple_reads r2 r1 (SeqAt.canLay_of_shaped st) (SeqAt.canLay_of_shaped sd) (room_in_shaped sd hu) ⟨.bl _, H, I, rfl, q⟩

/-! dicts read -/
theorem key_v {S : WS} {d : AV} {k : Key} {v : V} (h : keyOf d = some k) (hv : S.View B d v) : v = kV k := by
  cases d <;> first | cases h | skip
  · exact hv.int
  · exact (hv.str).1
theorem keys_eq {S : WS} : ∀ {l : List AV} {k : List Key} {xs : List V}, Fo (fun a b => keyOf a = some b) l k → S.Rs B l xs → xs = k.map kV
  | _, _, _, .nil, .nil => rfl
  | _, _, _, .cons e t, .cons r rs => by rw [List.map_cons, keys_eq t rs, key_v e (.inl r)]
theorem keys_v {S : WS} {d : AV} {k : List Key} {v : V} (h : keysOf d = some k) (hv : S.View B d v) : ∃ a, v = .ref a ∧ S.H a = some (.tup (k.map kV)) := by
  cases d <;> first | cases h | skip
  rename_i l
  obtain ⟨a, xs, rfl, ha, hr⟩ := hv.tup
  have h : l.mapM keyOf = some k := h
  exact ⟨a, rfl, by rw [← keys_eq (mapM_some h) hr]; exact ha⟩
inductive OptR (r : AV → V → Prop) : Option AV → Option V → Prop where
  | none : OptR r .none .none
  | some {d : AV} {v : V} : r d v → OptR r (.some d) (.some v)
theorem look_val {κ : Type} [DecidableEq κ] {r : AV → V → Prop} (k : κ) : ∀ {kvs : List (κ × V)} {vs : List AV}, Fo r vs (kvs.map (·.2)) → OptR r (lookK (kvs.map (·.1)) vs k) (valV kvs k)
  | [], vs, h => by cases h; exact .none
  | (k', v') :: kvs, vs, h => by
    cases h with
    | cons p t =>
      rename_i d ds
      show OptR r (if k' = k then some d else lookK (kvs.map (·.1)) ds k) _
      by_cases e : k' = k
      · rw [if_pos e, valV_pos e]
        exact .some p
      · rw [if_neg e, valV_neg e]
        exact look_val k t
theorem rd_G {S : WS} {a : Addr} {u : HO} (h : Rd S.G a u) : Rd S.H a u := h.imp (fun e => (WS.G_some e).2) fun ⟨o, e⟩ => ⟨o, (WS.G_some e).2⟩
theorem dget_k {S : WS} {ks : List Key} {vs : List AV} {a : Addr} (h : S.View B (.dk ks vs) (.ref a)) (k : Key) : ∃ kvs, Rd S.H a (.dK kvs) ∧ kvs.map (·.1) = ks ∧ S.Rs B vs (kvs.map (·.2)) := by
  rcases h with h | ⟨b, e, h⟩
  · cases h with
    | dk e1 e2 r => exact ⟨_, rd_G e1, e2, reps_fo r⟩
  · cases e
    cases h with
    | dk e1 e2 r => exact ⟨_, .inl e1, e2, reps_fo r⟩
theorem dget_t {S : WS} {ks : List (List Key)} {vs : List AV} {a : Addr} (h : S.View B (.dt ks vs) (.ref a)) : ∃ kvs, Rd S.H a (.dT kvs) ∧ kvs.map (·.1) = ks ∧ S.Rs B vs (kvs.map (·.2)) := by
  rcases h with h | ⟨b, e, h⟩
  · cases h with
    | dt e1 e2 r => exact ⟨_, rd_G e1, e2, reps_fo r⟩
  · cases e
    cases h with
    | dt e1 e2 r => exact ⟨_, .inl e1, e2, reps_fo r⟩
theorem view_ref {S : WS} {d : AV} {v : V} (h : S.View B d v) (c : match d with | .dk _ _ => True | .dt _ _ => True | _ => False) : ∃ a, v = .ref a := by
  cases d <;> first | exact c.elim | skip
  · rcases h with h | ⟨b, rfl, h⟩
    · cases h; exact ⟨_, rfl⟩
    · exact ⟨b, rfl⟩
  · rcases h with h | ⟨b, rfl, h⟩
    · cases h; exact ⟨_, rfl⟩
    · exact ⟨b, rfl⟩
/-- what a dict says of a key: the abstract answer and the concrete one -/
theorem dget {S : WS} {c k : AV} {xv yv : V} {o : Option AV} (h : dGet c k = some o) (hc : S.View B c xv) (hk : S.View B k yv) : ∃ a ov, xv = .ref a ∧ DGet S.H a yv ov ∧ IsD S.H a ∧ OptR (S.R B) o ov := by
  cases c <;> first | cases h | skip
  · rename_i ks vs
    have h : (keyOf k).map (fun x => lookK ks vs x) = some o := h
    cases e : keyOf k with
    | none => rw [e] at h; cases h
    | some z =>
      rw [e] at h
      have h : lookK ks vs z = o := Option.some.inj h
      subst h
      obtain ⟨a, rfl⟩ := view_ref hc trivial
      obtain ⟨kvs, h1, rfl, h3⟩ := dget_k hc z
      have hy := key_v e hk
      subst hy
      exact ⟨a, valV kvs z, rfl, .inl ⟨_, _, h1, rfl, rfl⟩, .inl ⟨_, h1⟩, look_val z h3⟩
  · rename_i ks vs
    have h : (keysOf k).map (fun x => lookK ks vs x) = some o := h
    cases e : keysOf k with
    | none => rw [e] at h; cases h
    | some z =>
      rw [e] at h
      have h : lookK ks vs z = o := Option.some.inj h
      subst h
      obtain ⟨a, rfl⟩ := view_ref hc trivial
      obtain ⟨kvs, h1, rfl, h3⟩ := dget_t hc
      obtain ⟨b, rfl, hb⟩ := keys_v e hk
      exact ⟨a, valV kvs z, rfl, .inr ⟨_, _, _, h1, rfl, hb, rfl⟩, .inr ⟨_, h1⟩, look_val z h3⟩
theorem OptR.isSome {r : AV → V → Prop} {o : Option AV} {ov : Option V} (h : OptR r o ov) : o.isSome = ov.isSome := by cases h <;> rfl
def inD (c k : AV) : Option Bool := (dGet c k).map Option.isSome
def rDIn (neg : Bool) : R2 := fun y x H Q => ∃ a o, x = .ref a ∧ DGet H a y o ∧ Q (.bl (if neg then !o.isSome else o.isSome)) H
theorem op_dIn (hu : X.A.units + 1 < cLine) : OpR X (compareOp .In) (rDIn false) := by
  intro pins s σ H y x u v Q I ry rx h
  obtain ⟨a, o, rfl, g, q⟩ := h
  cases rx
  exact d_in hu I g ry fun s' I' => ⟨.bl o.isSome, H, I', rfl, q⟩
theorem op_dnIn (hu : X.A.units + 1 < cLine) : OpR X (compareOp .NotIn) (rDIn true) := by
  intro pins s σ H y x u v Q I ry rx h
  obtain ⟨a, o, rfl, g, q⟩ := h
  cases rx
  exact d_notIn hu I g ry fun s' I' => ⟨.bl (!o.isSome), H, I', rfl, q⟩
def rSgIn (neg : Bool) : R2 := fun x y H Q => ∃ (c : Nat) (z : Str), x = .str ⟨#[c]⟩ ∧ y = .str z ∧ Q (.bl (if neg then !decide (c ∈ z.cps.toList) else decide (c ∈ z.cps.toList))) H
theorem str_one {a : Str} {c : Nat} (h : a.cps.toList = [c]) : a = ⟨#[c]⟩ := Str.ext' (Array.toList_inj.mp h)
theorem inn_key {neg : Bool} {S : WS} {x y : AV} {xv yv : V} {Q : VK} {E : Nat → Hp → Prop} {v : Bool} (hK : X.K = B.K) (ok : S.Ok B) (hx : S.View B x xv) (hy : S.View B y yv) (out : Outs B S true (RV B v) E (doCmp (if neg then .nin else .inn) x y S.ah) Q) :
    rInD' X.K neg xv yv S.H Q ∨ rSgIn neg xv yv S.H Q ∨ rDIn neg xv yv S.H Q := by
  have lists : ∀ {l : List AV} {ys : List V} {b : Bool}, inL x l = some b → S.Rs B l ys → (∀ ds, DpAll B.K S.H ys ds → Dp B.K S.H yv (.list ds) ∨ Dp B.K S.H yv (.tuple ds)) → Outs B S true (RV B v) E (.ok (.bl (if neg then !b else b)) S.ah) Q → rInD' X.K neg xv yv S.H Q := by
    intro l ys b h hl hd q
    obtain ⟨d, ds, h1, h2, h3, h4, h5, rfl⟩ := inL_dp h hx hl
    have h6 := hd ds h2
    rw [← hK] at h1 h6
    exact ⟨d, ds, h1, h6, h3, h4, h5, fin_rv ok (.bl _) q⟩
  have dicts : ∀ {o : Option (Option AV)}, dGet y x = o → Outs B S true (RV B v) E (okO (o.map fun z => AV.bl (if neg then !z.isSome else z.isSome)) S.ah) Q → rDIn neg xv yv S.H Q := by
    intro o e q
    obtain ⟨z, rfl, q⟩ := okO_map q
    obtain ⟨a, ov, rfl, g, _, r⟩ := dget e hy hx
    exact ⟨a, ov, rfl, g, by rw [← r.isSome]; exact fin_rv ok (.bl _) q⟩
  have signs : ∀ {a z : Str}, x = .str a → y = .str z → Outs B S true (RV B v) E (match a.cps.toList with | [c] => .ok (.bl (if neg then !(decide (c ∈ z.cps.toList)) else decide (c ∈ z.cps.toList))) S.ah | _ => .bad) Q → rSgIn neg xv yv S.H Q := by
    intro a z e1 e2 q
    subst e1 e2
    obtain ⟨rfl, _⟩ := hx.str
    obtain ⟨rfl, _⟩ := hy.str
    split at q
    · rename_i c e
      exact ⟨c, z, by rw [str_one e], rfl, fin_rv ok (.bl _) q⟩
    · exact q.elim
  cases neg with
  | false =>
    cases y <;> first | exact out.elim | skip
    · cases x <;> first | exact out.elim | skip
      exact .inr (.inl (signs rfl rfl out))
    · obtain ⟨a, xs, rfl, ha, hr⟩ := hy.tup
      obtain ⟨b, e, q⟩ := okO_map out
      exact .inl (lists e hr (fun ds h => .inr (.tup (SqT.of ha) h)) q)
    · obtain ⟨a, xs, rfl, ha, hr⟩ := hy.lst
      obtain ⟨b, e, q⟩ := okO_map out
      exact .inl (lists e hr (fun ds h => .inl (.lst (SqL.of ha) h)) q)
    · rename_i ks vs
      refine .inr (.inr (dicts rfl ?_))
      show Outs B S true (RV B v) E (okO (((keyOf x).map fun z => lookK ks vs z).map fun z => AV.bl z.isSome) S.ah) Q
      rw [Option.map_map]
      exact out
    · rename_i ks vs
      refine .inr (.inr (dicts rfl ?_))
      show Outs B S true (RV B v) E (okO (((keysOf x).map fun z => lookK ks vs z).map fun z => AV.bl z.isSome) S.ah) Q
      rw [Option.map_map]
      exact out
  | true =>
    cases y <;> first | exact out.elim | skip
    · cases x <;> first | exact out.elim | skip
      exact .inr (.inl (signs rfl rfl out))
    · obtain ⟨a, xs, rfl, ha, hr⟩ := hy.tup
      obtain ⟨b, e, q⟩ := okO_map out
      exact .inl (lists e hr (fun ds h => .inr (.tup (SqT.of ha) h)) q)
    · obtain ⟨a, xs, rfl, ha, hr⟩ := hy.lst
      obtain ⟨b, e, q⟩ := okO_map out
      exact .inl (lists e hr (fun ds h => .inl (.lst (SqL.of ha) h)) q)
    · rename_i ks vs
      refine .inr (.inr (dicts rfl ?_))
      show Outs B S true (RV B v) E (okO (((keyOf x).map fun z => lookK ks vs z).map fun z => AV.bl !z.isSome) S.ah) Q
      rw [Option.map_map]
      exact out
    · rename_i ks vs
      refine .inr (.inr (dicts rfl ?_))
      show Outs B S true (RV B v) E (okO (((keysOf x).map fun z => lookK ks vs z).map fun z => AV.bl !z.isSome) S.ah) Q
      rw [Option.map_map]
      exact out
theorem snd_inn {k : Nat} {a b : Expr} {ia ib : IE} {pos : Pos} (hm : behindInMarks .In b = false) (hK : X.K = B.K) (hr : L2H.RoomH k X.A) (ha : SndE B X W a ia) (hb : SndE B X W b ib) : SndE B X W (.Compare a [.In] [b] pos) (.cmp .inn ia ib) := by
  have hu : X.A.units + 65 < cLine := by have := hr.un; omega
  have hg : OpR X (compareOp .In) (rSgIn false) := op_in_sign
  refine cmp_node ((op_inD' hu).or (hg.or (op_dIn (by omega)))) hm ha hb fun S x y xv yv Q E v ok hx hy out => ?_
  exact inn_key (neg := false) hK ok hx hy out
theorem snd_nin {k : Nat} {a b : Expr} {ia ib : IE} {pos : Pos} (hm : behindInMarks .NotIn b = false) (hK : X.K = B.K) (hr : L2H.RoomH k X.A) (ha : SndE B X W a ia) (hb : SndE B X W b ib) : SndE B X W (.Compare a [.NotIn] [b] pos) (.cmp .nin ia ib) := by
  have hu : X.A.units + 65 < cLine := by have := hr.un; omega
  have hg : OpR X (compareOp .NotIn) (rSgIn true) := op_notIn_sign
  refine cmp_node ((op_ninD' hu).or (hg.or (op_dnIn (by omega)))) hm ha hb fun S x y xv yv Q E v ok hx hy out => ?_
  exact inn_key (neg := true) hK ok hx hy out

/-! ### subscripts -/
def rIxD : R2 := fun x y H Q => ∃ a v, x = .ref a ∧ DGet H a y (some v) ∧ Q v H
theorem ix_dict (hu : X.A.units + 1 < cLine) : IxR X rIxD := by
  intro value slice pins s σ H x y v u Q I rx ry h hs
  obtain ⟨a, z, rfl, g, q⟩ := h
  cases rx
  exact tail_any (dict_typeIs I g) PySem.F.slot_dict_getitem.lookup (d_getItem hu I g ry fun w' s' I' r' => ⟨z, H, I', r', q⟩) hs
def noSlice : Expr → Bool
  | .Slice _ _ _ _ => false
  | _ => true
theorem plainIx_of {b : Expr} (h : noSlice b = true) : PlainIx b := by
  intro o i
  cases b <;> first | rfl | cases h
theorem okO_ok {o : Option AV} {S : WS} {v : Bool} {p : Bool} {E : Nat → Hp → Prop} {Q : VK} {k : AV → AH → R AV} (h : Outs B S p (RV B v) E ((okO o S.ah).bind k) Q) : ∃ a, o = some a ∧ Outs B S p (RV B v) E (k a S.ah) Q := by
  cases o with
  | none => exact h.elim
  | some a => exact ⟨a, rfl, h⟩
theorem atI_rep {S : WS} {l : List AV} {xs : List V} {k : Int} {d : AV} (h : S.Rs B l xs) (e : atI l k = some d) : ∃ v, atI xs k = some v ∧ S.R B d v := by
  unfold atI at *
  cases q : ixN l.length k with
  | none => rw [q] at e; cases e
  | some j =>
    rw [q] at e
    rw [← h.len, q]
    exact h.get e
theorem atI_map {α β : Type} (f : α → β) (l : List α) (k : Int) : atI (l.map f) k = (atI l k).map f := by
  unfold atI
  rw [List.length_map]
  cases ixN l.length k with
  | none => rfl
  | some j => simp
theorem strOk_sgn {s : Str} {k : Int} {c : Nat} (h : PyData.strOk s = true) (e : atI s.cps.toList k = some c) : PyData.strOk (sgn c) = true := by
  rw [strOk_iff] at *
  intro x hx
  have hx : x = c := by simpa [sgn] using hx
  subst hx
  unfold atI at e
  cases q : ixN s.cps.toList.length k with
  | none => rw [q] at e; cases e
  | some j => rw [q] at e; exact h _ (List.mem_of_getElem? e)
theorem snd_subs {k : Nat} {a i : Expr} {ia ii : IE} {pos : Pos} (hn : noSlice i = true) (hK : X.K = B.K) (hr : L2H.RoomH k X.A) (ha : SndE B X W a ia) (hi : SndE B X W i ii) : SndE B X W (.Subscript a i pos) (.sub ia ii) := by
  have hu : X.A.units + 1 < cLine := by have := hr.un; omega
  have hix : IxR X (fun x y H Q => rIx X.K x y H Q ∨ rIxD x y H Q) := ix_seq.or (ix_dict hu)
  have main : ∀ v, PE X (.Subscript a i pos) (tE B W v (.sub ia ii)) := fun v => by
    have hpe := pe_ix (pos := pos) hix (ha.pe (pureI ii)) (hi.pe false) (plainIx_of hn)
    refine hpe.imp fun σ H Q h => ?_
    obtain ⟨S, env, rfl, ok, er, out⟩ := h
    refine tE_use (p2 := pureI ii) ok er out (fun z => and2 z) fun T d x ok1 l1 er1 h1 o1 => ?_
    refine tE_use (p2 := true) ok1 er1 o1 (fun z => ⟨z, rfl⟩) fun U d2 y ok2 l2 er2 h2 o2 => ?_
    have hx : U.View B d x := by
      cases q : pureI ii with
      | true => rw [q] at h1 l2; exact l2.view h1
      | false => rw [q] at h1; exact .inl (l2.rep h1)
    have hy : U.R B d2 y := h2
    have dict : ∀ {o : Option AV}, dGet d d2 = some o → ∀ {z : AV}, o = some z → Outs B U true (RV B v) (WE B W σ) (fresh v z U.ah) Q → rIxD x y U.H Q := by
      intro o e z ez q
      subst ez
      obtain ⟨a, ov, rfl, g, _, r⟩ := dget e hx (.inl hy)
      cases r with
      | some rz => exact ⟨a, _, rfl, g, fin_fresh ok2 rz q⟩
    cases d <;> first | exact o2.elim | skip
    · -- a text
      cases d2 <;> first | exact o2.elim | skip
      rename_i s k
      obtain ⟨rfl, hs⟩ := hx.str
      cases hy
      have o2 : Outs B U true (RV B v) (WE B W σ) ((if s.length ≤ LIM then okO ((atI s.cps.toList k).map fun c => AV.str (sgn c)) U.ah else .bad).bind fun d h3 => fresh v d h3) Q := o2
      by_cases c : s.length ≤ LIM
      · rw [if_pos c] at o2
        obtain ⟨z, e, q⟩ := okO_ok o2
        cases e1 : atI s.cps.toList k with
        | none => rw [e1] at e; cases e
        | some c1 =>
          rw [e1] at e
          cases e
          exact .inl (.inr (.inr ⟨s, k, c1, rfl, rfl, by rw [← LIM_line]; exact c, e1, fin_fresh ok2 (.str _ (strOk_sgn hs e1)) q⟩))
      · rw [if_neg c] at o2; exact o2.elim
    · cases d2 <;> first | exact o2.elim | skip
      obtain ⟨p, xs, rfl, hp, hrs⟩ := hx.tup
      cases hy
      obtain ⟨z, e, q⟩ := okO_ok o2
      obtain ⟨w, e1, rw1⟩ := atI_rep hrs e
      exact .inl (.inr (.inl ⟨p, xs, _, w, rfl, rfl, SqT.of hp, e1, fin_fresh ok2 rw1 q⟩))
    · cases d2 <;> first | exact o2.elim | skip
      obtain ⟨p, xs, rfl, hp, hrs⟩ := hx.lst
      cases hy
      obtain ⟨z, e, q⟩ := okO_ok o2
      obtain ⟨w, e1, rw1⟩ := atI_rep hrs e
      exact .inl (.inl ⟨p, xs, _, w, rfl, rfl, SqL.of hp, e1, fin_fresh ok2 rw1 q⟩)
    · rename_i ks vs
      obtain ⟨z, e, q⟩ := okO_ok o2
      have e : ((keyOf d2).bind fun z => lookK ks vs z) = some z := e
      cases e1 : keyOf d2 with
      | none => rw [e1] at e; cases e
      | some kk =>
        rw [e1] at e
        exact .inr (dict (show (keyOf d2).map (fun x => lookK ks vs x) = some (lookK ks vs kk) by rw [e1]; rfl) e q)
    · rename_i ks vs
      obtain ⟨z, e, q⟩ := okO_ok o2
      have e : ((keysOf d2).bind fun z => lookK ks vs z) = some z := e
      cases e1 : keysOf d2 with
      | none => rw [e1] at e; cases e
      | some kk =>
        rw [e1] at e
        exact .inr (dict (show (keysOf d2).map (fun x => lookK ks vs x) = some (lookK ks vs kk) by rw [e1]; rfl) e q)
    · rename_i l
      cases d2 <;> first | exact o2.elim | skip
      obtain ⟨p, rfl, hp⟩ := hx.scr
      cases hy
      obtain ⟨z, e, q⟩ := okO_ok o2
      rename_i k
      cases e1 : atI l k with
      | none => rw [e1] at e; cases e
      | some w =>
        rw [e1] at e
        cases e
        rw [← hK] at hp
        exact .inl (.inl ⟨p, _, k, .int w, rfl, rfl, hp, by rw [atI_map, e1]; rfl, fin_fresh ok2 (.int _) q⟩)
  exact .plain main rfl

/-! ### slices -/
def tO (B : Bs) (W : WX) (ir : IE) : TO := fun σ H Q => ∃ (S : WS) (env : En), S.H = H ∧ S.Ok B ∧ ERep B S env σ ∧ Outs B S (pureI ir) (fun _ d o => partO d = some o) (WE B W σ) (ev false ir env S.ah) Q
def SndP (B : Bs) (X : Cx) (W : WX) (e : Option Expr) (ir : IE) : Prop := PO X e (tO B W ir)
theorem _root_.L2.PO.imp {X : Cx} {e : Option Expr} {t t' : TO} (h : PO X e t) (q : ∀ σ H Q, t' σ H Q → t σ H Q) : PO X e t' := ⟨fun pins s σ H Q I z => h.run pins s σ H Q I (q σ H Q z)⟩
theorem snp_none : SndP B X W none (.con .non) := by
  refine po_none.imp fun σ H Q h => ?_
  obtain ⟨S, env, rfl, ok, er, out⟩ := h
  exact out S ok rfl (.refl _ _) none rfl
theorem snp_some {e : Expr} {ir : IE} (h : SndE B X W e ir) : SndP B X W (some e) (.bnd ir) := by
  refine (po_some (h.pe false)).imp fun σ H Q h => ?_
  obtain ⟨S, env, rfl, ok, er, out⟩ := h
  refine tE_use (p2 := true) ok er out (fun z => ⟨z, rfl⟩) fun T d x ok1 l1 er1 h1 o1 => ?_
  cases d <;> first | exact o1.elim | skip
  cases h1
  exact ⟨_, rfl, o1 T ok1 rfl (.refl _ _) _ rfl⟩
theorem tO_use {σ : L2.St} {S : WS} {env : En} {ia : IE} {p p2 : Bool} {α : Type} {β : Type} {rel : WS → α → β → Prop} {k : AV → AH → R α} {Q : β → Hp → Prop} {Q1 : Option Int → Hp → Prop}
    (ok : S.Ok B) (er : ERep B S env σ) (out : Outs B S p rel (WE B W σ) ((ev false ia env S.ah).bind k) Q) (hp : p = true → pureI ia = true ∧ p2 = true)
    (hQ : ∀ (T : WS) d x, T.Ok B → S.le (pureI ia) T → ERep B T env σ → partO d = some x → Outs B T p2 rel (WE B W σ) (k d T.ah) Q → Q1 x T.H) : tO B W ia σ S.H Q1 :=
  ⟨S, env, rfl, ok, er, Outs.bind out hp fun T d x ok1 l1 h1 _ o1 => hQ T d x ok1 l1 (er.mono l1) h1 o1⟩
theorem cut_fo {α β : Type} {r : α → β → Prop} {l : List α} {m : List β} (h : Fo r l m) (lo hi : Option Int) : Fo r (cutA l lo hi) (cutA m lo hi) := by
  unfold cutA
  rw [h.len]
  exact (h.drop _).take _
theorem cut_whole {α : Type} {l : List α} {lo hi : Option Int} (h1 : HT.sIx l.length 0 lo = 0) (h2 : HT.sIx l.length l.length hi = l.length) : cutA l lo hi = l := by
  unfold cutA
  rw [h1, h2, List.drop_zero, Nat.sub_zero, List.take_length]
theorem cut_len {α : Type} (l : List α) (lo hi : Option Int) : (cutA l lo hi).length ≤ l.length := by
  unfold cutA
  rw [List.length_take, List.length_drop]
  omega
theorem strOk_sub {s t : Str} (h : PyData.strOk s = true) (q : ∀ x ∈ t.cps.toList, x ∈ s.cps.toList) : PyData.strOk t = true := by
  rw [strOk_iff] at *
  exact fun x hx => h x (q x hx)
theorem cut_mem {α : Type} {l : List α} {lo hi : Option Int} (x : α) (h : x ∈ cutA l lo hi) : x ∈ l := List.mem_of_mem_drop (List.mem_of_mem_take h)
theorem snd_sli {a : Expr} {lo hi : Option Expr} {ia il ih : IE} {p2 pos : Pos} (hK : X.K = B.K) (ha : SndE B X W a ia) (hl : SndP B X W lo il) (hh : SndP B X W hi ih) : SndE B X W (.Subscript a (.Slice lo hi none p2) pos) (.sli ia il ih) := by
  have hs : SlR X (fun x lo hi H Q => rSlA X.K x lo hi H Q ∨ rSlL X.K x lo hi H Q ∨ (∃ z, x = .str z ∧ z.length ≤ sizeLine ∧ Q (.str (cutS z lo hi)) H)) := sl_tupA.or (sl_list.or sl_str)
  have main : ∀ v, PE X (.Subscript a (.Slice lo hi none p2) pos) (tE B W v (.sli ia il ih)) := fun v => by
    refine (pe_slice (p2 := p2) (pos := pos) hs (ha.pe (pureI il && pureI ih)) hl hh).imp fun σ H Q h => ?_
    obtain ⟨S, env, rfl, ok, er, out⟩ := h
    refine tE_use (p2 := pureI il && pureI ih) ok er out (fun z => and2 z) fun T d x ok1 l1 er1 h1 o1 => ?_
    refine tO_use (p2 := pureI ih) ok1 er1 o1 (fun z => and2 z) fun U d2 y ok2 l2 er2 h2 o2 => ?_
    refine tO_use (p2 := true) ok2 er2 o2 (fun z => ⟨z, rfl⟩) fun Y d3 z ok3 l3 er3 h3 o3 => ?_
    have hx : Y.View B d x := by
      cases q : (pureI il && pureI ih) with
      | true =>
        rw [q] at h1
        obtain ⟨q1, q2⟩ := and2 q
        rw [q1] at l2
        rw [q2] at l3
        exact l3.view (l2.view h1)
      | false => rw [q] at h1; exact .inl (l3.rep (l2.rep h1))
    have e : doSli d d2 d3 Y.ah = sliA d y z Y.ah := by unfold doSli; rw [h2, h3]
    rw [e] at o3
    cases d with
    | str s =>
      obtain ⟨rfl, hs⟩ := hx.str
      have o3 : Outs B Y true (RV B v) (WE B W σ) (if s.length ≤ LIM then .ok (.str ⟨(cutA s.cps.toList y z).toArray⟩) Y.ah else .bad) Q := o3
      by_cases c : s.length ≤ LIM
      · rw [if_pos c] at o3
        exact .inr (.inr ⟨s, rfl, by rw [← LIM_line]; exact c, fin_rv ok3 (.str _ (strOk_sub hs fun x hx => cut_mem x hx)) o3⟩)
      · rw [if_neg c] at o3; exact o3.elim
    | tup l =>
      have hx' := tup_rep hx
      obtain ⟨p, xs, rfl, hp, hrs⟩ := hx.tup
      refine .inl ⟨p, xs, rfl, SqT.of hp, fun ⟨e1, e2⟩ => ?_, fun _ q hq => ?_⟩
      · rw [← hrs.len] at e1 e2
        have o3 : Outs B Y true (RV B v) (WE B W σ) (.ok (.tup (cutA l y z)) Y.ah) Q := o3
        rw [cut_whole e1 e2] at o3
        exact fin_rv ok3 hx' o3
      · exact fin_tup ok3 hq (Nat.le_trans (cut_len xs y z) (ok3.szt p xs hp)) (cut_fo hrs y z) o3
    | lst l =>
      obtain ⟨p, xs, rfl, hp, hrs⟩ := hx.lst
      exact .inr (.inl ⟨p, xs, rfl, SqL.of hp, fun q hq => fin_lst ok3 hq (Nat.le_trans (cut_len xs y z) (ok3.szl p xs hp)) (cut_fo hrs y z) o3⟩)
    | _ => exact o3.elim
  exact .plain main rfl
/-- xs[::-1] -/
theorem snd_rvs {a : Expr} {ia : IE} {j : Nat} {p1 p2 p3 pos : Pos} (hK : X.K = B.K) (ha : SndE B X W a ia) : SndE B X W (.Subscript a (.Slice none none (some (.UnaryOp .USub (.Constant (.int 1) j p1) p2)) p3) pos) (.rvs ia) := by
  refine .plain (fun v => (pe_revL (k := j) (p1 := p1) (p2 := p2) (p3 := p3) (pos := pos) (ha.pe true)).imp fun σ H Q h => ?_) rfl
  obtain ⟨S, env, rfl, ok, er, out⟩ := h
  refine tE_use (p2 := true) ok er out (fun z => ⟨z, rfl⟩) fun T d x ok1 l1 er1 h1 o1 => ?_
  cases d <;> first | exact o1.elim | skip
  obtain ⟨p, xs, rfl, hp, hrs⟩ := WS.View.lst h1
  exact ⟨p, xs, rfl, SqL.of hp, fun q hq => fin_lst ok1 hq (by rw [List.length_reverse]; exact ok1.szl p xs hp) hrs.rev o1⟩
end
end Ab

set_option autoImplicit false
set_option maxHeartbeats 2000000
/-! AbD: calls of built-ins, of defs; comprehensions. -/
namespace Ab
open PySem PySem.Spec PyProof.Rows L2

section
variable {B : Bs} {X : Cx} {W : WX}
theorem plainArgs {es : List Expr} {env : Env} {pos : Pos} (h : es.all noStar = true) : (backTo pos (starEach es env)).any (·.1) = false := by
  induction es with
  | nil => rfl
  | cons e es ih =>
    rw [List.all_cons, Bool.and_eq_true] at h
    rw [starEach_of h.1]
    show (false || (backTo pos (starEach es env)).any (·.1)) = false
    rw [ih h.2]; rfl
/-- a built-in by its name -/
theorem bi_node {x : Str} {id : String} {b : Bi} {r : List V → Hp → VK → Prop} {e : Expr} {es : List Expr} {ia : IE} {p pos : Pos} (hc : CallR X (.builtin id) r) (hg : Gl X x) (hm : X.mg x = none) (hv : bootBuiltins x = some (.builtin id)) (hn : x ≠ "__name__") (hdb : (x == ("__debug__" : Str)) = false)
    (ha : SndA B X W (e :: es) ia) (hs : (e :: es).all noStar = true)
    (hk : ∀ (S : WS) l xs (Q : VK) (E : Nat → Hp → Prop) v, S.Ok B → Fo (S.View B) l xs → Outs B S true (RV B v) E (doBi b l S.ah) Q → r xs S.H Q) : SndE B X W (.Call (.Name x p) (e :: es) [] pos) (.bi b ia) := by
  have hs' : noStar e = true ∧ es.all noStar = true := by rw [List.all_cons, Bool.and_eq_true] at hs; exact hs
  refine .plain (fun v => (pe_callB hc hg hm hv (ha.pa true) hn hdb (starEach_of hs'.1) (plainArgs hs'.2)).imp fun σ H Q h => ?_) rfl
  obtain ⟨S, env, rfl, ok, er, out⟩ := h
  refine tA_use (p2 := true) ok er out (fun z => ⟨z, rfl⟩) fun T ds xs ok1 l1 er1 h1 o1 => ?_
  obtain ⟨l, rfl, hl⟩ := h1
  exact hk T l xs Q _ v ok1 hl o1
theorem bt_node {x : Str} {id : String} {b : Bi} {r : List V → Hp → VK → Prop} {e : Expr} {es : List Expr} {ia : IE} {p pos : Pos} (hc : CallR X (.type id) r) (hg : Gl X x) (hm : X.mg x = none) (hv : bootBuiltins x = some (.type id)) (hn : x ≠ "__name__") (hdb : (x == ("__debug__" : Str)) = false)
    (ha : SndA B X W (e :: es) ia) (hs : (e :: es).all noStar = true)
    (hk : ∀ (S : WS) l xs (Q : VK) (E : Nat → Hp → Prop) v, S.Ok B → Fo (S.View B) l xs → Outs B S true (RV B v) E (doBi b l S.ah) Q → r xs S.H Q) : SndE B X W (.Call (.Name x p) (e :: es) [] pos) (.bi b ia) := by
  have hs' : noStar e = true ∧ es.all noStar = true := by rw [List.all_cons, Bool.and_eq_true] at hs; exact hs
  refine .plain (fun v => (pe_callTy hc hg hm hv (ha.pa true) hn hdb (starEach_of hs'.1) (plainArgs hs'.2)).imp fun σ H Q h => ?_) rfl
  obtain ⟨S, env, rfl, ok, er, out⟩ := h
  refine tA_use (p2 := true) ok er out (fun z => ⟨z, rfl⟩) fun T ds xs ok1 l1 er1 h1 o1 => ?_
  obtain ⟨l, rfl, hl⟩ := h1
  exact hk T l xs Q _ v ok1 hl o1

theorem fo1 {α β : Type} {r : α → β → Prop} {a : α} {m : List β} (h : Fo r [a] m) : ∃ b, m = [b] ∧ r a b := by
  cases h with
  | cons p t => cases t; exact ⟨_, rfl, p⟩
theorem fo2 {α β : Type} {r : α → β → Prop} {a a' : α} {m : List β} (h : Fo r [a, a'] m) : ∃ b b', m = [b, b'] ∧ r a b ∧ r a' b' := by
  cases h with
  | cons p t =>
    obtain ⟨b', rfl, q⟩ := fo1 t
    exact ⟨_, _, rfl, p, q⟩
/-- a list, a tuple, the script, as HandS reads them -/
theorem seq_of {S : WS} {d : AV} {l : List AV} {v : V} (h : seqA d = some l) (hv : S.View B d v) : ∃ p xs, v = .ref p ∧ (SqL B.K S.H p xs ∨ SqT B.K S.H p xs) ∧ S.Rs B l xs := by
  cases d <;> first | cases h | skip
  · obtain ⟨a, xs, rfl, ha, hr⟩ := hv.tup
    exact ⟨a, xs, rfl, .inr (SqT.of ha), hr⟩
  · obtain ⟨a, xs, rfl, ha, hr⟩ := hv.lst
    exact ⟨a, xs, rfl, .inl (SqL.of ha), hr⟩
  · rename_i l
    obtain ⟨a, rfl, ha⟩ := hv.scr
    refine ⟨a, _, rfl, .inl ha, ?_⟩
    have : ∀ l : List Int, S.Rs B (scrL l) (l.map V.int) := fun l => by
      induction l with
      | nil => exact .nil
      | cons i r ih => exact .cons (.int i) ih
    exact this l
theorem seq_sz {S : WS} (ok : S.Ok B) {d : AV} {l : List AV} {v : V} (h : seqA d = some l) (hv : S.View B d v) : l.length ≤ LIM := by
  cases d <;> first | cases h | skip
  · obtain ⟨a, xs, rfl, ha, hr⟩ := hv.tup
    rw [hr.len]; exact ok.szt a xs ha
  · obtain ⟨a, xs, rfl, ha, hr⟩ := hv.lst
    rw [hr.len]; exact ok.szl a xs ha
  · rename_i l
    have := hv.scrL
    simpa [scrL] using this
theorem snd_len {x : Str} {e : Expr} {ia : IE} {p pos : Pos} (hx : x = "len") (hK : X.K = B.K) (hg : Gl X x) (hm : X.mg x = none) (ha : SndA B X W [e] ia) (hs : [e].all noStar = true) : SndE B X W (.Call (.Name x p) [e] [] pos) (.bi .len ia) := by
  subst hx
  refine bi_node (call_len) hg hm PySem.boot_len (by decide) (by decide) ha hs fun S l xs Q E v ok hl out => ?_
  cases l with
  | nil => exact out.elim
  | cons d l =>
    cases l with
    | cons _ _ => exact out.elim
    | nil =>
      obtain ⟨y, rfl, hy⟩ := fo1 hl
      obtain ⟨n, e, q⟩ := okO_map (o := lenA d) (g := fun (n : Nat) => AV.int (n : Int)) out
      have fin : Q (.int (n : Int)) S.H := fin_rv ok (.int _) q
      cases d <;> first | cases e | skip
      · rename_i s
        obtain ⟨rfl, _⟩ := hy.str
        have e : (if s.length ≤ LIM then some s.length else none) = some n := e
        by_cases c : s.length ≤ LIM
        · rw [if_pos c] at e
          cases e
          exact ⟨_, _, rfl, ⟨by rw [← LIM_line]; exact c, rfl⟩, fin⟩
        · rw [if_neg c] at e; cases e
      · obtain ⟨a, xs, rfl, h1, hr⟩ := hy.tup
        exact ⟨_, _, rfl, .inr ⟨xs, SqT.of h1, by rw [hr.len]⟩, fin⟩
      · obtain ⟨a, xs, rfl, h1, hr⟩ := hy.lst
        exact ⟨_, _, rfl, .inl ⟨xs, SqL.of h1, by rw [hr.len]⟩, fin⟩
      · obtain ⟨a, rfl, h1⟩ := hy.scr
        rw [← hK] at h1
        exact ⟨_, _, rfl, .inl ⟨_, h1, by rw [List.length_map]⟩, fin⟩

theorem l1 {l : List AV} {xs : List V} {r : AV → V → Prop} (h : Fo r l xs) {P : Prop} (h0 : l = [] → P) (h1 : ∀ d y, l = [d] → xs = [y] → r d y → P) (h2 : ∀ d d' r, l = d :: d' :: r → P) : P := by
  cases h with
  | nil => exact h0 rfl
  | cons p t =>
    cases t with
    | nil => exact h1 _ _ rfl rfl p
    | cons q u => exact h2 _ _ _ rfl
theorem snd_abs {x : Str} {e : Expr} {ia : IE} {p pos : Pos} (hx : x = "abs") (hg : Gl X x) (hm : X.mg x = none) (ha : SndA B X W [e] ia) (hs : [e].all noStar = true) : SndE B X W (.Call (.Name x p) [e] [] pos) (.bi .abs ia) := by
  subst hx
  refine bi_node (call_abs) hg hm PyProof.Rows.boot_abs (by decide) (by decide) ha hs fun S l xs Q E v ok hl out => ?_
  refine l1 hl (fun e => by subst e; exact out.elim) (fun d y e e2 hy => ?_) fun d d' r e => by subst e; cases d <;> exact out.elim
  subst e e2
  cases d <;> first | exact out.elim | skip
  cases hy.int
  exact ⟨_, rfl, fin_rv ok (.int _) out⟩
theorem snd_int1 {x : Str} {e : Expr} {ia : IE} {p pos : Pos} (hx : x = "int") (hg : Gl X x) (hm : X.mg x = none) (ha : SndA B X W [e] ia) (hs : [e].all noStar = true) : SndE B X W (.Call (.Name x p) [e] [] pos) (.bi .int ia) := by
  subst hx
  refine bt_node (call_int1) hg hm (by decide +kernel) (by decide) (by decide) ha hs fun S l xs Q E v ok hl out => ?_
  refine l1 hl (fun e => by subst e; exact out.elim) (fun d y e e2 hy => ?_) fun d d' r e => by subst e; cases d <;> exact out.elim
  subst e e2
  cases d <;> first | exact out.elim | skip
  · cases hy.bl
    exact .inr ⟨_, rfl, fin_rv ok (.int _) out⟩
  · cases hy.int
    exact .inl ⟨_, rfl, fin_rv ok (.int _) out⟩
theorem snd_list {x : Str} {e : Expr} {ia : IE} {p pos : Pos} (hx : x = "list") (hK : X.K = B.K) (hg : Gl X x) (hm : X.mg x = none) (ha : SndA B X W [e] ia) (hs : [e].all noStar = true) : SndE B X W (.Call (.Name x p) [e] [] pos) (.bi .list ia) := by
  subst hx
  refine bt_node (call_list_of) hg hm (by decide +kernel) (by decide) (by decide) ha hs fun S l xs Q E v ok hl out => ?_
  refine l1 hl (fun e => by subst e; exact out.elim) (fun d y e e2 hy => ?_) fun d d' r e => by subst e; exact out.elim
  subst e e2
  obtain ⟨m, e, q⟩ := okO_map (o := seqA d) (g := AV.lst) out
  obtain ⟨a, ys, rfl, h1, hr⟩ := seq_of e hy
  have sz : ys.length ≤ LIM := by rw [← hr.len]; exact seq_sz ok e hy
  rw [← hK] at h1
  exact ⟨a, ys, rfl, h1, fun b hb => fin_lst ok hb sz hr q⟩
theorem snd_tuple {x : Str} {e : Expr} {ia : IE} {p pos : Pos} (hx : x = "tuple") (hg : Gl X x) (hm : X.mg x = none) (ha : SndA B X W [e] ia) (hs : [e].all noStar = true) : SndE B X W (.Call (.Name x p) [e] [] pos) (.bi .tuple ia) := by
  subst hx
  refine bt_node (call_tuple_of) hg hm (by decide +kernel) (by decide) (by decide) ha hs fun S l xs Q E v ok hl out => ?_
  refine l1 hl (fun e => by subst e; exact out.elim) (fun d y e e2 hy => ?_) fun d d' r e => by subst e; cases d <;> exact out.elim
  subst e e2
  cases d <;> first | exact out.elim | skip
  · have hy' := tup_rep hy
    obtain ⟨a, ys, rfl, h1, hr⟩ := hy.tup
    exact ⟨a, ys, rfl, .inr ⟨SqT.of h1, fin_rv ok hy' out⟩⟩
  · obtain ⟨a, ys, rfl, h1, hr⟩ := hy.lst
    exact ⟨a, ys, rfl, .inl ⟨SqL.of h1, fun b hb => fin_tup ok hb (ok.szl a ys h1) hr out⟩⟩
theorem snd_min2 {x : Str} {e e' : Expr} {ia : IE} {p pos : Pos} (hx : x = "min") (hc : X.calm = true) (hg : Gl X x) (hm : X.mg x = none) (ha : SndA B X W [e, e'] ia) (hs : [e, e'].all noStar = true) : SndE B X W (.Call (.Name x p) [e, e'] [] pos) (.bi .min2 ia) := by
  subst hx
  refine bi_node (call_min2 hc) hg hm (by decide +kernel) (by decide) (by decide) ha hs fun S l xs Q E v ok hl out => ?_
  match l, hl, out with
  | [.int i, .int j], hl, out =>
    obtain ⟨y, z, rfl, h1, h2⟩ := fo2 hl
    cases h1.int; cases h2.int
    exact ⟨_, _, rfl, fin_rv ok (.int _) out⟩
theorem snd_max2 {x : Str} {e e' : Expr} {ia : IE} {p pos : Pos} (hx : x = "max") (hc : X.calm = true) (hg : Gl X x) (hm : X.mg x = none) (ha : SndA B X W [e, e'] ia) (hs : [e, e'].all noStar = true) : SndE B X W (.Call (.Name x p) [e, e'] [] pos) (.bi .max2 ia) := by
  subst hx
  refine bi_node (call_max2 hc) hg hm (by decide +kernel) (by decide) (by decide) ha hs fun S l xs Q E v ok hl out => ?_
  match l, hl, out with
  | [.int i, .int j], hl, out =>
    obtain ⟨y, z, rfl, h1, h2⟩ := fo2 hl
    cases h1.int; cases h2.int
    exact ⟨_, _, rfl, fin_rv ok (.int _) out⟩
theorem bls_of {S : WS} : ∀ {l : List AV} {bs : List Bool} {xs : List V}, allBl l = some bs → S.Rs B l xs → xs = bs.map V.bl
  | [], bs, _, h, .nil => by cases h; rfl
  | d :: l, bs, _, h, .cons r rs => by
    cases d <;> first | cases h | skip
    rename_i b
    have h : (allBl l).map (b :: ·) = some bs := h
    cases e : allBl l with
    | none => rw [e] at h; cases h
    | some m =>
      rw [e] at h
      cases h
      cases r
      rw [List.map_cons, bls_of e rs]
theorem strs_of {S : WS} : ∀ {l : List AV} {ss : List Str} {xs : List V}, allStr l = some ss → S.Rs B l xs → xs = ss.map V.str ∧ ∀ s ∈ ss, PyData.strOk s = true
  | [], bs, _, h, .nil => by cases h; exact ⟨rfl, fun _ z => (nomatch z)⟩
  | d :: l, bs, _, h, .cons r rs => by
    cases d <;> first | cases h | skip
    rename_i b
    have h : (allStr l).map (b :: ·) = some bs := h
    cases e : allStr l with
    | none => rw [e] at h; cases h
    | some m =>
      rw [e] at h
      cases h
      cases r with
      | str _ q =>
        obtain ⟨e1, e2⟩ := strs_of e rs
        refine ⟨by rw [List.map_cons, e1], fun s hs => ?_⟩
        rcases List.mem_cons.mp hs with z | z
        · rw [z]; exact q
        · exact e2 s z
theorem snd_all {x : Str} {e : Expr} {ia : IE} {p pos : Pos} (hx : x = "all") (hc : X.calm = true) (hg : Gl X x) (hm : X.mg x = none) (ha : SndA B X W [e] ia) (hs : [e].all noStar = true) : SndE B X W (.Call (.Name x p) [e] [] pos) (.bi .all ia) := by
  subst hx
  refine bi_node (cr_all hc) hg hm (by decide +kernel) (by decide) (by decide) ha hs fun S l xs Q E v ok hl out => ?_
  refine l1 hl (fun e => by subst e; exact out.elim) (fun d y e e2 hy => ?_) fun d d' r e => by subst e; cases d <;> exact out.elim
  subst e e2
  cases d <;> first | exact out.elim | skip
  obtain ⟨bs, e, q⟩ := okO_map out
  obtain ⟨a, ys, rfl, h1, hr⟩ := hy.lst
  have := bls_of e hr
  subst this
  exact ⟨a, bs, rfl, SqL.of h1, fin_rv ok (.bl _) q⟩

/-! isinstance -/
def isiB : Bi → Option String
  | .isInt => some "int"
  | .isStr => some "str"
  | .isBool => some "bool"
  | .isTup => some "tuple"
  | _ => none
theorem ty_of {S : WS} {d : AV} {v : V} (hv : S.View B d v) : (d = .non → TyX B.K S.H v (.type "NoneType")) ∧ (∀ b, d = .bl b → TyX B.K S.H v (.type "bool")) ∧ (∀ b, d = .int b → TyX B.K S.H v (.type "int")) ∧ (∀ b, d = .str b → TyX B.K S.H v (.type "str")) ∧
    (∀ b, d = .tup b → TyX B.K S.H v (.type "tuple")) ∧ (∀ b, d = .lst b → TyX B.K S.H v (.type "list")) := by
  refine ⟨fun e => ?_, fun b e => ?_, fun b e => ?_, fun b e => ?_, fun b e => ?_, fun b e => ?_⟩
  · subst e; cases hv.non; exact .base .non
  · subst e; cases hv.bl; exact .base (.bl _)
  · subst e; cases hv.int; exact .base (.int _)
  · subst e; obtain ⟨rfl, _⟩ := hv.str; exact .base (.str _)
  · subst e; obtain ⟨a, xs, rfl, h, _⟩ := hv.tup; exact .base (.tup h)
  · subst e; obtain ⟨a, xs, rfl, h, _⟩ := hv.lst; exact .base (.lst h)
theorem snd_isi {x y : Str} {t : String} {b : Bi} {e : Expr} {ia : IE} {p p2 pos : Pos} (hx : x = "isinstance") (hb : isiB b = some t) (hy : y = Str.ofString t) (hK : X.K = B.K) (hg : Gl X x) (hm : X.mg x = none) (hg2 : Gl X y) (hm2 : X.mg y = none) (ha : SndE B X W e ia) (hs : noStar e = true) : SndE B X W (.Call (.Name x p) [e, .Name y p2] [] pos) (.bi b (.cons ia .nil)) := by
  subst hx
  have hvy : bootBuiltins y = some (.type t) := by subst hy; cases b <;> cases hb <;> decide +kernel
  have hty : PE X (.Name y p2) (tC (.ty t)) := pe_bltn hg2 hm2 hvy rfl (by subst hy; cases b <;> cases hb <;> decide +kernel) (by subst hy; cases b <;> cases hb <;> decide +kernel)
  have hargs : PA X [e, .Name y p2] (tCons (tE B W true ia) (tCons (tC (.ty t)) tNil)) := pa_cons (ha.pe true) (pa_cons hty pa_nil rfl) (starEach_of hs)
  have main : ∀ v, PE X (.Call (.Name "isinstance" p) [e, .Name y p2] [] pos) (tE B W v (.bi b (.cons ia .nil))) := fun v => by
    refine (pe_callB call_isi hg hm PyProof.Rows.boot_isinstance hargs (by decide) (by decide) (starEach_of hs) (plainArgs (by rfl))).imp fun σ H Q h => ?_
    obtain ⟨S, env, rfl, ok, er, out⟩ := h
    have e1 : ev v (.bi b (.cons ia .nil)) env S.ah = (ev true ia env S.ah).bind fun d h1 => doBi b [d] h1 := by
      show R.bind (R.bind (ev true ia env S.ah) _) _ = _
      cases ev true ia env S.ah <;> rfl
    have out' : Outs B S (pureI ia) (RV B v) (WE B W σ) ((ev true ia env S.ah).bind fun d h1 => doBi b [d] h1) Q := by
      rw [← e1]
      have e2 : pureI (.bi b (.cons ia .nil)) = pureI ia := by show (pureI ia && true) = _; rw [Bool.and_true]
      rw [← e2]
      exact out
    refine tE_use (p2 := true) ok er out' (fun z => ⟨z, rfl⟩) fun T d y ok1 l1 er1 h1 o1 => ?_
    obtain ⟨t1, t2, t3, t4, t5, t6⟩ := ty_of h1
    rw [← hK] at t1 t2 t3 t4 t5 t6
    have fin : ∀ {tn : String} {r : Bool}, TyX X.K T.H y (.type tn) → kitB tn t = some r → Outs B T true (RV B v) (WE B W σ) (.ok (.bl r) T.ah) Q → rIsi X.K [y, .ty t] T.H Q := fun {tn r} ty kt q => ⟨y, .ty t, .type tn, .type t, r, rfl, .ty t, ty, kit_ty kt, fin_rv ok1 (.bl _) q⟩
    cases b <;> cases hb <;> cases d <;> first
      | exact o1.elim
      | exact fin (t1 rfl) (by decide +kernel) o1
      | exact fin (t2 _ rfl) (by decide +kernel) o1
      | exact fin (t3 _ rfl) (by decide +kernel) o1
      | exact fin (t4 _ rfl) (by decide +kernel) o1
      | exact fin (t5 _ rfl) (by decide +kernel) o1
      | exact fin (t6 _ rfl) (by decide +kernel) o1
  exact .plain main rfl

/-! ### methods of built-ins -/
theorem snd_join {o e : Expr} {io ie : IE} {apos cpos : Pos} (hK : X.K = B.K) (hbase : attributeBase o "join" X.env (eval o X.env) = eval o X.env) (hline : (apos.endLine == cpos.line) = true) (ho : SndE B X W o io) (ha : SndA B X W [e] ie) (hs : noStar e = true) : SndE B X W (.Call (.Attribute o "join" apos) [e] [] cpos) (.bm .join io ie) := by
  have main : ∀ v, PE X (.Call (.Attribute o "join" apos) [e] [] cpos) (tE B W v (.bm .join io ie)) := fun v => by
    refine (pe_bm PySem.F.plainAttrs_str PySem.F.slot_str_join PySem.F.type_str_join mt_join (ho.pe (pureI ie)) (ha.pa true) hbase (by rw [starEach_of hs]; rfl) hline (starEach_of hs) (plainArgs (by rfl))).imp fun σ H Q h => ?_
    obtain ⟨S, env, rfl, ok, er, out⟩ := h
    refine tE_use (p2 := pureI ie) ok er out (fun z => and2 z) fun T d x ok1 l1 er1 h1 o1 => ?_
    cases d with
    | str s =>
      have hx : x = .str s ∧ PyData.strOk s = true := (RV.view h1).str
      obtain ⟨rfl, hs⟩ := hx
      refine ⟨rfl, ?_⟩
      refine tA_use (p2 := true) ok1 er1 o1 (fun z => ⟨z, rfl⟩) fun U ds xs ok2 l2 er2 h2 o2 => ?_
      obtain ⟨l, rfl, hl⟩ := h2
      have o2 : Outs B U true (RV B v) (WE B W σ) (doBm .join (.str s) l U.ah) Q := o2
      have fin : ∀ {ss : List Str} {ys : List V} {a : Addr} {m : List AV}, xs = [.ref a] → U.Rs B m ys → allStr m = some ss → (∀ zs, ys = zs → SqL X.K U.H a zs ∨ SqT X.K U.H a zs) →
          Outs B U true (RV B v) (WE B W σ) (if (ss.map (·.length)).sum + ss.length * s.length ≤ 16777216 then .ok (.str (Txt.join s ss)) U.ah else .bad) Q →
          ∃ a p, ∃ ys : List Str, V.str s = .str a ∧ xs = [.ref p] ∧ (SqL X.K U.H p (ys.map V.str) ∨ SqT X.K U.H p (ys.map V.str)) ∧ (ys.map (·.length)).sum + ys.length * a.length ≤ 16777216 ∧ Q (.str (Txt.join a ys)) U.H := by
        intro ss ys a m e1 hr hm hq q
        obtain ⟨e2, hok⟩ := strs_of hm hr
        by_cases c : (ss.map (·.length)).sum + ss.length * s.length ≤ 16777216
        · rw [if_pos c] at q
          refine ⟨s, a, ss, rfl, e1, ?_, c, fin_rv ok2 (.str _ ?_) q⟩
          · rw [← e2]; exact hq ys rfl
          · rw [strOk_iff]
            intro z hz
            rw [TL.join_eq] at hz
            have hz : z ∈ TL.tl (Str.join s ss) := hz
            rw [TL.tl_join] at hz
            have mem : ∀ (L : List (List Nat)) (z : Nat), z ∈ TL.joinL (TL.tl s) L → z ∈ TL.tl s ∨ ∃ m ∈ L, z ∈ m := by
              intro L
              induction L with
              | nil => intro z h; cases h
              | cons a r ih =>
                intro z h
                cases r with
                | nil => exact .inr ⟨a, List.mem_cons_self, by simpa [TL.joinL] using h⟩
                | cons b r =>
                  have h : z ∈ a ++ (TL.tl s ++ TL.joinL (TL.tl s) (b :: r)) := by simpa [TL.joinL] using h
                  rcases List.mem_append.mp h with h | h
                  · exact .inr ⟨a, List.mem_cons_self, h⟩
                  · rcases List.mem_append.mp h with h | h
                    · exact .inl h
                    · rcases ih z h with h | ⟨m, hm, h⟩
                      · exact .inl h
                      · exact .inr ⟨m, List.mem_cons_of_mem _ hm, h⟩
            rcases mem _ z hz with h | ⟨m, hm, h⟩
            · exact strOk_iff.mp hs z h
            · obtain ⟨t, ht, rfl⟩ := List.mem_map.mp hm
              exact strOk_iff.mp (hok t ht) z h
        · rw [if_neg c] at q; exact q.elim
      match l, hl, o2 with
      | [.lst m], hl, o2 =>
        obtain ⟨y, rfl, hy⟩ := fo1 hl
        obtain ⟨a, ys, rfl, ha', hr⟩ := WS.View.lst hy
        cases e1 : allStr m with
        | none =>
          have o2 : Outs B U true (RV B v) (WE B W σ) (match allStr m with | some ss => if (ss.map (·.length)).sum + ss.length * s.length ≤ 16777216 then .ok (.str (Txt.join s ss)) U.ah else .bad | none => .bad) Q := o2
          rw [e1] at o2; exact o2.elim
        | some ss =>
          have o2 : Outs B U true (RV B v) (WE B W σ) (match allStr m with | some ss => if (ss.map (·.length)).sum + ss.length * s.length ≤ 16777216 then .ok (.str (Txt.join s ss)) U.ah else .bad | none => .bad) Q := o2
          rw [e1] at o2
          exact fin rfl hr e1 (fun zs e => .inl (SqL.of (e ▸ ha'))) o2
      | [.tup m], hl, o2 =>
        obtain ⟨y, rfl, hy⟩ := fo1 hl
        obtain ⟨a, ys, rfl, ha', hr⟩ := WS.View.tup hy
        cases e1 : allStr m with
        | none =>
          have o2 : Outs B U true (RV B v) (WE B W σ) (match allStr m with | some ss => if (ss.map (·.length)).sum + ss.length * s.length ≤ 16777216 then .ok (.str (Txt.join s ss)) U.ah else .bad | none => .bad) Q := o2
          rw [e1] at o2; exact o2.elim
        | some ss =>
          have o2 : Outs B U true (RV B v) (WE B W σ) (match allStr m with | some ss => if (ss.map (·.length)).sum + ss.length * s.length ≤ 16777216 then .ok (.str (Txt.join s ss)) U.ah else .bad | none => .bad) Q := o2
          rw [e1] at o2
          exact fin rfl hr e1 (fun zs e => .inr (SqT.of (e ▸ ha'))) o2
    | _ => exact o1.elim
  exact .plain main rfl

/-! ### a def called -/
def spOf (B : Bs) (F : Sem) (ar : Nat) : Sp := fun vs H Q E => vs.length = ar ∧ ∃ (S : WS) (args : List AV), S.H = H ∧ S.Ok B ∧ (∀ b i, S.w b ≠ some (.slot i)) ∧ S.Rs B args vs ∧ Outs B S false (fun T d x => T.R B d x) (fun c H' => E (.ref (B.xa c)) none H') (F args S.ah) Q
def dnw : Option Ow → Option Ow
  | some (.slot _) => some .out
  | x => x
def upw : Option Ow → Option Ow → Option Ow
  | some (.slot i), _ => some (.slot i)
  | _, y => y
/-- a caller's state as the callee sees it -/
def WS.down (S : WS) : WS := { S with w := fun b => dnw (S.w b) }
/-- .. and back -/
def WS.up (S T : WS) : WS := { T with w := fun b => upw (S.w b) (T.w b) }
theorem dnw_slot {o : Option Ow} {i : Nat} (h : dnw o = some (.slot i)) : False := by cases o with | none => cases h | some o => cases o <;> cases h
theorem dnw_none {o : Option Ow} : dnw o = none ↔ o = none := by cases o with | none => exact Iff.rfl | some o => cases o <;> simp [dnw]
theorem dnw_obj {o : Option Ow} {n : Nat} : dnw o = some (.obj n) ↔ o = some (.obj n) := by cases o with | none => exact Iff.rfl | some o => cases o <;> simp [dnw]
theorem dnw_fld {o : Option Ow} {n : Nat} {f : Str} : dnw o = some (.fld n f) ↔ o = some (.fld n f) := by cases o with | none => exact Iff.rfl | some o => cases o <;> simp [dnw]
theorem G_eq {S T : WS} (hH : T.H = S.H) (hw : ∀ b, T.w b = none ↔ S.w b = none) : T.G = S.G := by
  funext b
  unfold WS.G
  cases q : S.w b with
  | none => rw [(hw b).mpr q, hH]
  | some o =>
    cases q2 : T.w b with
    | none => rw [(hw b).mp q2] at q; cases q
    | some o' => rfl
theorem rep_eq {S T : WS} (hH : T.H = S.H) (hw : ∀ b, T.w b = none ↔ S.w b = none) (ho : ∀ b n, S.w b = some (.obj n) → T.w b = some (.obj n)) {d : AV} {v : V} (h : S.R B d v) : T.R B d v := by
  have e := G_eq hH hw
  exact Rep.mono ho (by rw [e]; exact Same.refl _) h
theorem cont_eq {S T : WS} (hH : T.H = S.H) (hw : ∀ b, T.w b = none ↔ S.w b = none) (ho : ∀ b n, S.w b = some (.obj n) → T.w b = some (.obj n)) {d : AV} {v : Addr} (h : S.C B d v) : T.C B d v := by
  have e := G_eq hH hw
  have m : Same S.G T.G := by rw [e]; exact Same.refl _
  cases h with
  | lst q t => exact .lst (by rw [hH]; exact q) (Reps.mono ho m t)
  | dk q k t => exact .dk (by rw [hH]; exact q) k (Reps.mono ho m t)
  | dt q k t => exact .dt (by rw [hH]; exact q) k (Reps.mono ho m t)
theorem ok_eq {S T : WS} (hH : T.H = S.H) (ha : T.ah = S.ah) (hw : ∀ b, T.w b = none ↔ S.w b = none) (ho : ∀ b n, S.w b = some (.obj n) ↔ T.w b = some (.obj n)) (hf : ∀ b n f, S.w b = some (.fld n f) → T.w b = some (.fld n f)) (ok : S.Ok B) : T.Ok B := by
  refine ⟨fun n o e => ?_, fun a b n h1 h2 => ok.inj a b n ((ho _ _).mpr h1) ((ho _ _).mpr h2), fun a n h => by rw [ha]; exact ok.lt a n ((ho _ _).mpr h), fun a o h => ?_, fun a xs h => ok.szl a xs (hH ▸ h), fun a xs h => ok.szt a xs (hH ▸ h)⟩
  · rw [ha] at e
    obtain ⟨a, h1, h2⟩ := ok.objs n o e
    refine ⟨a, (ho _ _).mp h1, ?_⟩
    have ho' : ∀ b n, S.w b = some (.obj n) → T.w b = some (.obj n) := fun b n => (ho b n).mp
    cases o with
    | gone => exact trivial
    | box c => exact cont_eq hH hw ho' h2
    | ins c fs =>
      obtain ⟨dx, fs', q1, q2⟩ := h2
      refine ⟨dx, fs', by rw [hH]; exact q1, q2.imp fun p q ⟨e1, e2⟩ => ⟨e1, ?_⟩⟩
      cases z : p.2 with
      | gone => exact trivial
      | exc _ => first | exact trivial | exact h2 | exact e2 | exact h
      | val d => rw [z] at e2; exact rep_eq hH hw ho' e2
      | own c =>
        rw [z] at e2
        obtain ⟨b, h1, h2, h3⟩ := e2
        exact ⟨b, h1, hf _ _ _ h2, cont_eq hH hw ho' h3⟩
  · cases q : S.w a with
    | none => rw [(hw a).mpr q] at h; cases h
    | some o' => rw [hH]; exact ok.trk a o' q
theorem down_ok {S : WS} (ok : S.Ok B) : S.down.Ok B := ok_eq (S := S) (T := S.down) rfl rfl (fun _ => dnw_none) (fun _ _ => dnw_obj.symm) (fun _ _ _ h => dnw_fld.mpr h) ok
theorem down_rep {S : WS} {d : AV} {v : V} (h : S.R B d v) : S.down.R B d v := rep_eq (S := S) (T := S.down) rfl (fun _ => dnw_none) (fun _ _ h => dnw_obj.mpr h) h
theorem down_out {S : WS} {b : Addr} {i : Nat} (h : S.w b = some (.slot i)) : S.down.w b = some .out := by show dnw (S.w b) = _; rw [h]; rfl
theorem upw_of {o y : Option Ow} (h : ∀ i, o ≠ some (.slot i)) : upw o y = y := by
  cases o with
  | none => rfl
  | some o => cases o <;> first | rfl | exact absurd rfl (h _)
theorem up_w {S T : WS} (l : S.down.le false T) (b : Addr) : (∃ i, S.w b = some (.slot i) ∧ (S.up T).w b = some (.slot i) ∧ T.w b = some .out) ∨ (S.up T).w b = T.w b := by
  by_cases h : ∃ i, S.w b = some (.slot i)
  · obtain ⟨i, h⟩ := h
    exact .inl ⟨i, h, by show upw (S.w b) _ = _; rw [h]; rfl, (l.outs b (down_out h)).1⟩
  · exact .inr (upw_of fun i z => h ⟨i, z⟩)
theorem up_none {S T : WS} (l : S.down.le false T) (b : Addr) : (S.up T).w b = none ↔ T.w b = none := by
  rcases up_w l b with ⟨i, _, h2, h3⟩ | h
  · rw [h2, h3]; simp
  · rw [h]
theorem up_obj {S T : WS} (l : S.down.le false T) (b : Addr) (n : Nat) : T.w b = some (.obj n) ↔ (S.up T).w b = some (.obj n) := by
  rcases up_w l b with ⟨i, _, h2, h3⟩ | h
  · rw [h2, h3]; simp
  · rw [h]
theorem up_fld {S T : WS} (l : S.down.le false T) (b : Addr) (n : Nat) (f : Str) (h : T.w b = some (.fld n f)) : (S.up T).w b = some (.fld n f) := by
  rcases up_w l b with ⟨i, _, h2, h3⟩ | h'
  · rw [h3] at h; cases h
  · rw [h']; exact h
theorem up_ok {S T : WS} (l : S.down.le false T) (ok : T.Ok B) : (S.up T).Ok B := ok_eq (S := T) (T := S.up T) rfl rfl (up_none l) (up_obj l) (up_fld l) ok
theorem up_rep {S T : WS} (l : S.down.le false T) {d : AV} {v : V} (h : T.R B d v) : (S.up T).R B d v := rep_eq (S := T) (T := S.up T) rfl (up_none l) (fun b n => (up_obj l b n).mp) h
theorem up_le {S T : WS} (l : S.down.le false T) : S.le false (S.up T) := by
  have e : (S.up T).G = T.G := G_eq (S := T) (T := S.up T) rfl (up_none l)
  have e2 : S.down.G = S.G := G_eq (S := S) (T := S.down) rfl fun _ => dnw_none
  refine ⟨fun a n h => (up_obj l a n).mp (l.objs a n (dnw_obj.mpr h)), by rw [e, ← e2]; exact l.same, fun b i h => ⟨?_, (l.outs b (down_out h)).2⟩, fun b h => ?_, fun z => nomatch z⟩
  · show upw (S.w b) _ = _
    rw [h]; rfl
  · have h' : S.down.w b = some .out := by show dnw (S.w b) = _; rw [h]; rfl
    obtain ⟨q1, q2⟩ := l.outs b h'
    refine ⟨?_, q2⟩
    show upw (S.w b) _ = _
    rw [h]; exact q1
/-- a call: from the outcome at the caller to the promise at the callee -/
theorem call_sp {F : Sem} {S : WS} {args : List AV} {vs : List V} {p v : Bool} {σ : L2.St} {Q : VK} (ok : S.Ok B) (h : S.Rs B args vs) (out : Outs B S p (RV B v) (WE B W σ) ((F args S.ah).bind fun d h2 => fresh v d h2) Q) (hp : p = false) :
    spOf B F vs.length vs S.H Q (fun c d H => W c d σ H) := by
  subst hp
  refine ⟨rfl, S.down, args, rfl, down_ok ok, fun b i e => dnw_slot e, h.imp fun _ _ q => down_rep q, ?_⟩
  show Outs B S.down false _ _ (F args S.ah) Q
  cases q : F args S.ah with
  | bad => rw [q] at out; exact out
  | exc c ah =>
    rw [q] at out
    intro T okT e l
    exact out (S.up T) (up_ok l okT) e (up_le l)
  | ok d ah =>
    rw [q] at out
    intro T okT e l x hx
    have out : Outs B S false (RV B v) (WE B W σ) (fresh v d ah) Q := out
    have hx' : RV B v (S.up T) (if v then vw ah d else d) x := by
      cases v with
      | false => exact up_rep l hx
      | true =>
        have z := vw_view (up_ok l okT) (up_rep l hx)
        have e' : (S.up T).ah = ah := e
        rw [e'] at z
        exact z
    exact out (S.up T) (up_ok l okT) e (up_le l) x hx'
def argsN : IE → Option Nat
  | .nil => some 0
  | .cons _ r => (argsN r).map (· + 1)
  | _ => none
theorem args_len {v : Bool} {env : En} : ∀ {ia : IE} {n : Nat} {h h' : AH} {l : List AV}, argsN ia = some n → ev v ia env h = .ok (.tup l) h' → l.length = n := by
  intro ia
  induction ia generalizing v with
  | nil => intro n h h' l e q; cases e; cases q; rfl
  | cons a r iha ihr =>
    intro n h h' l e q
    have e : (argsN r).map (· + 1) = some n := e
    cases e1 : argsN r with
    | none => rw [e1] at e; cases e
    | some m =>
      rw [e1] at e
      cases e
      have q : (ev (v && pureI r) a env h).bind (fun d h1 => (ev v r env h1).bind fun ds h2 => match ds with
        | AV.tup l => R.ok (AV.tup (d :: l)) h2
        | _ => R.bad) = .ok (.tup l) h' := q
      cases q1 : ev (v && pureI r) a env h with
      | bad => rw [q1] at q; cases q
      | exc c h => rw [q1] at q; cases q
      | ok d h1 =>
        rw [q1] at q
        have q : (ev v r env h1).bind (fun ds h2 => match ds with
          | AV.tup l => R.ok (AV.tup (d :: l)) h2
          | _ => R.bad) = .ok (.tup l) h' := q
        cases q2 : ev v r env h1 with
        | bad => rw [q2] at q; cases q
        | exc c h => rw [q2] at q; cases q
        | ok ds h2 =>
          rw [q2] at q
          cases ds with
          | tup l' =>
            have q : R.ok (AV.tup (d :: l')) h2 = R.ok (AV.tup l) h' := q
            injection q with q3 _
            injection q3 with q4
            subst q4
            show l'.length + 1 = m + 1
            rw [ihr e1 q2]
          | _ => cases q
  | _ => intro n h h' l e; cases e
theorem snd_call {f : Addr} {fd : FuncData} {ps : List Str} {F : Sem} {k : Nat} {x : Str} {e : Expr} {es : List Expr} {ia : IE} {p pos : Pos} (FO : FnOk X.prog X.w X.K X.mg X.base (L2.CX X.prog X.w) k f fd ps (spOf B F ps.length)) (hr : Room k X.A) (hg : Gl X x) (hm : X.mg x = some (.ref f)) (hk : PySem.W.keepIn X.K (.ref f) = true) (hb : Binds X.K fd ps [])
    (hx : ∀ σ, PassesAt (L2.CX X.prog X.w) X σ (fun c d H => W c d σ H)) (hdb : (x == ("__debug__" : Str)) = false) (ha : SndA B X W (e :: es) ia) (hs : (e :: es).all noStar = true) (hl : argsN ia = some ps.length) : SndE B X W (.Call (.Name x p) (e :: es) [] pos) (.call F ia) := by
  have hs' : noStar e = true ∧ es.all noStar = true := by rw [List.all_cons, Bool.and_eq_true] at hs; exact hs
  refine .plain (fun v => (pe_callS (E := fun σ c d H => W c d σ H) FO hr hg hm hk hb hx (ha.pa false) hdb (starEach_of hs'.1) (plainArgs hs'.2)).imp fun σ H Q h => ?_) rfl
  obtain ⟨S, env, rfl, ok, er, out⟩ := h
  refine tA_useE (p2 := false) ok er out (fun z => nomatch z) fun T ds xs ok1 l1 er1 h1 e1 o1 => ?_
  obtain ⟨l, rfl, hl'⟩ := h1
  have len : xs.length = ps.length := by rw [← hl'.len]; exact args_len hl e1
  rw [← len]
  exact call_sp ok1 hl' o1 rfl
end
end Ab

set_option autoImplicit false
set_option maxHeartbeats 2000000
/-! AbE: targets, what is walked, comprehensions. -/
namespace Ab
open PySem PySem.Spec PyProof.Rows L2

section
variable {B : Bs} {X : Cx} {W : WX}
/-! ### an own container -/
def WS.add (S : WS) (p : Addr) (o : HO) (ow : Ow) : WS := { H := upd S.H p o, ah := S.ah, w := fun b => if b = p then some ow else S.w b }
section
variable {S : WS} {p : Addr} {o : HO} {ow : Ow}
theorem add_at : (S.add p o ow).w p = some ow := if_pos rfl
theorem add_ne {b : Addr} (h : b ≠ p) : (S.add p o ow).w b = S.w b := if_neg h
theorem add_le (ok : S.Ok B) (h : S.H p = none) (q : Bool) : S.le q (S.add p o ow) := by
  have hw := ok.free h
  have ne : ∀ b x, S.w b = some x → b ≠ p := fun b x e z => by rw [z, hw] at e; cases e
  refine ⟨fun a n e => (add_ne (ne a _ e)).trans e, fun b u e => ?_, fun b i e => ⟨(add_ne (ne b _ e)).trans e, upd_ne (ne b _ e)⟩, fun b e => ⟨(add_ne (ne b _ e)).trans e, upd_ne (ne b _ e)⟩, fun _ b x e => ⟨(add_ne (ne b _ e)).trans e, upd_ne (ne b _ e)⟩⟩
  obtain ⟨e1, e2⟩ := WS.G_some e
  have nb : b ≠ p := fun z => by rw [z, h] at e2; cases e2
  rw [WS.G_none (S := S.add p o ow) ((add_ne nb).trans e1)]
  exact (upd_ne nb).trans e2
theorem add_ok (ok : S.Ok B) (h : S.H p = none) (hl : ∀ xs, o = .lst xs → xs.length ≤ LIM) (ht : ∀ xs, o = .tup xs → xs.length ≤ LIM) (hf : ∀ ob u, o ≠ .frz ob u) (hn : ∀ n, ow ≠ .obj n) : (S.add p o ow).Ok B := by
  have hw := ok.free h
  have l : S.le true (S.add p o ow) := add_le ok h true
  have ob : ∀ a n, (S.add p o ow).w a = some (.obj n) → S.w a = some (.obj n) := fun a n e => by
    by_cases z : a = p
    · rw [z, add_at] at e; exact absurd (Option.some.inj e) (hn n)
    · exact (add_ne z).symm.trans e
  refine ⟨fun n ob e => ?_, fun a b n e1 e2 => ok.inj a b n (ob a n e1) (ob b n e2), fun a n e => ok.lt a n (ob a n e), fun a x e => ?_, fun a xs e => ?_, fun a xs e => ?_⟩
  · obtain ⟨a, ha, q⟩ := ok.objs n ob e
    exact ⟨a, l.objs a n ha, q.mono l (l.keep rfl) ha⟩
  · by_cases z : a = p
    · exact ⟨o, by rw [z]; exact upd_same⟩
    · obtain ⟨u, hu⟩ := ok.trk a x ((add_ne z).symm.trans e)
      exact ⟨u, (upd_ne z).trans hu⟩
  · have e : upd S.H p o a = some (.lst xs) := e
    by_cases z : a = p
    · rw [z, upd_same] at e; exact hl xs (Option.some.inj e)
    · rw [upd_ne z] at e; exact ok.szl a xs e
  · have e : upd S.H p o a = some (.tup xs) := e
    by_cases z : a = p
    · rw [z, upd_same] at e; exact ht xs (Option.some.inj e)
    · rw [upd_ne z] at e; exact ok.szt a xs e
/-- an own container changes -/
theorem chg_G (hp : S.w p = some ow) : (S.put p o).G = S.G := by
  funext b
  unfold WS.G
  show (match S.w b with | none => upd S.H p o b | some _ => none) = _
  cases q : S.w b with
  | some x => rfl
  | none =>
    have : b ≠ p := fun z => by rw [z, hp] at q; cases q
    exact upd_ne this
theorem chg_rep (hp : S.w p = some ow) {d : AV} {v : V} (h : S.R B d v) : (S.put p o).R B d v := Rep.mono (fun _ _ e => e) (by rw [chg_G hp]; exact Same.refl _) h
theorem chg_cont (hp : S.w p = some ow) {d : AV} {b : Addr} (hb : b ≠ p) (h : S.C B d b) : (S.put p o).C B d b := by
  have e : (S.put p o).H b = S.H b := upd_ne hb
  have m : Same S.G (S.put p o).G := by rw [chg_G hp]; exact Same.refl _
  cases h with
  | lst q t => exact .lst (e.trans q) (Reps.mono (fun _ _ e => e) m t)
  | dk q k t => exact .dk (e.trans q) k (Reps.mono (fun _ _ e => e) m t)
  | dt q k t => exact .dt (e.trans q) k (Reps.mono (fun _ _ e => e) m t)
theorem chg_ok (ok : S.Ok B) (hp : S.w p = some ow) (hn : ∀ n, ow ≠ .obj n) (hf : ∀ n f, ow ≠ .fld n f) (hl : ∀ xs, o = .lst xs → xs.length ≤ LIM) (ht : ∀ xs, o = .tup xs → xs.length ≤ LIM) (hz : ∀ ob u, o ≠ .frz ob u) : (S.put p o).Ok B := by
  refine ⟨fun n ob e => ?_, ok.inj, ok.lt, fun a x e => ?_, fun a xs e => ?_, fun a xs e => ?_⟩
  · obtain ⟨a, ha, q⟩ := ok.objs n ob e
    have na : a ≠ p := fun z => by rw [z, hp] at ha; exact hn n (Option.some.inj ha)
    refine ⟨a, ha, ?_⟩
    cases ob with
    | gone => exact trivial
    | box c => exact chg_cont hp na q
    | ins c fs =>
      obtain ⟨dx, fs', q1, q2⟩ := q
      refine ⟨dx, fs', (upd_ne na).trans q1, q2.imp fun u v ⟨e1, e2⟩ => ⟨e1, ?_⟩⟩
      cases z : u.2 with
      | gone => exact trivial
      | exc _ => first | exact trivial | exact h2 | exact e2 | exact h
      | val d => rw [z] at e2; exact chg_rep hp e2
      | own c =>
        rw [z] at e2
        obtain ⟨b, h1, h2, h3⟩ := e2
        exact ⟨b, h1, h2, chg_cont hp (fun y => by rw [y, hp] at h2; exact hf _ _ (Option.some.inj h2)) h3⟩
  · by_cases z : a = p
    · exact ⟨o, by rw [z]; exact upd_same⟩
    · obtain ⟨u, hu⟩ := ok.trk a x e
      exact ⟨u, (upd_ne z).trans hu⟩
  · have e : upd S.H p o a = some (.lst xs) := e
    by_cases z : a = p
    · rw [z, upd_same] at e; exact hl xs (Option.some.inj e)
    · rw [upd_ne z] at e; exact ok.szl a xs e
  · have e : upd S.H p o a = some (.tup xs) := e
    by_cases z : a = p
    · rw [z, upd_same] at e; exact ht xs (Option.some.inj e)
    · rw [upd_ne z] at e; exact ok.szt a xs e
end
/-- what is hidden at p is let go: it is frozen from now on -/
def WS.free (S : WS) (p : Addr) : WS := { S with w := fun b => if b = p then none else S.w b }
theorem free_G {S : WS} {p : Addr} : Same S.G (S.free p).G := by
  intro b u e
  obtain ⟨e1, e2⟩ := WS.G_some e
  have q : (S.free p).w b = none := by
    show (if b = p then none else S.w b) = none
    by_cases z : b = p
    · rw [if_pos z]
    · rw [if_neg z, e1]
  rw [WS.G_none (S := S.free p) q]
  exact e2
theorem free_at {S : WS} {p : Addr} {u : HO} (h : S.H p = some u) : (S.free p).G p = some u := by
  have q : (S.free p).w p = none := if_pos rfl
  rw [WS.G_none (S := S.free p) q]
  exact h
theorem free_rep {S : WS} {p : Addr} {ow : Ow} (hp : S.w p = some ow) (hn : ∀ n, ow ≠ .obj n) {d : AV} {v : V} (h : S.R B d v) : (S.free p).R B d v :=
  Rep.mono (fun a n e => by
    have : a ≠ p := fun z => by rw [z, hp] at e; exact hn n (Option.some.inj e)
    show (if a = p then none else S.w a) = _
    rw [if_neg this]; exact e) free_G h
theorem free_ok {S : WS} {p : Addr} {ow : Ow} (ok : S.Ok B) (hp : S.w p = some ow) (hn : ∀ n, ow ≠ .obj n) (hf : ∀ n f, ow ≠ .fld n f) : (S.free p).Ok B := by
  have back : ∀ a x, (S.free p).w a = some x → S.w a = some x := fun a x e => by
    have e : (if a = p then none else S.w a) = some x := e
    by_cases z : a = p
    · rw [if_pos z] at e; cases e
    · rw [if_neg z] at e; exact e
  have ob : ∀ a n, S.w a = some (.obj n) → (S.free p).w a = some (.obj n) := fun a n e => by
    have : a ≠ p := fun z => by rw [z, hp] at e; exact hn n (Option.some.inj e)
    exact (if_neg this).trans e
  have cont : ∀ {c : AV} {b : Addr}, S.C B c b → (S.free p).C B c b := fun {c b} h => by
    cases h with
    | lst q t => exact .lst q (Reps.mono ob free_G t)
    | dk q k t => exact .dk q k (Reps.mono ob free_G t)
    | dt q k t => exact .dt q k (Reps.mono ob free_G t)
  refine ⟨fun n o e => ?_, fun a b n e1 e2 => ok.inj a b n (back _ _ e1) (back _ _ e2), fun a n e => ok.lt a n (back _ _ e), fun a x e => ok.trk a x (back _ _ e), ok.szl, ok.szt⟩
  obtain ⟨a, ha, q⟩ := ok.objs n o e
  refine ⟨a, ob a n ha, ?_⟩
  cases o with
  | gone => exact trivial
  | box c => exact cont q
  | ins c fs =>
    obtain ⟨dx, fs', q1, q2⟩ := q
    refine ⟨dx, fs', q1, q2.imp fun u v ⟨e1, e2⟩ => ⟨e1, ?_⟩⟩
    cases z : u.2 with
    | gone => exact trivial
    | exc _ => first | exact trivial | exact h2 | exact e2 | exact h
    | val d => rw [z] at e2; exact free_rep hp hn e2
    | own c =>
      rw [z] at e2
      obtain ⟨b, h1, h2, h3⟩ := e2
      have nb : b ≠ p := fun y => by rw [y, hp] at h2; exact hf _ _ (Option.some.inj h2)
      exact ⟨b, h1, (if_neg nb).trans h2, cont h3⟩

/-! ### targets -/
def gL : List Nat → TGs
  | [] => gNil
  | i :: r => gCons (gName i) (gL r)
def tgR (K : PySem.W.Frag) : Tg → TG
  | .nm i => gName i
  | .tp l => gTup K l.length (gL l)
def tgIx : Tg → List Nat
  | .nm i => [i]
  | .tp l => l
theorem erep_set {S : WS} {e : En} {σ : L2.St} {i : Nat} {d : AV} {x : V} (h : ERep B S e σ) (hi : i < e.length) (hx : S.R B d x) : ERep B S (e.set i (some (.val d))) (σ.set i (some x)) := by
  refine ⟨by rw [List.length_set, List.length_set]; exact h.len, fun j fv q => ?_⟩
  by_cases z : i = j
  · subst z
    rw [List.getElem?_set_self hi] at q
    cases q
    exact ⟨x, by rw [List.getElem?_set_self (h.len ▸ hi)], hx⟩
  · rw [List.getElem?_set_ne z] at q
    obtain ⟨v, h1, h2⟩ := h.at_ j fv q
    exact ⟨v, by rw [List.getElem?_set_ne z]; exact h1, h2⟩
theorem gl_use {S : WS} : ∀ {l : List Nat} {ds : List AV} {xs : List V} {e e' : En} {σ : L2.St} {Q : L2.St → Hp → Prop}, setL l ds e = some e' → S.Rs B ds xs → ERep B S e σ →
    (∀ σ', ERep B S e' σ' → (∀ own : List Nat, (∀ i ∈ l, i ∈ own) → wipe σ' own = wipe σ own) → Q σ' S.H) → gL l xs σ S.H Q
  | [], [], _, e, e', σ, Q, h, .nil, er, k => by cases h; exact ⟨rfl, k σ er fun _ _ => rfl⟩
  | i :: r, d :: ds, _, e, e', σ, Q, h, .cons (b := x) (m := xs) hx hr, er, k => by
    have h : (if i < e.length then setL r ds (e.set i (some (.val d))) else none) = some e' := h
    by_cases c : i < e.length
    · rw [if_pos c] at h
      refine ⟨x, xs, rfl, gl_use h hr (erep_set er c hx) fun σ' er' hw => k σ' er' fun own ho => ?_⟩
      rw [hw own fun j hj => ho j (List.mem_cons_of_mem _ hj)]
      exact wipe_set own (ho i List.mem_cons_self)
    · rw [if_neg c] at h; cases h
  | [], _ :: _, _, _, _, _, _, h, _, _, _ => by cases h
  | _ :: _, [], _, _, _, _, _, h, _, _, _ => by cases h
where
  wipe_set {σ : L2.St} {i : Nat} {y : Option V} : ∀ (own : List Nat), i ∈ own → wipe (σ.set i y) own = wipe σ own := by
    intro own
    induction own with
    | nil => intro h; cases h
    | cons j r ih =>
      intro h
      show (wipe (σ.set i y) r).set j none = (wipe σ r).set j none
      by_cases hr : i ∈ r
      · rw [ih hr]
      · have hj : i = j := by
          rcases List.mem_cons.mp h with z | z
          · exact z
          · exact absurd z hr
        subst hj
        have : ∀ (r : List Nat) (σ : L2.St), i ∉ r → wipe (σ.set i y) r = (wipe σ r).set i y := by
          intro r
          induction r with
          | nil => intro _ _; rfl
          | cons k r ih =>
            intro σ hk
            show (wipe (σ.set i y) r).set k none = ((wipe σ r).set k none).set i y
            rw [ih σ fun z => hk (List.mem_cons_of_mem _ z), List.set_comm]
            intro z; exact hk (by rw [z]; exact List.mem_cons_self)
        rw [this r σ hr, List.set_set]
theorem tg_use {S : WS} {tg : Tg} {d : AV} {x : V} {e e' : En} {σ : L2.St} {Q : L2.St → Hp → Prop} (hK : X.K = B.K) (h : setTg tg d e = some e') (hx : S.R B d x) (er : ERep B S e σ)
    (k : ∀ σ', ERep B S e' σ' → (∀ own : List Nat, (∀ i ∈ tgIx tg, i ∈ own) → wipe σ' own = wipe σ own) → Q σ' S.H) : tgR X.K tg x σ S.H Q := by
  cases tg with
  | nm i =>
    have h : (if i < e.length then some (e.set i (some (.val d))) else none) = some e' := h
    by_cases c : i < e.length
    · rw [if_pos c] at h
      cases h
      exact k _ (erep_set er c hx) fun own ho => gl_use.wipe_set own (ho i List.mem_cons_self)
    · rw [if_neg c] at h; cases h
  | tp l =>
    cases d <;> first | cases h | skip
    rename_i ds
    have h : setL l ds e = some e' := h
    cases hx with
    | tup ha hr =>
      rename_i a xs
      have hr := reps_fo hr
      have len : ∀ {l : List Nat} {ds : List AV} {e e' : En}, setL l ds e = some e' → l.length = ds.length := by
        intro l
        induction l with
        | nil => intro ds e e' h; cases ds with | nil => rfl | cons _ _ => cases h
        | cons i r ih =>
          intro ds e e' h
          cases ds with
          | nil => cases h
          | cons d ds =>
            have h : (if i < e.length then setL r ds (e.set i (some (.val d))) else none) = some e' := h
            by_cases c : i < e.length
            · rw [if_pos c] at h
              rw [List.length_cons, List.length_cons, ih h]
            · rw [if_neg c] at h; cases h
      exact ⟨a, xs, rfl, SqT.of (WS.G_some ha).2, by rw [← hr.len]; exact (len h).symm, gl_use h hr er k⟩

/-! ### what is walked -/
structure Wk (B : Bs) (J : L2.It) (S : WS) (p : Bool) (l : List AV) : Prop where
  go : ∀ (T : WS) (i : Nat), T.Ok B → S.lk p T → ∀ d, l[i]? = some d → J.go i T.H ∧ ∀ x H', J.yld i T.H x H' → ∃ U : WS, U.H = H' ∧ U.Ok B ∧ T.le true U ∧ U.ah = T.ah ∧ U.R B d x
  stop : ∀ (T : WS), T.Ok B → S.lk p T → J.stop l.length T.H
  sz : l.length ≤ LIM
def tI (B : Bs) (W : WX) (v : Bool) (it : Ab.It) (src : IE) : TI := fun σ H R => ∃ (S : WS) (env : En), S.H = H ∧ S.Ok B ∧ ERep B S env σ ∧
  Outs B S (pureI src) (fun T l J => Wk B J T v l) (WE B W σ) ((ev v src env S.ah).bind (itR it)) R
def SndI (B : Bs) (X : Cx) (W : WX) (tg iter : Expr) (it : Ab.It) (src : IE) : Prop := ∀ v, PI X tg iter (tI B W v it src)
theorem _root_.L2.PI.imp {X : Cx} {tg e : Expr} {t t' : TI} (h : PI X tg e t) (q : ∀ σ H R, t' σ H R → t σ H R) : PI X tg e t' := ⟨fun pins s σ H R I z => h.run pins s σ H R I (q σ H R z)⟩
theorem _root_.L2.PI.or {X : Cx} {tg e : Expr} {t t' : TI} (h : PI X tg e t) (h' : PI X tg e t') : PI X tg e (fun σ H R => t σ H R ∨ t' σ H R) := ⟨fun pins s σ H R I z => z.elim (h.run pins s σ H R I) (h'.run pins s σ H R I)⟩
/-- a value stays to be looked at -/
theorem rv_stay {S T : WS} {v : Bool} {d : AV} {x : V} (h : RV B v S d x) (l : S.lk v T) : T.View B d x := by
  cases v with
  | true => exact l.view h
  | false => exact .inl (l.rep h)
theorem wk_at {S : WS} {v : Bool} {l : List AV} {a : Addr} (sz : l.length ≤ LIM) (at_ : ∀ T : WS, S.lk v T → ∃ xs, SqL B.K T.H a xs ∧ T.Rs B l xs) : Wk B (Itl B.K a) S v l := by
  refine ⟨fun T i ok le d hd => ?_, fun T ok le => ?_, sz⟩
  · obtain ⟨xs, h1, h2⟩ := at_ T le
    obtain ⟨y, hy, hr⟩ := h2.get hd
    refine ⟨⟨xs, y, h1, hy⟩, fun x H' ⟨e, q⟩ => ⟨T, e.symm, ok, .refl _ _, rfl, ?_⟩⟩
    have z := q xs h1
    rw [hy] at z
    cases z
    exact hr
  · obtain ⟨xs, h1, h2⟩ := at_ T le
    exact ⟨xs, h1, by rw [h2.len]; exact Nat.le_refl _⟩
theorem wk_lst {S : WS} {v : Bool} {l : List AV} {a : Addr} (sok : S.Ok B) (h : RV B v S (.lst l) (.ref a)) : Wk B (Itl B.K a) S v l :=
  wk_at (seq_sz sok (d := .lst l) rfl (RV.view h)) fun T le => by
    obtain ⟨b, ys, e, hb, hr⟩ := (rv_stay h le).lst
    cases e
    exact ⟨ys, SqL.of hb, hr⟩
theorem wk_scr {S : WS} {v : Bool} {l : List Int} {a : Addr} (sok : S.Ok B) (h : RV B v S (.scr l) (.ref a)) : Wk B (Itl B.K a) S v (scrL l) :=
  wk_at (seq_sz sok (d := .scr l) rfl (RV.view h)) fun T le => by
    obtain ⟨b, e, hb⟩ := (rv_stay h le).scr
    cases e
    refine ⟨_, hb, ?_⟩
    have : ∀ l : List Int, T.Rs B (scrL l) (l.map V.int) := fun l => by
      induction l with
      | nil => exact .nil
      | cons i r ih => exact .cons (.int i) ih
    exact this l
theorem wk_seqT {S : WS} {v : Bool} {l : List AV} {a : Addr} (sok : S.Ok B) (h : RV B v S (.tup l) (.ref a)) : Wk B (Itt B.K a) S v l := by
  have at_ : ∀ T : WS, S.lk v T → ∃ xs, SqT B.K T.H a xs ∧ T.Rs B l xs := fun T le => by
    obtain ⟨b, ys, e, hb, hr⟩ := (rv_stay h le).tup
    cases e
    exact ⟨ys, SqT.of hb, hr⟩
  refine ⟨fun T i ok le d hd => ?_, fun T ok le => ?_, seq_sz sok (d := .tup l) rfl (RV.view h)⟩
  · obtain ⟨xs, h1, h2⟩ := at_ T le
    obtain ⟨y, hy, hr⟩ := h2.get hd
    refine ⟨⟨xs, y, h1, hy⟩, fun x H' ⟨e, q⟩ => ⟨T, e.symm, ok, .refl _ _, rfl, ?_⟩⟩
    have z := q xs h1
    rw [hy] at z
    cases z
    exact hr
  · obtain ⟨xs, h1, h2⟩ := at_ T le
    exact ⟨xs, h1, by rw [h2.len]; exact Nat.le_refl _⟩
theorem wk_str {S : WS} {v : Bool} {s : Str} (sz : s.length ≤ LIM) (h : PyData.strOk s = true) : Wk B (Its s) S v (s.cps.toList.map fun c => AV.str (sgn c)) := by
  refine ⟨fun T i ok le d hd => ?_, fun T ok le => ?_, by rw [List.length_map, Array.length_toList]; exact sz⟩
  · rw [List.getElem?_map] at hd
    cases q : s.cps.toList[i]? with
    | none => rw [q] at hd; cases hd
    | some c =>
      rw [q] at hd
      cases hd
      have hi : i < s.cps.size := by simpa using (List.getElem?_eq_some_iff.mp q).1
      refine ⟨hi, fun x H' ⟨e, c', hc, ex⟩ => ⟨T, e.symm, ok, .refl _ _, rfl, ?_⟩⟩
      subst ex
      have : c' = c := by
        rw [← Array.getElem?_toList, q] at hc
        exact (Option.some.inj hc).symm
      subst this
      refine .str _ ?_
      rw [strOk_iff] at *
      intro z hz
      have : z = c' := by simpa [sgn] using hz
      subst this
      exact h _ (List.mem_of_getElem? q)
  · show s.cps.size ≤ _
    simp
theorem wk_rng {S : WS} {v : Bool} {lo : Int} {n : Nat} (sz : n ≤ LIM) : Wk B (Itr lo n) S v (rngL lo n) := by
  have len : (rngL lo n).length = n := by simp [rngL]
  refine ⟨fun T i ok le d hd => ?_, fun T ok le => ?_, Nat.le_trans (Nat.le_of_eq len) sz⟩
  · have hi : i < n := by rw [← len]; exact (List.getElem?_eq_some_iff.mp hd).1
    refine ⟨hi, fun x H' ⟨e, ex⟩ => ⟨T, e.symm, ok, .refl _ _, rfl, ?_⟩⟩
    subst ex
    have e2 : (rngL lo n)[i]? = some (.int (lo + (i : Nat))) := by simp [rngL, hi]
    rw [e2] at hd
    cases hd
    exact .int _
  · show n ≤ _
    rw [len]; exact Nat.le_refl _
theorem wk_enum {S : WS} {v : Bool} {l : List AV} {a : Addr} (sok : S.Ok B) (h : RV B v S (.lst l) (.ref a)) : Wk B (Ite B.K a) S v (pairL l) := by
  have len : (pairL l).length = l.length := by simp [pairL]
  have at_ : ∀ T : WS, S.lk v T → ∃ xs, SqL B.K T.H a xs ∧ T.Rs B l xs := fun T le => by
    obtain ⟨b, ys, e, hb, hr⟩ := (rv_stay h le).lst
    cases e
    exact ⟨ys, SqL.of hb, hr⟩
  refine ⟨fun T i ok le d hd => ?_, fun T ok le => ?_, len ▸ seq_sz sok (d := .lst l) rfl (RV.view h)⟩
  · obtain ⟨xs, h1, h2⟩ := at_ T le
    have hi : i < l.length := by rw [← len]; exact (List.getElem?_eq_some_iff.mp hd).1
    have e2 : (pairL l)[i]? = some (.tup [.int (i : Nat), l[i]]) := by
      simp [pairL, hi]
    rw [e2] at hd
    cases hd
    obtain ⟨y, hy, hr⟩ := h2.get (i := i) (a := l[i]) (by simp [hi])
    refine ⟨⟨xs, y, h1, hy⟩, fun x H' ⟨p, x', ex, hp, eH, q⟩ => ?_⟩
    subst ex eH
    have z := q xs h1
    rw [hy] at z
    cases z
    have szp : ∀ ys : List V, HO.tup [V.int ((i : Nat) : Int), y] = .tup ys → ys.length ≤ LIM := fun ys e => by
      cases e
      show 2 ≤ LIM
      decide
    refine ⟨T.put p (.tup [.int (i : Nat), y]), rfl, put_ok ok hp (fun _ e => by cases e) szp (fun _ _ e => by cases e), put_le ok hp _, rfl, ?_⟩
    exact .tup (put_at ok hp) (.cons (.int _) (.cons ((put_le (o := .tup [V.int ((i : Nat) : Int), y]) ok hp true).rep hr) .nil))
  · obtain ⟨xs, h1, h2⟩ := at_ T le
    exact ⟨xs, h1, by rw [len, h2.len]; exact Nat.le_refl _⟩
theorem wk_rev {S : WS} {v : Bool} {l : List AV} {a : Addr} {n : Nat} (sok : S.Ok B) (hn : n = l.length) (h : RV B v S (.lst l) (.ref a)) : Wk B (Itv B.K a n) S v l.reverse := by
  have at_ : ∀ T : WS, S.lk v T → ∃ xs, SqL B.K T.H a xs ∧ T.Rs B l xs := fun T le => by
    obtain ⟨b, ys, e, hb, hr⟩ := (rv_stay h le).lst
    cases e
    exact ⟨ys, SqL.of hb, hr⟩
  refine ⟨fun T i ok le d hd => ?_, fun T ok le => ?_, by rw [List.length_reverse]; exact seq_sz sok (d := .lst l) rfl (RV.view h)⟩
  · obtain ⟨xs, h1, h2⟩ := at_ T le
    have hi : i < l.length := by simpa using (List.getElem?_eq_some_iff.mp hd).1
    rw [List.getElem?_reverse hi] at hd
    obtain ⟨y, hy, hr⟩ := h2.get hd
    rw [← hn] at hy
    refine ⟨⟨by omega, xs, y, h1, hy⟩, fun x H' ⟨e, q⟩ => ⟨T, e.symm, ok, .refl _ _, rfl, ?_⟩⟩
    have z := q xs h1
    rw [hy] at z
    cases z
    exact hr
  · show n ≤ _
    rw [List.length_reverse, hn]; exact Nat.le_refl _
theorem it1 {v : Bool} {ia : IE} {env : En} {h : AH} {it : Ab.It} : (ev v (.cons ia .nil) env h).bind (itR it) = (ev v ia env h).bind fun d h1 => okO (itemsA it [d]) h1 := by
  show R.bind (R.bind (ev (v && true) ia env h) _) _ = _
  rw [Bool.and_true]
  cases ev v ia env h <;> rfl
theorem tE_useE {σ : L2.St} {S : WS} {env : En} {va : Bool} {ia : IE} {p p2 : Bool} {Q1 : VK} {α : Type} {β : Type} {rel : WS → α → β → Prop} {k : AV → AH → Ab.R α} {Q : β → Hp → Prop}
    (ok : S.Ok B) (er : ERep B S env σ) (out : Outs B S p rel (WE B W σ) ((ev va ia env S.ah).bind k) Q) (hp : p = true → pureI ia = true ∧ p2 = true)
    (hQ : ∀ (T : WS) d x, T.Ok B → S.le (pureI ia) T → ERep B T env σ → RV B va T d x → ev va ia env S.ah = .ok d T.ah → Outs B T p2 rel (WE B W σ) (k d T.ah) Q → Q1 x T.H) : tE B W va ia σ S.H Q1 :=
  ⟨S, env, rfl, ok, er, Outs.bind out hp fun T d x ok1 l1 h1 e1 o1 => hQ T d x ok1 l1 (er.mono l1) h1 e1 o1⟩
theorem wk_fin {T : WS} {v p : Bool} {E : Nat → Hp → Prop} {o : Option (List AV)} {Rr : L2.It → Hp → Prop} (ok : T.Ok B) (out : Outs B T p (fun T l J => Wk B J T v l) E (okO o T.ah) Rr) : ∃ l, o = some l ∧ ∀ J, Wk B J T v l → Rr J T.H := by
  cases o with
  | none => exact out.elim
  | some l => exact ⟨l, rfl, fun J h => out T ok rfl (.refl _ _) J h⟩
theorem sni_seq {tg e : Expr} {ia : IE} (hK : X.K = B.K) (h : SndE B X W e ia) : SndI B X W tg e .seq (.cons ia .nil) := by
  intro v
  have hp := ((pi_list (tg := tg) (h.pe v)).or ((pi_tup (tg := tg) (h.pe v)).or (pi_str (tg := tg) (h.pe v))))
  refine hp.imp fun σ H Rr hh => ?_
  obtain ⟨S, env, rfl, ok, er, out⟩ := hh
  rw [it1] at out
  have e2 : pureI (.cons ia .nil) = pureI ia := by show (pureI ia && true) = _; rw [Bool.and_true]
  rw [e2] at out
  have gen : ∀ {Q1 : VK}, (∀ (T : WS) d x l, T.Ok B → RV B v T d x → ev v ia env S.ah = .ok d T.ah → itemsA .seq [d] = some l → (∀ J, Wk B J T v l → Rr J T.H) → Q1 x T.H) → tE B W v ia σ S.H Q1 := fun k =>
    tE_useE (p2 := pureI ia) ok er out (fun z => ⟨z, z⟩) fun T d x ok1 l1 er1 h1 e1 o1 => by
      obtain ⟨l, e3, q⟩ := wk_fin ok1 o1
      exact k T d x l ok1 h1 e1 e3 q
  have kind : (∃ s ah, ev v ia env S.ah = .ok (.str s) ah) ∨ (∃ s ah, ev v ia env S.ah = .ok (.tup s) ah) ∨ ((∀ s ah, ev v ia env S.ah ≠ .ok (.str s) ah) ∧ ∀ s ah, ev v ia env S.ah ≠ .ok (.tup s) ah) := by
    cases ev v ia env S.ah with
    | ok d ah =>
      cases d with
      | str s => exact .inl ⟨s, ah, rfl⟩
      | tup s => exact .inr (.inl ⟨s, ah, rfl⟩)
      | _ => exact .inr (.inr ⟨fun _ _ z => (nomatch z), fun _ _ z => (nomatch z)⟩)
    | _ => exact .inr (.inr ⟨fun _ _ z => (nomatch z), fun _ _ z => (nomatch z)⟩)
  rcases kind with ⟨s, ah, ek⟩ | ⟨s, ah, ek⟩ | ⟨n1, n2⟩
  · refine .inr (.inr (gen fun T d x l okT hx e1 e3 q => ?_))
    rw [ek] at e1
    cases e1
    obtain ⟨rfl, hs⟩ := (RV.view hx).str
    have e3 : (if s.length ≤ LIM then some (s.cps.toList.map fun c => AV.str (sgn c)) else none) = some l := e3
    by_cases c : s.length ≤ LIM
    · rw [if_pos c] at e3
      cases e3
      exact ⟨s, rfl, q _ (wk_str c hs)⟩
    · rw [if_neg c] at e3; cases e3
  · refine .inr (.inl (gen fun T d x l okT hx e1 e3 q => ?_))
    rw [ek] at e1
    cases e1
    cases e3
    obtain ⟨b, ys, rfl, hb, hr⟩ := (RV.view hx).tup
    exact ⟨b, rfl, ⟨ys, SqT.of hb⟩, hK ▸ q _ (wk_seqT okT hx)⟩
  · refine .inl (gen fun T d x l okT hx e1 e3 q => ?_)
    cases d with
    | str s => exact absurd e1 (n1 _ _)
    | tup s => exact absurd e1 (n2 _ _)
    | lst m =>
      cases e3
      obtain ⟨b, ys, rfl, hb, hr⟩ := (RV.view hx).lst
      exact ⟨b, rfl, ⟨ys, SqL.of hb⟩, hK ▸ q _ (wk_lst okT hx)⟩
    | scr m =>
      cases e3
      obtain ⟨b, rfl, hb⟩ := (RV.view hx).scr
      exact ⟨b, rfl, ⟨_, hK ▸ hb⟩, hK ▸ q _ (wk_scr okT hx)⟩
    | _ => cases e3
end
end Ab

set_option autoImplicit false
set_option maxHeartbeats 2000000
/-! AbF: ranges, enumerate, reversed; comprehensions. -/
namespace Ab
open PySem PySem.Spec PyProof.Rows L2

section
variable {B : Bs} {X : Cx} {W : WX}
theorem itA {v : Bool} {ia : IE} {env : En} {h : AH} {it : Ab.It} : (ev v ia env h).bind (itR it) = (ev v ia env h).bind fun ds h1 => itR it ds h1 := rfl
theorem itR_tup {it : Ab.It} {l : List AV} {h : AH} : itR it (.tup l) h = okO (itemsA it l) h := rfl
theorem sni_rng1 {x : Str} {tg e : Expr} {ia : IE} {p pos : Pos} (hx : x = "range") (hg : Gl X x) (hm : X.mg x = none) (ha : SndA B X W [e] ia) (hs : [e].all noStar = true) : SndI B X W tg (.Call (.Name x p) [e] [] pos) .rng1 ia := by
  subst hx
  have hs' : noStar e = true := by simpa using hs
  intro v
  refine (pi_range1 hg hm (ha.pa v) (starEach_of hs')).imp fun σ H Rr hh => ?_
  obtain ⟨S, env, rfl, ok, er, out⟩ := hh
  refine tA_use (p2 := true) ok er out (fun z => ⟨z, rfl⟩) fun T ds xs ok1 l1 er1 h1 o1 => ?_
  obtain ⟨l, rfl, hl⟩ := h1
  rw [itR_tup] at o1
  obtain ⟨m, e1, q⟩ := wk_fin ok1 o1
  match l, hl, e1 with
  | [.int j], hl, e1 =>
    obtain ⟨y, rfl, hy⟩ := fo1 hl
    cases (RV.view hy).int
    have e1 : (if -(2 ^ 62) ≤ j ∧ j ≤ LIM then some (rngL 0 j.toNat) else none) = some m := e1
    by_cases c : -(2 ^ 62) ≤ j ∧ j ≤ LIM
    · rw [if_pos c] at e1
      cases e1
      have hl : (LIM : Int) = 16777216 := rfl
      refine ⟨j, rfl, c.1, ?_, q _ (wk_rng ?_)⟩
      · omega
      · have := c.2; show j.toNat ≤ 16777216; omega
    · rw [if_neg c] at e1; cases e1
theorem sni_rng2 {x : Str} {tg e e2 : Expr} {ia : IE} {p pos : Pos} (hx : x = "range") (hg : Gl X x) (hm : X.mg x = none) (ha : SndA B X W [e, e2] ia) (hs : [e, e2].all noStar = true) : SndI B X W tg (.Call (.Name x p) [e, e2] [] pos) .rng2 ia := by
  subst hx
  have hs' : noStar e = true ∧ noStar e2 = true := by simpa using hs
  intro v
  have s2 := starEach_of (es := []) (env := X.env) hs'.2
  refine (pi_range2 hg hm (ha.pa v) (by rw [starEach_of hs'.1, s2]; rfl) s2).imp fun σ H Rr hh => ?_
  obtain ⟨S, env, rfl, ok, er, out⟩ := hh
  refine tA_use (p2 := true) ok er out (fun z => ⟨z, rfl⟩) fun T ds xs ok1 l1 er1 h1 o1 => ?_
  obtain ⟨l, rfl, hl⟩ := h1
  rw [itR_tup] at o1
  obtain ⟨m, e1, q⟩ := wk_fin ok1 o1
  match l, hl, e1 with
  | [.int i, .int j], hl, e1 =>
    obtain ⟨y, z, rfl, hy, hz⟩ := fo2 hl
    cases (RV.view hy).int
    cases (RV.view hz).int
    have e1 : (if -(2 ^ 62) ≤ i ∧ i < 2 ^ 62 ∧ -(2 ^ 62) ≤ j ∧ j < 2 ^ 62 ∧ j - i ≤ LIM then some (rngL i (j - i).toNat) else none) = some m := e1
    by_cases c : -(2 ^ 62) ≤ i ∧ i < 2 ^ 62 ∧ -(2 ^ 62) ≤ j ∧ j < 2 ^ 62 ∧ j - i ≤ LIM
    · rw [if_pos c] at e1
      cases e1
      obtain ⟨c1, c2, c3, c4, c5⟩ := c
      refine ⟨i, j, rfl, ⟨c1, c2, c3, c4⟩, q _ (wk_rng ?_)⟩
      have hl : (LIM : Int) = 16777216 := rfl
      show (j - i).toNat ≤ 16777216
      omega
    · rw [if_neg c] at e1; cases e1
theorem sni_enum {x : Str} {elts : List Expr} {kk : Nat} {tpos : Pos} {e : Expr} {ia : IE} {p pos : Pos} (hK : X.K = B.K) (hx : x = "enumerate") (hg : Gl X x) (hm : X.mg x = none) (ha : SndA B X W [e] ia) (hs : [e].all noStar = true) : SndI B X W (.Tuple elts kk tpos) (.Call (.Name x p) [e] [] pos) .enum ia := by
  subst hx
  have hs' : noStar e = true := by simpa using hs
  intro v
  refine (pi_enum hg hm (ha.pa v) (starEach_of hs')).imp fun σ H Rr hh => ?_
  obtain ⟨S, env, rfl, ok, er, out⟩ := hh
  refine tA_use (p2 := true) ok er out (fun z => ⟨z, rfl⟩) fun T ds xs ok1 l1 er1 h1 o1 => ?_
  obtain ⟨l, rfl, hl⟩ := h1
  rw [itR_tup] at o1
  obtain ⟨m, e1, q⟩ := wk_fin ok1 o1
  refine Ab.l1 hl (fun z => by subst z; cases e1) (fun d y z z2 hy => ?_) fun d d' r z => by subst z; cases e1
  subst z z2
  cases d <;> first | cases e1 | skip
  obtain ⟨a, ys, rfl, hb, hr⟩ := (RV.view hy).lst
  exact ⟨a, ys, rfl, SqL.of hb, hK ▸ q _ (wk_enum ok1 hy)⟩
theorem wk_revT {S : WS} {v : Bool} {l : List AV} {a : Addr} {n : Nat} (sok : S.Ok B) (hn : n = l.length) (h : RV B v S (.tup l) (.ref a)) : Wk B (RT.ItvT B.K a n) S v l.reverse := by
  have at_ : ∀ T : WS, S.lk v T → ∃ xs, SqT B.K T.H a xs ∧ T.Rs B l xs := fun T le => by
    obtain ⟨b, ys, e, hb, hr⟩ := (rv_stay h le).tup
    cases e
    exact ⟨ys, SqT.of hb, hr⟩
  refine ⟨fun T i ok le d hd => ?_, fun T ok le => ?_, by rw [List.length_reverse]; exact seq_sz sok (d := .tup l) rfl (RV.view h)⟩
  · obtain ⟨xs, h1, h2⟩ := at_ T le
    have hi : i < l.length := by simpa using (List.getElem?_eq_some_iff.mp hd).1
    rw [List.getElem?_reverse hi] at hd
    obtain ⟨y, hy, hr⟩ := h2.get hd
    rw [← hn] at hy
    refine ⟨⟨by omega, xs, y, h1, hy⟩, fun x H' ⟨e, q⟩ => ⟨T, e.symm, ok, .refl _ _, rfl, ?_⟩⟩
    have z := q xs h1
    rw [hy] at z
    cases z
    exact hr
  · show n ≤ _
    rw [List.length_reverse, hn]; exact Nat.le_refl _
theorem sni_rev {x : Str} {tg e : Expr} {ia : IE} {p pos : Pos} (hK : X.K = B.K) (hx : x = "reversed") (hg : Gl X x) (hm : X.mg x = none) (h : SndE B X W e ia) (hs : noStar e = true) : SndI B X W tg (.Call (.Name x p) [e] [] pos) .rev (.cons ia .nil) := by
  subst hx
  intro v
  refine (RT.pi_revA (tg := tg) hg hm (h.pe v) (starEach_of hs)).imp fun σ H Rr hh => ?_
  obtain ⟨S, env, rfl, ok, er, out⟩ := hh
  rw [it1] at out
  have e2 : pureI (.cons ia .nil) = pureI ia := by show (pureI ia && true) = _; rw [Bool.and_true]
  rw [e2] at out
  refine tE_use (p2 := true) ok er out (fun z => ⟨z, rfl⟩) fun T d y ok1 l1 er1 h1 o1 => ?_
  obtain ⟨m, e1, q⟩ := wk_fin ok1 o1
  cases d <;> first | cases e1 | skip
  · obtain ⟨a, ys, rfl, hb, hr⟩ := (RV.view h1).tup
    exact ⟨a, ys, rfl, .inr ⟨SqT.of hb, hK ▸ q _ (wk_revT ok1 hr.len.symm h1)⟩⟩
  · obtain ⟨a, ys, rfl, hb, hr⟩ := (RV.view h1).lst
    exact ⟨a, ys, rfl, .inl ⟨SqL.of hb, hK ▸ q _ (wk_rev ok1 hr.len.symm h1)⟩⟩

/-! ### targets -/
theorem pgs_slots {l : List Nat} : ∀ {es : List Expr}, (∀ i, (h : i < l.length) → ∃ e, es[i]? = some e ∧ PG X e (gName l[i]) ∧ ∀ rest, (assignEach (e :: rest) X.env).map (·.2) = assign e X.env :: (assignEach rest X.env).map (·.2)) → es.length = l.length → PGs X es (gL l) := by
  induction l with
  | nil =>
    intro es _ h
    cases es with
    | nil => exact pgs_nil
    | cons _ _ => cases h
  | cons i l ih =>
    intro es h hl
    cases es with
    | nil => cases hl
    | cons e es =>
      obtain ⟨e', e1, h1, h2⟩ := h 0 (by simp)
      cases e1
      refine pgs_cons h1 (ih (fun j hj => ?_) (by simpa using hl)) (h2 es)
      obtain ⟨e2, q1, q2, q3⟩ := h (j + 1) (Nat.succ_lt_succ hj)
      exact ⟨e2, q1, q2, q3⟩

/-! ### comprehensions -/
/-- the tests of a comprehension -/
structure SndT (B : Bs) (X : Cx) (W : WX) (ifs : List Expr) (ir : IE) : Prop where
  pts : PTs X ifs (tB (tE B W true ir))
theorem _root_.L2.PTs.imp {X : Cx} {e : List Expr} {t t' : TT} (h : PTs X e t) (q : ∀ σ H Q, t' σ H Q → t σ H Q) : PTs X e t' := ⟨fun pins s σ H Q I z => h.run pins s σ H Q I (q σ H Q z)⟩
theorem snt_nil : SndT B X W [] (.con (.bl true)) := by
  refine ⟨pts_nil.imp fun σ H Q h => ?_⟩
  obtain ⟨S, env, rfl, ok, er, out⟩ := h
  obtain ⟨c, e, q⟩ := out S ok rfl (.refl _ _) (.bl true) (.inl (.bl true))
  cases e
  exact q
theorem snt_one {c : Expr} {ir : IE} (h : SndE B X W c ir) : SndT B X W [c] ir := ⟨pts_one h.pt⟩
theorem le_put {S T : WS} {p : Bool} {D : Addr} {o : HO} {ow : Ow} (ok : S.Ok B) (hn : S.H D = none) (l : S.le p T) (hw : T.w D = some ow) : S.le p (T.put D o) := by
  have hD := ok.free hn
  have ne : ∀ b x, S.w b = some x → b ≠ D := fun b x e z => by rw [z, hD] at e; cases e
  refine ⟨l.objs, by rw [chg_G hw]; exact l.same, fun b i e => ?_, fun b e => ?_, fun hp b x e => ?_⟩
  · obtain ⟨q1, q2⟩ := l.slots b i e
    exact ⟨q1, (upd_ne (ne b _ e)).trans q2⟩
  · obtain ⟨q1, q2⟩ := l.outs b e
    exact ⟨q1, (upd_ne (ne b _ e)).trans q2⟩
  · obtain ⟨q1, q2⟩ := l.keep hp b x e
    exact ⟨q1, (upd_ne (ne b _ e)).trans q2⟩
theorem le_free {S T : WS} {p : Bool} {D : Addr} {ow : Ow} (ok : S.Ok B) (hn : S.H D = none) (l : S.le p T) (hw : T.w D = some ow) (hno : ∀ n, ow ≠ .obj n) : S.le p (T.free D) := by
  have hD := ok.free hn
  have ne : ∀ b x, S.w b = some x → b ≠ D := fun b x e z => by rw [z, hD] at e; cases e
  have keep : ∀ b x, S.w b = some x → (T.free D).w b = T.w b := fun b x e => if_neg (ne b x e)
  refine ⟨fun a n e => (keep a _ e).trans (l.objs a n e), fun b o e => free_G b o (l.same b o e), fun b i e => ?_, fun b e => ?_, fun hp b x e => ?_⟩
  · obtain ⟨q1, q2⟩ := l.slots b i e
    exact ⟨(keep b _ e).trans q1, q2⟩
  · obtain ⟨q1, q2⟩ := l.outs b e
    exact ⟨(keep b _ e).trans q1, q2⟩
  · obtain ⟨q1, q2⟩ := l.keep hp b x e
    exact ⟨(keep b _ e).trans q1, q2⟩
theorem wipe_getE {e : En} : ∀ {vs : List Nat} {i : Nat} {fv : FV}, (wipeE e vs)[i]? = some (some fv) → e[i]? = some (some fv) ∧ i ∉ vs
  | [], _, _, h => ⟨h, fun z => (nomatch z)⟩
  | v :: vs, i, fv, h => by
    have h : ((wipeE e vs).set v none)[i]? = some (some fv) := h
    by_cases c : v = i
    · subst c
      rw [List.getElem?_set] at h
      split at h
      · split at h <;> cases h
      · contradiction
    · rw [List.getElem?_set_ne c] at h
      obtain ⟨h1, h2⟩ := wipe_getE h
      refine ⟨h1, fun z => ?_⟩
      rcases List.mem_cons.mp z with z | z
      · exact c z.symm
      · exact h2 z
theorem wipeE_len (e : En) : ∀ vs : List Nat, (wipeE e vs).length = e.length
  | [] => rfl
  | v :: vs => by show ((wipeE e vs).set v none).length = _; rw [List.length_set, wipeE_len e vs]
theorem erep_wipe {S : WS} {e : En} {σ : L2.St} (h : ERep B S e σ) (vs : List Nat) : ERep B S (wipeE e vs) (wipe σ vs) := by
  refine ⟨by rw [wipeE_len, wipe_length]; exact h.len, fun i fv q => ?_⟩
  obtain ⟨q1, q2⟩ := wipe_getE q
  obtain ⟨v, h1, h2⟩ := h.at_ i fv q1
  exact ⟨v, by rw [wipe_out q2]; exact h1, h2⟩
theorem wipe_idem (σ : L2.St) (vs : List Nat) : wipe (wipe σ vs) vs = wipe σ vs := by
  apply List.ext_getElem?
  intro i
  by_cases h : i ∈ vs
  · have : ∀ (τ : L2.St), τ.length = σ.length → (wipe τ vs)[i]? = if i < σ.length then some none else none := by
      intro τ hτ
      have hl : (wipe τ vs).length = σ.length := (wipe_length τ vs).trans hτ
      by_cases c : i < σ.length
      · rw [if_pos c]
        cases q : (wipe τ vs)[i]? with
        | none => rw [List.getElem?_eq_none_iff] at q; omega
        | some o =>
          cases o with
          | none => rfl
          | some x => exact absurd h (wipe_some q).2
      · rw [if_neg c, List.getElem?_eq_none_iff]; omega
    rw [this _ (wipe_length σ vs), this _ rfl]
  · rw [wipe_out h]
theorem compL_ok {fi : AV → Option En} {t g : En → AH → Ab.R AV} {x : AV} {r : List AV} {h h' : AH} {ys : List AV} (q : compL fi t g (x :: r) h = .ok ys h') :
    ∃ e', fi x = some e' ∧ ((∃ h1, t e' h = .ok (.bl false) h1 ∧ compL fi t g r h1 = .ok ys h') ∨ ∃ h1 d h2 l, t e' h = .ok (.bl true) h1 ∧ g e' h1 = .ok d h2 ∧ compL fi t g r h2 = .ok l h' ∧ ys = d :: l) := by
  unfold compL at q
  cases q1 : fi x with
  | none => rw [q1] at q; cases q
  | some e' =>
    rw [q1] at q
    refine ⟨e', rfl, ?_⟩
    cases q2 : t e' h with
    | bad => simp only [q2, R.bind_bad] at q; cases q
    | exc c h => simp only [q2, R.bind_exc] at q; cases q
    | ok b h1 =>
      simp only [q2, R.bind_ok] at q
      cases b <;> first | cases q | skip
      rename_i b
      cases b with
      | false => exact .inl ⟨h1, rfl, q⟩
      | true =>
        simp only at q
        cases q3 : g e' h1 with
        | bad => simp only [q3, R.bind_bad] at q; cases q
        | exc c h => simp only [q3, R.bind_exc] at q; cases q
        | ok d h2 =>
          simp only [q3, R.bind_ok] at q
          cases q4 : compL fi t g r h2 with
          | bad => simp only [q4, R.bind_bad] at q; cases q
          | exc c h => simp only [q4, R.bind_exc] at q; cases q
          | ok l h3 =>
            simp only [q4, R.bind_ok] at q
            cases q
            exact .inr ⟨h1, d, h2, l, rfl, q3, q4, rfl⟩
def W0 : WX := fun _ _ _ _ => False
theorem lc_read {it : Ab.It} {src t g : IE} {tgi : Tg} {vs : List Nat} {v : Bool} (hK : X.K = B.K) (ho : ∀ i ∈ tgIx tgi, i ∈ vs) : ∀ σ H Q, tE B W v (.comp it src tgi t g vs) σ H Q →
    tLc (tI B W (pureI t && pureI g) it src) (tgR X.K tgi) (tB (tE B W0 true t)) (tE B W0 false g) vs σ H Q := by
  intro σ H Q h
  obtain ⟨S, env, rfl, ok, er, out⟩ := h
  generalize hp : (pureI t && pureI g) = p
  have out : Outs B S (pureI src && p) (RV B v) (WE B W σ) (((ev p src env S.ah).bind (itR it)).bind fun l h1 => noExc (compL (fun x => setTg tgi x (wipeE env vs)) (ev true t) (ev false g) l h1)) Q := by
    rw [← hp]; exact out
  refine ⟨S, env, rfl, ok, er, Outs.bind (p1 := pureI src) (p2 := p) out (fun z => and2 z) fun S0 l J ok0 l0 wk _ o0 => fun D hD => ?_⟩
  have o0 : Outs B S0 p (RV B v) (WE B W σ) (noExc (compL (fun x => setTg tgi x (wipeE env vs)) (ev true t) (ev false g) l S0.ah)) Q := o0
  generalize hfi : (fun x => setTg tgi x (wipeE env vs)) = fi at o0
  have er0 := er.mono l0
  let Rest : WS → List AV → List AV → Prop := fun S' ds r => ∃ ys ah, compL fi (ev true t) (ev false g) r S'.ah = .ok ys ah ∧ ∀ T : WS, T.Ok B → T.ah = ah → S0.le p T → T.w D = some .out → (∃ acc, T.H D = some (.lst acc) ∧ T.Rs B (ds ++ ys) acc) → Q (.ref D) T.H
  let Wv : Nat → Nat → Hp → Prop := fun i m H' => ∃ (S' : WS) (ds : List AV), S'.H = H' ∧ S'.Ok B ∧ S0.le p S' ∧ S'.w D = some .out ∧ (∃ acc, S'.H D = some (.lst acc) ∧ S'.Rs B ds acc) ∧ ds.length ≤ i ∧ i ≤ l.length ∧ m = l.length - i ∧ Rest S' ds (l.drop i)
  refine ⟨Wv, ⟨l.length, S0.add D (.lst []) .out, [], rfl, add_ok ok0 hD (fun xs e => by cases e; exact Nat.zero_le _) (fun xs e => by cases e) (fun _ _ e => by cases e) (fun _ e => by cases e), add_le ok0 hD p, add_at, ⟨[], upd_same, .nil⟩, Nat.le_refl _, Nat.zero_le _, rfl, ?_⟩, ?_⟩
  · rw [List.drop_zero]
    show ∃ ys ah, compL fi (ev true t) (ev false g) l S0.ah = .ok ys ah ∧ _
    cases q : compL fi (ev true t) (ev false g) l S0.ah with
    | bad => rw [q] at o0; exact o0.elim
    | exc c h => rw [q] at o0; exact o0.elim
    | ok ys ah =>
      refine ⟨ys, ah, rfl, fun T okT e lT hw ⟨acc, ha, hr⟩ => ?_⟩
      rw [q] at o0
      have o0 : Outs B S0 p (RV B v) (WE B W σ) (.ok (.lst ys) ah) Q := o0
      refine o0 (T.free D) (free_ok okT hw (fun _ e => by cases e) (fun _ _ e => by cases e)) e (le_free ok0 hD lT hw (fun _ e => by cases e)) (.ref D) (RV.of (.lst (free_at ha) ?_))
      exact fo_reps (hr.imp fun _ _ z => free_rep hw (fun _ e => by cases e) z)
  · rintro i m H' ⟨S', ds, rfl, ok', le', hw, ⟨acc, ha, hr⟩, hdl, hil, rfl, ys, ah, hcl, fin⟩
    by_cases hi : i = l.length
    · left
      refine ⟨hi ▸ wk.stop S' ok' le'.lk, ?_⟩
      rw [hi, List.drop_length] at hcl
      cases hcl
      exact fin S' ok' rfl le' hw ⟨acc, ha, by rw [List.append_nil]; exact hr⟩
    · right
      have hlt : i < l.length := by omega
      rw [List.drop_eq_getElem_cons hlt] at hcl
      obtain ⟨go, yl⟩ := wk.go S' i ok' le'.lk l[i] (List.getElem?_eq_getElem hlt)
      refine ⟨go, Wv (i + 1) (l.length - (i + 1)), fun H' z => ⟨_, by omega, z⟩, fun x H' hy => ?_⟩
      obtain ⟨U, rfl, okU, lU, eU, rU⟩ := yl x H' hy
      obtain ⟨e', hfi', hc⟩ := compL_ok hcl
      rw [← hfi] at hfi'
      have erU : ERep B U (wipeE env vs) (wipe σ vs) := erep_wipe ((er0.mono le').mono lU) vs
      refine tg_use hK hfi' rU erU fun σ' er' hw' => ⟨(hw' vs ho).trans (wipe_idem σ vs), ?_⟩
      have le0 : ∀ {q : Bool} {T : WS}, S'.le q T → (p = true → q = true) → S0.le p T := fun h z => le'.trans h fun y => ⟨y, z y⟩
      refine ⟨U, e', rfl, okU, er', ?_⟩
      have hpt : p = true → pureI t = true ∧ pureI g = true := fun z => and2 (hp.trans z)
      rcases hc with ⟨h1, q1, q2⟩ | ⟨h1, d, h2, l', q1, q2, q3, rfl⟩
      · rw [eU, q1]
        intro T1 ok1 e1 l1 y hy
        cases hy.bl
        refine ⟨false, rfl, ?_⟩
        show Wv (i + 1) (l.length - (i + 1)) T1.H
        have lT := lU.trans (r := pureI t) l1 fun z => ⟨rfl, z⟩
        obtain ⟨o1, o2⟩ := lT.outs D hw
        refine ⟨T1, ds, rfl, ok1, le0 lT fun z => (hpt z).1, o1, ⟨acc, o2.trans ha, lT.reps hr⟩, by omega, by omega, rfl, ys, ah, by rw [e1]; exact q2, fin⟩
      · rw [eU, q1]
        intro T1 ok1 e1 l1 y hy
        cases hy.bl
        refine ⟨true, rfl, ?_⟩
        show tE B W0 false g σ' T1.H _
        refine ⟨T1, e', rfl, ok1, er'.mono l1, ?_⟩
        rw [e1, q2]
        intro T2 ok2 e2 l2 y hy
        have lT := (lU.trans (r := pureI t) l1 fun z => ⟨rfl, z⟩).trans (r := p) l2 fun z => hpt z
        obtain ⟨o1, o2⟩ := lT.outs D hw
        have hacc : acc.length ≤ i := by rw [← hr.len]; exact hdl
        have hsz := wk.sz
        refine ⟨acc, o2.trans ha, by rw [← LIM_line]; omega, T2.put D (.lst (acc ++ [y])), ds ++ [d], rfl, ?_, ?_, o1, ⟨acc ++ [y], upd_same, ?_⟩, by rw [List.length_append]; simp; omega, by omega, rfl, l', ah, ?_, fun T okT eT lT hwT ⟨a2, h3, h4⟩ => fin T okT eT lT hwT ⟨a2, h3, by rw [List.append_assoc] at h4; exact h4⟩⟩
        · exact chg_ok ok2 o1 (fun _ e => by cases e) (fun _ _ e => by cases e) (fun xs e => by cases e; rw [List.length_append]; simp; omega) (fun xs e => by cases e) (fun _ _ e => by cases e)
        · exact le_put ok0 hD (le0 lT fun z => z) o1
        · exact ((lT.reps hr).app (.cons hy .nil)).imp fun _ _ z => chg_rep o1 z
        · show compL fi (ev true t) (ev false g) (l.drop (i + 1)) T2.ah = _
          rw [e2]; exact q3
theorem snd_comp {elt tg iter : Expr} {ifs : List Expr} {scope : Scope} {own : List (Str × Nat)} {pos : Pos} {it : Ab.It} {src t g : IE} {tgi : Tg}
    (hK : X.K = B.K) (hc : X.calm = true) (hN : X.N.Nodup) (hi : SndI B X W tg iter it src) (bo : BlkOk X.N X.env.scope scope own)
    (hg : ∀ (s : Shared) (H : Hp) (C : Addr) (cl : List (Str × Addr)) (fp : List Addr), PG (X.blk s H scope (compEnvC scope cl C X.env) fp) tg (tgR X.K tgi))
    (ht : ∀ (s : Shared) (H : Hp) (C : Addr) (cl : List (Str × Addr)) (fp : List Addr), SndT B (X.blk s H scope (compEnvC scope cl C X.env) fp) W0 ifs t)
    (he : ∀ (s : Shared) (H : Hp) (C : Addr) (cl : List (Str × Addr)) (fp : List Addr), SndE B (X.blk s H scope (compEnvC scope cl C X.env) fp) W0 elt g)
    (ho : ∀ i ∈ tgIx tgi, i ∈ own.map (·.2)) (hs : ∀ x, foldedSetIterable iter X.env x = pure x) : SndE B X W (.ListComp elt [⟨tg, iter, ifs, 0⟩] scope pos) (.comp it src tgi t g (own.map (·.2))) := by
  refine .plain (fun v => (pe_lc hc hN (hi (pureI t && pureI g)) bo hg (fun s H C cl fp => (ht s H C cl fp).pts) (fun s H C cl fp => (he s H C cl fp).pe false) hs).imp (lc_read hK ho)) rfl
end
end Ab

set_option autoImplicit false
set_option maxHeartbeats 4000000
/-! AbG: times; membership in a constant; fields, methods, makes. -/
namespace Ab
open PySem PySem.Spec PyProof.Rows L2

theorem tuple_mulS (l : Addr) (items : Array Value) (n : Nat) (dd : Option Addr) (sl : Array (Option Value)) (x : Int) (u : Tok) (c0 : (decide (x < -(2 ^ 63)) || decide (x ≥ 2 ^ 63)) = false) (c1 : (items.isEmpty || x == 1) = true) :
    Meets (Builtin.«tuple.__mul__» ⟨[.ref l, .int x u], []⟩) (fun _ R s => s.heap.get? l = some { cls := .type "tuple", dict := dd, data := .seq items n, slots := sl } ∧ R (.ok (.ret (Value.ref l))) s) :=
  .of_wp fun prog w A R s h => by
    obtain ⟨hp, g, d, tk, os⟩ := s
    obtain ⟨hl, h⟩ := h
    have f1 := AutoSeq1.idx_int
    wp_walk using wpAny_loadPart' hl
    repeat (first
      | (refine wpAny_ite_false (decide_eq_false (by rw [c0]; exact Bool.false_ne_true)) ?_; wp_walk using wpAny_loadPart' hl)
      | (refine wpAny_ite_true (decide_eq_true c1) ?_; wp_walk using wpAny_loadPart' hl))
    exact ⟨_, rfl, h⟩
theorem tuple_mulZ (l : Addr) (items : Array Value) (n : Nat) (dd : Option Addr) (sl : Array (Option Value)) (x : Int) (u : Tok) (c0 : (decide (x < -(2 ^ 63)) || decide (x ≥ 2 ^ 63)) = false) (c1 : (items.isEmpty || x == 1) = false) (c2 : (decide (x ≤ 0) || items.isEmpty) = true) :
    Meets (Builtin.«tuple.__mul__» ⟨[.ref l, .int x u], []⟩) (fun _ R s => s.heap.get? l = some { cls := .type "tuple", dict := dd, data := .seq items n, slots := sl } ∧
      R (.ok (.ret (Value.ref s.heap.objs.size))) { s with heap := s.heap.push { cls := Value.type "tuple", data := Data.seq #[] }, toks := s.toks }) :=
  .of_wp fun prog w A R s h => by
    obtain ⟨hp, g, d, tk, os⟩ := s
    obtain ⟨hl, h⟩ := h
    have f1 := AutoSeq1.idx_int
    wp_walk using wpAny_loadPart' hl
    repeat (first
      | (refine wpAny_ite_false (decide_eq_false (by rw [c0]; exact Bool.false_ne_true)) ?_; wp_walk using wpAny_loadPart' hl)
      | (refine wpAny_ite_false (decide_eq_false (by rw [c1]; exact Bool.false_ne_true)) ?_; wp_walk using wpAny_loadPart' hl)
      | (refine wpAny_ite_true (decide_eq_true c2) ?_; wp_walk using wpAny_loadPart' hl))
    exact ⟨_, rfl, h⟩
section
variable {B : Bs} {X : Cx} {W : WX}
def rMulT (K : PySem.W.Frag) : R2 := fun x y H Q => ∃ l k xs, x = .ref l ∧ y = .int k ∧ SqT K H l xs ∧ -1000 ≤ k ∧ k ≤ 1000 ∧ xs.length ≤ 1000 ∧ ((xs = [] ∨ k = 1) → Q (.ref l) H) ∧ (¬ (xs = [] ∨ k = 1) → ∀ p, H p = none → Q (.ref p) (upd H p (.tup (List.replicate k.toNat xs).flatten)))
theorem op_mulT : OpR X (binaryOp .Mult) (rMulT X.K) := by
  intro pins s σ H x y v u Q I rx ry h
  obtain ⟨l, k, xs, rfl, rfl, hT, h1, h2, hz, q1, q2⟩ := h
  by_cases c : xs = [] ∨ k = 1
  · -- the same object
    cases rx
    obtain ⟨t, rfl⟩ := ry
    obtain ⟨its, r, ⟨⟨cls, dd, data, sl⟩, ho, hc, n, hd⟩, hs⟩ := I.tuple hT
    simp only at hc hd
    subst hc hd
    have c0 : (decide (k < -(2 ^ 63)) || decide (k ≥ 2 ^ 63)) = false := by
      rw [decide_eq_false (by omega), decide_eq_false (by omega)] <;> rfl
    have c1 : (its.toArray.isEmpty || k == 1) = true := by
      rcases c with z | z
      · subst z
        cases r
        rfl
      · subst z; simp
    exact wpAny_binaryOp_repeat_ref (T := "tuple") (U := "int") (by decide) ⟨_, ho, rfl⟩ (fun s' => typeIs_int s' k t) noFill_tuple_mul F.fills_int_mul F.slot_int_rmul repeat_tuple F.slot_int_index.lookup
      (call_meets F.slot_int_rmul (typeIs_int s k t) F.entry_int_rmul (F.args_int_rmul_2 _ _) (int_rmul_tuple k t l its.toArray n dd sl)
        ⟨ho, rfl, ⟨_, ho, rfl⟩, call_meets F.slot_tuple_mul ⟨_, ho, rfl⟩ F.entry_tuple_mul (F.args_tuple_mul_2 _ _) (tuple_mulS l its.toArray n dd sl k t c0 c1) ⟨ho, ⟨.ref l, H, I, rfl, q1 c⟩⟩⟩)
  · by_cases c2 : k ≤ 0
    · cases rx
      obtain ⟨t, rfl⟩ := ry
      obtain ⟨its, r, ⟨⟨cls, dd, data, sl⟩, ho, hc, n, hd⟩, hs⟩ := I.tuple hT
      simp only at hc hd
      subst hc hd
      have c0 : (decide (k < -(2 ^ 63)) || decide (k ≥ 2 ^ 63)) = false := by
        rw [decide_eq_false (by omega), decide_eq_false (by omega)] <;> rfl
      have c1 : (its.toArray.isEmpty || k == 1) = false := by
        have hn : its ≠ [] := fun e => c (.inl (by
          have := r.length
          rw [e] at this
          exact List.eq_nil_of_length_eq_zero this))
        have hi : its.toArray.isEmpty = false := by
          cases its with
          | nil => exact absurd rfl hn
          | cons a b => rfl
        rw [hi, Bool.false_or]
        exact beq_eq_false_iff_ne.mpr (fun z => c (.inr z))
      have c3 : (decide (k ≤ 0) || its.toArray.isEmpty) = true := by rw [decide_eq_true c2]; rfl
      have q2 := q2 c s.heap.objs.size (I.hok.fresh (Nat.le_refl _))
      have e0 : k.toNat = 0 := by omega
      rw [e0] at q2
      exact wpAny_binaryOp_repeat_ref (T := "tuple") (U := "int") (by decide) ⟨_, ho, rfl⟩ (fun s' => typeIs_int s' k t) noFill_tuple_mul F.fills_int_mul F.slot_int_rmul repeat_tuple F.slot_int_index.lookup
        (call_meets F.slot_int_rmul (typeIs_int s k t) F.entry_int_rmul (F.args_int_rmul_2 _ _) (int_rmul_tuple k t l its.toArray n dd sl)
          ⟨ho, rfl, ⟨_, ho, rfl⟩, call_meets F.slot_tuple_mul ⟨_, ho, rfl⟩ F.entry_tuple_mul (F.args_tuple_mul_2 _ _) (tuple_mulZ l its.toArray n dd sl k t c0 c1 c3)
            ⟨ho, ⟨.ref s.heap.objs.size, _, I.laid (t' := s.toks) (o := .tup []) (fun b ob q => Heap.get?_push_of_some _ q) (Nat.le_refl _) ⟨Nat.zero_le _, _, .nil, IsTup.new _ _⟩, rfl, q2⟩⟩⟩)
    · exact op_repT pins s σ H _ _ v u Q I rx ry ⟨l, k, xs, rfl, rfl, hT, fun z => c (.inl z), by
        have : k ≠ 1 := fun z => c (.inr z)
        omega, h2, hz, q2 c⟩
def repS (s : Str) (k : Int) : Str := ⟨(List.replicate k.toNat s.cps.toList).flatten.toArray⟩
theorem foldl_nat (its : List Nat) : ∀ (k : Nat) (acc : List Nat), List.foldl (fun x1 x2 => x1 ++ x2) acc.toArray (List.replicate k its.toArray) = (acc ++ (List.replicate k its).flatten).toArray
  | 0, acc => by simp
  | k + 1, acc => by
    rw [List.replicate_succ, List.foldl_cons, List.append_toArray, foldl_nat its k, List.replicate_succ, List.flatten_cons, List.append_assoc]
theorem repS_len (s : Str) (k : Int) : (repS s k).length = k.toNat * s.length := by
  show (List.replicate k.toNat s.cps.toList).flatten.toArray.size = _
  rw [List.size_toArray, lm_len_rep_flat, Array.length_toList]
  rfl
def rMulS : R2 := fun x y H Q => ∃ s k, x = .str s ∧ y = .int k ∧ -1000 ≤ k ∧ k ≤ 1000 ∧ s.length ≤ 1000 ∧ Q (.str (repS s k)) H
theorem op_mulS : OpR X (binaryOp .Mult) rMulS := by
  intro pins s σ H x y v u Q I rx ry h
  obtain ⟨a, k, rfl, rfl, h1, h2, hz, q⟩ := h
  obtain ⟨t, rfl⟩ := rx
  obtain ⟨t', rfl⟩ := ry
  have hl : k.toNat * a.length ≤ 1000 * 1000 := Nat.mul_le_mul (by omega) hz
  have hl' : a.length * k.toNat ≤ 1000 * 1000 := by rw [Nat.mul_comm]; exact hl
  have e2 : (⟨(List.replicate k.toNat a.cps).foldl (· ++ ·) #[]⟩ : Str) = repS a k := by
    have := foldl_nat a.cps.toList k.toNat []
    rw [List.nil_append] at this
    show (⟨_⟩ : Str) = ⟨_⟩
    rw [← this]
  refine PySem.P.mul_str (by rw [decide_eq_false (by omega), decide_eq_false (by omega)] <;> rfl) (fun c1 c2 c3 => ?_) (fun c1 c2 => ?_) ?_
  · have hk : 1 ≤ k := by omega
    have h3 : (a.length : Int) * k ≤ 1000 * 1000 := Int.mul_le_mul (by omega) h2 (by omega) (by omega)
    have := Int.le_ediv_of_mul_le (a := (a.length : Int)) (b := (2 ^ 63 - 1)) (c := k) (by omega) (by omega)
    omega
  · unfold Builtin.Str.tooLong
    rw [sizeLine_eq]
    exact decide_eq_false (by omega)
  · by_cases c : k < 1
    · rw [if_pos c]
      refine ⟨by decide, ⟨.str (repS a k), H, I.tok _, ⟨s.toks, ?_⟩, q⟩⟩
      have e0 : k.toNat = 0 := by omega
      unfold repS
      rw [e0]
      rfl
    · rw [if_neg c]
      by_cases c2 : (k == 1 || a.length == 0) = true
      · rw [if_pos c2]
        have e3 : repS a k = a := by
          rw [Bool.or_eq_true] at c2
          rcases c2 with z | z
          · have : k = 1 := by simpa using z
            subst this
            show (⟨(List.replicate 1 a.cps.toList).flatten.toArray⟩ : Str) = a
            simp
          · have z : a.cps.size = 0 := by simpa [Str.length] using z
            have z' : a.cps = #[] := Array.eq_empty_of_size_eq_zero z
            have : a = ⟨#[]⟩ := by cases a; simpa using z'
            subst this
            unfold repS
            simp
        refine ⟨.str (repS a k), H, I, ⟨t, by rw [e3]⟩, q⟩
      · rw [if_neg c2]
        rw [e2]
        refine ⟨?_, ⟨.str (repS a k), H, I.tok _, ⟨s.toks, rfl⟩, q⟩⟩
        rw [repS_len, sizeLine_eq]
        omega
theorem fo_flat {α β : Type} {r : α → β → Prop} {l : List α} {m : List β} (h : Fo r l m) : ∀ n : Nat, Fo r (List.replicate n l).flatten (List.replicate n m).flatten
  | 0 => .nil
  | n + 1 => by
    rw [List.replicate_succ, List.replicate_succ, List.flatten_cons, List.flatten_cons]
    exact h.app (fo_flat h n)
theorem snd_mul {a b : Expr} {ia ib : IE} {pos : Pos} (hK : X.K = B.K) (ha : SndE B X W a ia) (hb : SndE B X W b ib) : SndE B X W (.BinOp a .Mult b pos) (.bin .mul ia ib) := by
  have hop : OpR X (binaryOp .Mult) (fun x y H Q => rI CMul (fun i j => .int (i * j)) x y H Q ∨ rMulT X.K x y H Q ∨ rMulS x y H Q ∨ rRep x y H Q) := op_mul.or (op_mulT.or (op_mulS.or op_rep))
  have main : ∀ v, PE X (.BinOp a .Mult b pos) (tE B W v (.bin .mul ia ib)) := fun v => by
    have hpe := pe_op (pos := pos) hop (ha.pe (pureI ib)) (hb.pe true)
    refine hpe.imp (two (k := doBin .mul) hpe (fun _ _ => rfl) rfl fun S x y xv yv Q E ok hx hy out => ?_)
    cases x <;> cases y <;> first | exact out.elim | skip
    · rename_i i j
      cases hx.int; cases hy.int
      have out : Outs B S true (RV B v) E (if (-(2 ^ 64) < i ∧ i < 2 ^ 64) ∨ (-(2 ^ 64) < j ∧ j < 2 ^ 64) then .ok (.int (i * j)) S.ah else .bad) Q := out
      by_cases c : (-(2 ^ 64) < i ∧ i < 2 ^ 64) ∨ (-(2 ^ 64) < j ∧ j < 2 ^ 64)
      · rw [if_pos c] at out
        exact .inl ⟨i, j, rfl, rfl, c, fin_rv ok (.int _) out⟩
      · rw [if_neg c] at out; exact out.elim
    · rename_i s k
      obtain ⟨rfl, hs⟩ := hx.str
      cases hy.int
      have out : Outs B S true (RV B v) E (if s.length ≤ 1000 ∧ -1000 ≤ k ∧ k ≤ 1000 then .ok (.str (repS s k)) S.ah else .bad) Q := out
      by_cases c : s.length ≤ 1000 ∧ -1000 ≤ k ∧ k ≤ 1000
      · rw [if_pos c] at out
        refine .inr (.inr (.inl ⟨s, k, rfl, rfl, c.2.1, c.2.2, c.1, fin_rv ok (.str _ (strOk_sub hs fun x hx => ?_)) out⟩))
        have hx : x ∈ (List.replicate k.toNat s.cps.toList).flatten := hx
        obtain ⟨l, hl, hx⟩ := List.mem_flatten.mp hx
        rw [(List.mem_replicate.mp hl).2] at hx
        exact hx
      · rw [if_neg c] at out; exact out.elim
    · rename_i l k
      have hx' := tup_rep hx
      obtain ⟨p, xs, rfl, h1, r1⟩ := hx.tup
      cases hy.int
      have out : Outs B S true (RV B v) E (if l.length ≤ 1000 ∧ -1000 ≤ k ∧ k ≤ 1000 then .ok (.tup (List.replicate k.toNat l).flatten) S.ah else .bad) Q := out
      by_cases c : l.length ≤ 1000 ∧ -1000 ≤ k ∧ k ≤ 1000
      · rw [if_pos c] at out
        have hz : xs.length ≤ 1000 := by rw [← r1.len]; exact c.1
        refine .inr (.inl ⟨p, k, xs, rfl, rfl, SqT.of h1, c.2.1, c.2.2, hz, fun z => ?_, fun z q hq => fin_tup ok hq ?_ (fo_flat r1 _) out⟩)
        · have : (List.replicate k.toNat l).flatten = l := by
            rcases z with z | z
            · have : l = [] := List.eq_nil_of_length_eq_zero (by rw [r1.len, z]; rfl)
              subst this
              simp
            · subst z
              show (List.replicate 1 l).flatten = l
              simp
          rw [this] at out
          exact fin_rv ok hx' out
        · rw [lm_len_rep_flat]
          have := Nat.mul_le_mul (show k.toNat ≤ 1000 by omega) hz
          show _ ≤ 16777216
          omega
      · rw [if_neg c] at out; exact out.elim
    · rename_i l k
      obtain ⟨p, xs, rfl, h1, r1⟩ := hx.lst
      cases hy.int
      have out : Outs B S true (RV B v) E (if l.length ≤ 1000 ∧ -1000 ≤ k ∧ k ≤ 1000 then .ok (.lst (List.replicate k.toNat l).flatten) S.ah else .bad) Q := out
      by_cases c : l.length ≤ 1000 ∧ -1000 ≤ k ∧ k ≤ 1000
      · rw [if_pos c] at out
        have hz : xs.length ≤ 1000 := by rw [← r1.len]; exact c.1
        have hm := Nat.mul_le_mul hz (show k.toNat ≤ 1000 by omega)
        refine .inr (.inr (.inr ⟨p, k, xs, rfl, rfl, h1, by omega, by omega, by rw [sizeLine_eq]; omega, fun q hq => fin_lst ok hq ?_ (fo_flat r1 _) out⟩))
        rw [lm_len_rep_flat, Nat.mul_comm]
        show _ ≤ 16777216
        omega
      · rw [if_neg c] at out; exact out.elim
  exact .plain main rfl
end
end Ab

set_option autoImplicit false
set_option maxHeartbeats 4000000
/-! AbH: statements. -/
namespace Ab
open PySem PySem.Spec PyProof.Rows L2

def OutS (B : Bs) (W : WX) (S : WS) (D : Ends) : RS → Prop
  | .nx e h => ∀ (T : WS) (σ : L2.St), T.Ok B → T.ah = h → S.leS T → ERep B T e σ → D.nx σ T.H
  | .brk e h => ∀ (T : WS) (σ : L2.St), T.Ok B → T.ah = h → S.leS T → ERep B T e σ → D.bk σ T.H
  | .cnt e h => ∀ (T : WS) (σ : L2.St), T.Ok B → T.ah = h → S.leS T → ERep B T e σ → D.ct σ T.H
  | .ret d h => ∀ (T : WS) (x : V), T.Ok B → T.ah = h → S.leS T → T.R B d x → D.rt x T.H
  | .exc c e h => ∀ (T : WS) (σ : L2.St), T.Ok B → T.ah = h → S.leS T → ERep B T e σ → WE B W σ c T.H
  | .bad => False
def tS (B : Bs) (W : WX) (ir : IS) : TS := fun D σ H => ∃ (S : WS) (env : En), S.H = H ∧ S.Ok B ∧ ERep B S env σ ∧ OutS B W S D (ex ir env S.ah)
section
variable {B : Bs} {X : Cx} {W : WX} {D : Ends}
theorem OutS.mono {S T : WS} {r : RS} (h : OutS B W S D r) (l : S.leS T) : OutS B W T D r := by
  cases r with
  | nx e a => exact fun U σ ok e l2 er => h U σ ok e (l.trans l2) er
  | brk e a => exact fun U σ ok e l2 er => h U σ ok e (l.trans l2) er
  | cnt e a => exact fun U σ ok e l2 er => h U σ ok e (l.trans l2) er
  | ret d a => exact fun U σ ok e l2 er => h U σ ok e (l.trans l2) er
  | exc c e a => exact fun U σ ok e l2 er => h U σ ok e (l.trans l2) er
  | bad => exact h
theorem OutS.thn {S : WS} {p : Bool} {α β : Type} {rel : WS → α → β → Prop} {r : Ab.R α} {e : En} {σ : L2.St} {k : α → AH → RS} {Q1 : β → Hp → Prop} (h : OutS B W S D (r.thn e k)) (er : ERep B S e σ)
    (hQ : ∀ (T : WS) d x, T.Ok B → S.le p T → rel T d x → r = .ok d T.ah → OutS B W T D (k d T.ah) → Q1 x T.H) : Outs B S p rel (WE B W σ) r Q1 := by
  cases r with
  | bad => exact h
  | exc c a => exact fun T ok e l => h T σ ok e l.s (er.mono l)
  | ok d a =>
    intro T ok e l x hx
    subst e
    exact hQ T d x ok l hx rfl (OutS.mono (show OutS B W S D (k d T.ah) from h) l.s)
theorem tE_s {S : WS} {env : En} {σ : L2.St} {v : Bool} {ia : IE} {k : AV → AH → RS} {Q1 : VK} (ok : S.Ok B) (er : ERep B S env σ) (out : OutS B W S D ((ev v ia env S.ah).thn env k))
    (hQ : ∀ (T : WS) d x, T.Ok B → S.le (pureI ia) T → ERep B T env σ → RV B v T d x → OutS B W T D (k d T.ah) → Q1 x T.H) : tE B W v ia σ S.H Q1 :=
  ⟨S, env, rfl, ok, er, OutS.thn out er fun T d x ok1 l1 h1 _ o1 => hQ T d x ok1 l1 (er.mono l1) h1 o1⟩
def SndS (B : Bs) (X : Cx) (W : WX) (st : Stmt) (ir : IS) : Prop := PS X st (tS B W ir)
def SndSs (B : Bs) (X : Cx) (W : WX) (sts : List Stmt) (ir : IS) : Prop := PSs X sts (tS B W ir)
theorem _root_.L2.PS.imp {X : Cx} {st : Stmt} {t t' : TS} (h : PS X st t) (q : ∀ D σ H, t' D σ H → t D σ H) : PS X st t' := ⟨fun pins s σ H D I z => h.run pins s σ H D I (q D σ H z)⟩
theorem _root_.L2.PSs.imp {X : Cx} {st : List Stmt} {t t' : TS} (h : PSs X st t) (q : ∀ D σ H, t' D σ H → t D σ H) : PSs X st t' := ⟨fun pins s σ H D I z => h.run pins s σ H D I (q D σ H z)⟩
theorem _root_.L2.PS.or {X : Cx} {st : Stmt} {t t' : TS} (h : PS X st t) (h' : PS X st t') : PS X st (fun D σ H => t D σ H ∨ t' D σ H) := ⟨fun pins s σ H D I z => z.elim (h.run pins s σ H D I) (h'.run pins s σ H D I)⟩

/-! ### blocks -/
theorem nx_skip {S : WS} {env : En} {σ : L2.St} (ok : S.Ok B) (er : ERep B S env σ) (h : OutS B W S D (.nx env S.ah)) : D.nx σ S.H := h S σ ok rfl (.refl S) er
theorem sns_nil : SndSs B X W [] .skip := by
  refine pss_nil.imp fun D σ H h => ?_
  obtain ⟨S, env, rfl, ok, er, out⟩ := h
  exact nx_skip ok er out
theorem seq_read {a b : IS} {σ : L2.St} {H : Hp} (h : tS B W (.seq a b) D σ H) : tS B W a { D with nx := tS B W b D } σ H := by
  obtain ⟨S, env, rfl, ok, er, out⟩ := h
  refine ⟨S, env, rfl, ok, er, ?_⟩
  have out : OutS B W S D ((ex a env S.ah).seq (ex b)) := out
  cases q : ex a env S.ah with
  | nx e h =>
    rw [q] at out
    have out : OutS B W S D (ex b e h) := out
    intro T τ okT eT l er'
    subst eT
    exact ⟨T, e, rfl, okT, er', out.mono l⟩
  | brk e h => rw [q] at out; exact out
  | cnt e h => rw [q] at out; exact out
  | ret e h => rw [q] at out; exact out
  | exc c e h => rw [q] at out; exact out
  | bad => rw [q] at out; exact out
theorem sns_cons {st : Stmt} {sts : List Stmt} {a b : IS} (ha : SndS B X W st a) (hb : SndSs B X W sts b) : SndSs B X W (st :: sts) (.seq a b) :=
  (pss_cons ha hb).imp fun D σ H h => seq_read h
theorem sns_one {st : Stmt} {a : IS} (ha : SndS B X W st a) : SndSs B X W [st] a := pss_one ha
/-- a step of the proof's own behind a statement, ahead of one -/
theorem frz_read {i : Nat} {σ : L2.St} {H : Hp} (h : tS B W (.frz i) D σ H) : D.nx σ H := by
  obtain ⟨S, env, rfl, ok, er, out⟩ := h
  have plain : OutS B W S D (.nx env S.ah) → D.nx σ S.H := nx_skip ok er
  have out : OutS B W S D (match env[i]? with | some (some (.own c)) => .nx (env.set i (some (.val c))) S.ah | _ => .nx env S.ah) := out
  cases q : env[i]? with
  | none => rw [q] at out; exact plain out
  | some o =>
    cases o with
    | none => rw [q] at out; exact plain out
    | some fv =>
      cases fv with
      | val d => rw [q] at out; exact plain out
      | gone => rw [q] at out; exact plain out
      | exc _ => rw [q] at out; exact plain out
      | own c =>
        rw [q] at out
        obtain ⟨v, hv, b, rfl, hb, hc⟩ := er.at_ i _ q
        have no : ∀ n, Ow.slot i ≠ .obj n := fun _ z => nomatch z
        have ne : ∀ a x, S.w a = some x → x ≠ .slot i → a ≠ b := fun a x e n z => by rw [z, hb] at e; exact n (Option.some.inj e).symm
        have keep : ∀ a x, S.w a = some x → x ≠ .slot i → (S.free b).w a = some x := fun a x e n => (if_neg (ne a x e n)).trans e
        refine out (S.free b) σ (free_ok ok hb no fun _ _ z => nomatch z) rfl ⟨fun a n e => keep a _ e (fun z => (nomatch z)), free_G, fun a e => ⟨keep a _ e (fun z => (nomatch z)), rfl⟩⟩ ?_
        have cont : ∀ {c : AV} {a : Addr}, S.C B c a → (S.free b).C B c a := fun {c a} h => by
          have ob : ∀ a n, S.w a = some (.obj n) → (S.free b).w a = some (.obj n) := fun a n e => keep a _ e fun z => nomatch z
          cases h with
          | lst q t => exact .lst q (Reps.mono ob free_G t)
          | dk q k t => exact .dk q k (Reps.mono ob free_G t)
          | dt q k t => exact .dt q k (Reps.mono ob free_G t)
        refine ⟨by rw [List.length_set]; exact er.len, fun j fv' e => ?_⟩
        by_cases hj : i = j
        · subst hj
          have hl : i < env.length := (List.getElem?_eq_some_iff.mp q).1
          rw [List.getElem?_set_self hl] at e
          cases e
          refine ⟨_, hv, ?_⟩
          show (S.free b).R B c (.ref b)
          have ob : ∀ a n, S.w a = some (.obj n) → (S.free b).w a = some (.obj n) := fun a n e => keep a _ e fun z => nomatch z
          cases hc with
          | lst q t => exact .lst (free_at q) (Reps.mono ob free_G t)
          | dk q k t => exact .dk (.inl (free_at q)) k (Reps.mono ob free_G t)
          | dt q k t => exact .dt (.inl (free_at q)) k (Reps.mono ob free_G t)
        · rw [List.getElem?_set_ne hj] at e
          obtain ⟨v, h1, h2⟩ := er.at_ j fv' e
          refine ⟨v, h1, ?_⟩
          cases fv' with
          | val d => exact free_rep hb no h2
          | gone => exact trivial
          | exc _ => first | exact trivial | exact h2 | exact e2 | exact h
          | own c' =>
            obtain ⟨b', rfl, hb', hc'⟩ := h2
            exact ⟨b', rfl, keep b' _ hb' (fun z => by cases z; exact hj rfl), cont hc'⟩
theorem sns_pre {sts : List Stmt} {i : Nat} {a : IS} (h : SndSs B X W sts a) : SndSs B X W sts (.seq (.frz i) a) := PSs.imp h fun D σ H z => frz_read (D := { D with nx := tS B W a D }) (seq_read z)
theorem sns_post {st : Stmt} {i : Nat} {a : IS} (h : SndS B X W st a) : SndS B X W st (.seq a (.frz i)) := by
  have h' := PSs.imp (sns_one h) (t' := tS B W (.seq a (.frz i))) fun D σ H z => ?_
  · exact ⟨fun pins s σ H D I z => (PS.imp h (t' := tS B W (.seq a (.frz i))) fun D σ H z => by
      obtain ⟨S, env, rfl, ok, er, out⟩ := seq_read z
      refine ⟨S, env, rfl, ok, er, ?_⟩
      cases q : ex a env S.ah with
      | nx e h =>
        rw [q] at out
        exact fun T τ okT eT l er' => frz_read (out T τ okT eT l er')
      | brk e h => rw [q] at out; exact out
      | cnt e h => rw [q] at out; exact out
      | ret e h => rw [q] at out; exact out
      | exc c e h => rw [q] at out; exact out
      | bad => rw [q] at out; exact out).run pins s σ H D I z⟩
  · obtain ⟨S, env, rfl, ok, er, out⟩ := seq_read z
    refine ⟨S, env, rfl, ok, er, ?_⟩
    cases q : ex a env S.ah with
    | nx e h =>
      rw [q] at out
      exact fun T τ okT eT l er' => frz_read (out T τ okT eT l er')
    | brk e h => rw [q] at out; exact out
    | cnt e h => rw [q] at out; exact out
    | ret e h => rw [q] at out; exact out
    | exc c e h => rw [q] at out; exact out
    | bad => rw [q] at out; exact out
/-! ### small statements -/
theorem sns_pass {pos : Pos} : SndS B X W (.Pass pos) .skip := ps_pass.imp fun D σ H h => by
  obtain ⟨S, env, rfl, ok, er, out⟩ := h
  exact nx_skip ok er out
theorem sns_doc {x j pos pos'} : SndS B X W (.Expr (.Constant (.str x) j pos) pos') .skip := ps_doc.imp fun D σ H h => by
  obtain ⟨S, env, rfl, ok, er, out⟩ := h
  exact nx_skip ok er out
theorem sns_brk {pos : Pos} : SndS B X W (.Break pos) .brk := ps_break.imp fun D σ H h => by
  obtain ⟨S, env, rfl, ok, er, out⟩ := h
  exact out S σ ok rfl (.refl S) er
theorem sns_cnt {pos : Pos} : SndS B X W (.Continue pos) .cnt := ps_continue.imp fun D σ H h => by
  obtain ⟨S, env, rfl, ok, er, out⟩ := h
  exact out S σ ok rfl (.refl S) er
theorem sns_ret {e : Expr} {ia : IE} {pos : Pos} (h : SndE B X W e ia) : SndS B X W (.Return (some e) pos) (.ret ia) := (ps_ret (h.pe false)).imp fun D σ H h => by
  obtain ⟨S, env, rfl, ok, er, out⟩ := h
  exact tE_s ok er out fun T d x ok1 l1 er1 h1 o1 => o1 T x ok1 rfl (.refl T) h1
theorem sns_retN {pos : Pos} : SndS B X W (.Return none pos) (.ret (.con .non)) := ps_retN.imp fun D σ H h => by
  obtain ⟨S, env, rfl, ok, er, out⟩ := h
  exact out S .non ok rfl (.refl S) .non
theorem sns_drop {e : Expr} {ia : IE} {pos : Pos} (h : SndE B X W e ia) (hs : swapsWith e none pos.line X.env = pure false) : SndS B X W (.Expr e pos) (.drop ia) := (ps_expr (h.pe true) hs).imp fun D σ H h => by
  obtain ⟨S, env, rfl, ok, er, out⟩ := h
  exact tE_s ok er out fun T d x ok1 l1 er1 h1 o1 => nx_skip ok1 er1 o1
theorem asg_read {tg : Tg} {ia : IE} (hK : X.K = B.K) : ∀ D σ H, tS B W (.asg tg ia) D σ H → tAsg (tE B W false ia) (tgR X.K tg) D σ H := fun D σ H h => by
  obtain ⟨S, env, rfl, ok, er, out⟩ := h
  refine tE_s ok er out fun T d x ok1 l1 er1 h1 o1 => ?_
  have o1 : OutS B W T D (match setTg tg d env with | some e' => .nx e' T.ah | none => .bad) := o1
  cases q : setTg tg d env with
  | none => rw [q] at o1; exact o1.elim
  | some e' =>
    rw [q] at o1
    exact tg_use hK q h1 er1 fun σ' er' _ => nx_skip ok1 er' o1
theorem sns_set {i : Nat} {x : Str} {e : Expr} {ia : IE} {pos pos' : Pos} (hK : X.K = B.K) (hN : X.N.Nodup) (hi : X.N[i]? = some x) (hx : Loc X.env.scope x) (h : SndE B X W e ia) (hs : swapsWith e (some (.Name x pos')) pos.line X.env = pure false) (hf : X.fn x = true ∨ X.env.scope.names.lookup x = some .local) :
    SndS B X W (.Assign [.Name x pos'] e pos) (.asg (.nm i) ia) := (ps_set hN hi hx (h.pe false) hs hf).imp (asg_read (tg := .nm i) hK)
theorem sns_asg {tg e : Expr} {tgi : Tg} {ia : IE} {pos : Pos} (hK : X.K = B.K) (h : SndE B X W e ia) (hg : PG X tg (tgR X.K tgi)) (hs : swapsWithSole [tg] e pos.line X.env = pure false) (hw : swappedStores [tg] e X.env = pure none) (h1 : (assignEach [tg] X.env).map (·.2) = [assign tg X.env]) :
    SndS B X W (.Assign [tg] e pos) (.asg tgi ia) := (ps_asg (h.pe false) hg hs hw h1).imp (asg_read hK)
theorem sns_par {i j : Nat} {x y : Str} {a b : Expr} {ia ib : IE} {px py pt pos : Pos} {kt k2 pt2} (hc : X.calm = true) (hN : X.N.Nodup) (hi : X.N[i]? = some x) (hj : X.N[j]? = some y) (hij : i ≠ j)
    (hx : X.env.scope.names.lookup x = some .local) (hy : X.env.scope.names.lookup y = some .local) (ha : SndE B X W a ia) (hb : SndE B X W b ib) (hna : noStar a = true) (hnb : noStar b = true)
    (hw : swappedStores [.Tuple [.Name x px, .Name y py] kt pt] (.Tuple [a, b] k2 pt2) X.env = pure (some [x, y]))
    (hs : swapsWithSole [.Tuple [.Name x px, .Name y py] kt pt] (.Tuple [a, b] k2 pt2) pos.line X.env = pure false) :
    SndS B X W (.Assign [.Tuple [.Name x px, .Name y py] kt pt] (.Tuple [a, b] k2 pt2) pos) (.par i j ia ib) :=
  (ps_par hc hN hi hj hij hx hy (pa_cons (ha.pe false) (pa_cons (hb.pe false) pa_nil (starEach_of hnb)) (starEach_of hna)) hw hs).imp fun D σ H h => by
    obtain ⟨S, env, rfl, ok, er, out⟩ := h
    refine tE_s ok er out fun T d x ok1 l1 er1 h1 o1 => ?_
    refine tE_s ok1 er1 o1 fun U d2 y ok2 l2 er2 h2 o2 => ?_
    refine ⟨x, y, rfl, ?_⟩
    have o2 : OutS B W U D (if i < env.length ∧ j < env.length then .nx ((env.set i (some (.val d))).set j (some (.val d2))) U.ah else .bad) := o2
    by_cases c : i < env.length ∧ j < env.length
    · rw [if_pos c] at o2
      exact nx_skip ok2 (erep_set (erep_set er2 c.1 (l2.rep h1)) (by rw [List.length_set]; exact c.2) h2) o2
    · rw [if_neg c] at o2; exact o2.elim
theorem sns_if {c : Expr} {a b : List Stmt} {ic : IE} {ia ib : IS} {pos : Pos} (hc : SndE B X W c ic) (ha : SndSs B X W a ia) (hb : SndSs B X W b ib) : SndS B X W (.If c a b pos) (.ifs ic ia ib) := (ps_if hc.pt ha hb).imp fun D σ H h => by
  obtain ⟨S, env, rfl, ok, er, out⟩ := h
  refine tE_s ok er out fun T d x ok1 l1 er1 h1 o1 => ?_
  cases d <;> first | exact o1.elim | skip
  rename_i b
  cases (RV.view h1).bl
  cases b with
  | true => exact ⟨true, rfl, show tS B W ia D σ T.H from ⟨T, env, rfl, ok1, er1, o1⟩⟩
  | false => exact ⟨false, rfl, show tS B W ib D σ T.H from ⟨T, env, rfl, ok1, er1, o1⟩⟩
/-! ### loops -/
theorem sns_while {c : Expr} {body : List Stmt} {ic : IE} {ib : IS} {pos : Pos} (hp : PassesOwn (model X.prog X.w) X.A X.env X.xe) (hc : SndE B X W c ic) (hb : SndSs B X W body ib) : SndS B X W (.While c body [] pos) (.whil ic ib) := (ps_while hp hc.pt hb).imp fun D σ H h => by
  obtain ⟨S, env, rfl, ok, er, out⟩ := h
  refine ⟨fun m σ' H' => ∃ (S' : WS) (e' : En), S'.H = H' ∧ S'.Ok B ∧ ERep B S' e' σ' ∧ OutS B W S' D (whileL (ev true ic) (ex ib) m e' S'.ah), ⟨FUEL, S, env, rfl, ok, er, out⟩, ?_⟩
  rintro m σ' H' ⟨S', e', rfl, ok', er', out'⟩
  cases m with
  | zero => exact out'.elim
  | succ n =>
    refine tE_s ok' er' out' fun T d x ok1 l1 er1 h1 o1 => ?_
    cases d <;> first | exact o1.elim | skip
    rename_i b
    cases (RV.view h1).bl
    cases b with
    | false => exact ⟨false, rfl, show D.nx σ' T.H from nx_skip ok1 er1 o1⟩
    | true =>
      refine ⟨true, rfl, show ∃ N : L2.St → Hp → Prop, _ from ?_⟩
      refine ⟨_, fun σ' H' z => ⟨n, Nat.lt_succ_self n, z⟩, T, e', rfl, ok1, er1, ?_⟩
      have o1 : OutS B W T D (match ex ib e' T.ah with | .nx e' h' => whileL (ev true ic) (ex ib) n e' h' | .cnt e' h' => whileL (ev true ic) (ex ib) n e' h' | .brk e' h' => .nx e' h' | q => q) := o1
      cases q : ex ib e' T.ah with
      | nx e2 h2 => rw [q] at o1; exact fun U τ okU eU l er2 => ⟨U, e2, rfl, okU, er2, by subst eU; exact OutS.mono o1 l⟩
      | cnt e2 h2 => rw [q] at o1; exact fun U τ okU eU l er2 => ⟨U, e2, rfl, okU, er2, by subst eU; exact OutS.mono o1 l⟩
      | brk e h => rw [q] at o1; exact o1
      | ret e h => rw [q] at o1; exact o1
      | exc c e h => rw [q] at o1; exact o1
      | bad => rw [q] at o1; exact o1
theorem sns_for {tg iter : Expr} {body : List Stmt} {it : Ab.It} {src : IE} {tgi : Tg} {ib : IS} {pos : Pos} (hK : X.K = B.K) (hp : PassesOwn (model X.prog X.w) X.A X.env X.xe) (hc : X.calm = true) (hi : SndI B X W tg iter it src) (hg : PG X tg (tgR X.K tgi)) (hb : SndSs B X W body ib)
    (hs : ∀ x, foldedSetIterable iter X.env x = pure x) : SndS B X W (.For tg iter body [] pos) (.fors tgi it src ib) := (ps_for hp hc (hi false) hg hb hs).imp fun D σ H h => by
  obtain ⟨S, env, rfl, ok, er, out⟩ := h
  refine ⟨S, env, rfl, ok, er, OutS.thn out er fun S0 l J ok0 l0 wk _ o0 => ?_⟩
  have er0 := er.mono l0
  generalize hst : (fun x e1 h2 => match setTg tgi x e1 with | some e2 => ex ib e2 h2 | none => RS.bad) = step at o0
  refine ⟨fun i m σ' H' => ∃ (S' : WS) (e' : En), S'.H = H' ∧ S'.Ok B ∧ S0.leS S' ∧ ERep B S' e' σ' ∧ i ≤ l.length ∧ m = l.length - i ∧ OutS B W S' D (forL step (l.drop i) e' S'.ah), ⟨l.length, S0, env, rfl, ok0, .refl S0, er0, Nat.zero_le _, rfl, o0⟩, ?_⟩
  rintro i m σ' H' ⟨S', e', rfl, ok', le', er', hil, rfl, out'⟩
  by_cases hi : i = l.length
  · left
    refine ⟨hi ▸ wk.stop S' ok' le'.lk, ?_⟩
    rw [hi, List.drop_length] at out'
    exact nx_skip ok' er' out'
  · right
    have hlt : i < l.length := by omega
    rw [List.drop_eq_getElem_cons hlt] at out'
    obtain ⟨go, yl⟩ := wk.go S' i ok' le'.lk l[i] (List.getElem?_eq_getElem hlt)
    refine ⟨go, _, fun σ' H' z => ⟨l.length - (i + 1), by omega, z⟩, fun x H' hy => ?_⟩
    obtain ⟨U, rfl, okU, lU, eU, rU⟩ := yl x H' hy
    have out' : OutS B W S' D (match step l[i] e' S'.ah with | .nx e' h' => forL step (l.drop (i + 1)) e' h' | .cnt e' h' => forL step (l.drop (i + 1)) e' h' | .brk e' h' => .nx e' h' | q => q) := out'
    rw [← hst] at out'
    simp only at out'
    cases q : setTg tgi l[i] e' with
    | none => rw [q] at out'; exact out'.elim
    | some e2 =>
      rw [q] at out'
      simp only at out'
      rw [hst] at out'
      refine tg_use hK q rU (er'.mono lU) fun σ2 er2 _ => ⟨U, e2, rfl, okU, er2, ?_⟩
      rw [eU]
      have lS : ∀ {T : WS}, U.leS T → S'.leS T := fun z => lU.s.trans z
      cases q2 : ex ib e2 S'.ah with
      | nx e3 h3 =>
        rw [q2] at out'
        exact fun T τ okT eT l3 er3 => ⟨T, e3, rfl, okT, le'.trans (lS l3), er3, by omega, rfl, by subst eT; exact OutS.mono out' (lS l3)⟩
      | cnt e3 h3 =>
        rw [q2] at out'
        exact fun T τ okT eT l3 er3 => ⟨T, e3, rfl, okT, le'.trans (lS l3), er3, by omega, rfl, by subst eT; exact OutS.mono out' (lS l3)⟩
      | brk e h => rw [q2] at out'; exact fun T τ okT eT l3 er3 => out' T τ okT eT (lS l3) er3
      | ret e h => rw [q2] at out'; exact fun T τ okT eT l3 er3 => out' T τ okT eT (lS l3) er3
      | exc c e h => rw [q2] at out'; exact fun T τ okT eT l3 er3 => out' T τ okT eT (lS l3) er3
      | bad => rw [q2] at out'; exact out'
end
end Ab

set_option autoImplicit false
set_option maxHeartbeats 4000000
/-! AbI: containers of one's own. -/
namespace Ab
open PySem PySem.Spec PyProof.Rows L2

section
variable {B : Bs} {X : Cx} {W : WX} {D : Ends}
/-! ### an expression that makes a new container -/
def RN (B : Bs) (S0 : WS) (T : WS) (d : AV) (x : V) : Prop := ∃ a, x = .ref a ∧ S0.w a ≠ some .out ∧ T.w a = some .out ∧ T.C B d a
def tN (B : Bs) (W : WX) (ir : IE) : TE := fun σ H Q => ∃ (S : WS) (env : En), S.H = H ∧ S.Ok B ∧ ERep B S env σ ∧ Outs B S (pureI ir) (RN B S) (WE B W σ) ((ev false ir env S.ah).bind ownR) Q
structure SndN (B : Bs) (X : Cx) (W : WX) (e : Expr) (ir : IE) : Prop where
  pn : PE X e (tN B W ir)
theorem add_rep {S : WS} {p : Addr} {o : HO} {ow : Ow} (ok : S.Ok B) (h : S.H p = none) {d : AV} {v : V} (r : S.R B d v) : (S.add p o ow).R B d v := (add_le ok h true).rep r
theorem fin_lstN {S0 S : WS} {l : List AV} {xs : List V} {p q : Bool} {E : Nat → Hp → Prop} {Q : VK} {a : Addr} (ok : S.Ok B) (l0 : S0.le q S) (ha : S.H a = none) (hs : xs.length ≤ LIM) (h : S.Rs B l xs) (o : Outs B S p (RN B S0) E (ownR (.lst l) S.ah) Q) : Q (.ref a) (upd S.H a (.lst xs)) := by
  refine o (S.add a (.lst xs) .out) (add_ok ok ha (fun ys e => by cases e; exact hs) (fun _ e => by cases e) (fun _ _ e => by cases e) fun _ e => by cases e) rfl (add_le ok ha _) (.ref a) ⟨a, rfl, fun z => ?_, add_at, .lst upd_same (fo_reps (h.imp fun _ _ z => add_rep ok ha z))⟩
  have z1 := (l0.outs a z).1
  rw [ok.free ha] at z1
  cases z1
theorem ownR_bad {d : AV} {h : AH} (e : isC d = false) : ownR d h = .bad := by unfold ownR; rw [e]; rfl
theorem snn_lst {es : List Expr} {pos : Pos} {r : IE} (h : SndA B X W es r) : SndN B X W (.List es pos) (.lst r) := by
  refine ⟨(pe_lst (h.pa false)).imp fun σ H Q h => ?_⟩
  obtain ⟨S, env, rfl, ok, er, out⟩ := h
  have e1 : (ev false (.lst r) env S.ah).bind ownR = (ev false r env S.ah).bind fun ds h1 => (match ds with | .tup l => if l.length ≤ LIM then .ok (.lst l) h1 else .bad | _ => .bad : Ab.R AV).bind ownR := by
    show R.bind (R.bind (ev false r env S.ah) _) _ = _
    cases ev false r env S.ah <;> rfl
  rw [e1] at out
  refine tA_use (p2 := true) ok er out (fun z => ⟨z, rfl⟩) fun T ds xs ok1 l1 er1 h1 o1 => ?_
  obtain ⟨l, rfl, hl⟩ := h1
  have o1 : Outs B T true (RN B S) (WE B W σ) ((if l.length ≤ LIM then .ok (.lst l) T.ah else .bad : Ab.R AV).bind ownR) Q := o1
  by_cases c : l.length ≤ LIM
  · rw [if_pos c] at o1
    have hx : xs.length ≤ LIM := by rw [← hl.len]; exact c
    exact ⟨by rw [← LIM_line]; exact hx, fun p hp => fin_lstN ok1 l1 hp hx hl o1⟩
  · rw [if_neg c] at o1; exact o1.elim
theorem snn_list {x : Str} {e : Expr} {ia : IE} {p pos : Pos} (hx : x = "list") (hK : X.K = B.K) (hg : Gl X x) (hm : X.mg x = none) (ha : SndA B X W [e] ia) (hs : [e].all noStar = true) : SndN B X W (.Call (.Name x p) [e] [] pos) (.bi .list ia) := by
  subst hx
  have hs' : noStar e = true := by simpa using hs
  refine ⟨(pe_callTy call_list_of hg hm (by decide +kernel) (ha.pa true) (by decide) (by decide) (starEach_of hs') (plainArgs (by rfl))).imp fun σ H Q h => ?_⟩
  obtain ⟨S, env, rfl, ok, er, out⟩ := h
  have e1 : (ev false (.bi .list ia) env S.ah).bind ownR = (ev true ia env S.ah).bind fun ds h1 => (match ds with | .tup l => doBi .list l h1 | _ => .bad : Ab.R AV).bind ownR := by
    show R.bind (R.bind (ev true ia env S.ah) _) _ = _
    cases ev true ia env S.ah <;> rfl
  rw [e1] at out
  refine tA_use (p2 := true) ok er out (fun z => ⟨z, rfl⟩) fun T ds xs ok1 l1 er1 h1 o1 => ?_
  obtain ⟨l, rfl, hl⟩ := h1
  refine Ab.l1 hl (fun e => by subst e; exact o1.elim) (fun d y e e2 hy => ?_) fun d d' r e => by subst e; exact o1.elim
  subst e e2
  have o1 : Outs B T true (RN B S) (WE B W σ) ((okO ((seqA d).map AV.lst) T.ah).bind ownR) Q := o1
  cases q : seqA d with
  | none => rw [q] at o1; exact o1.elim
  | some m =>
    rw [q] at o1
    obtain ⟨a, ys, rfl, h1, hr⟩ := seq_of q (RV.view hy)
    have sz : ys.length ≤ LIM := by rw [← hr.len]; exact seq_sz ok1 q (RV.view hy)
    rw [← hK] at h1
    exact ⟨a, ys, rfl, h1, fun b hb => fin_lstN ok1 l1 hb sz hr o1⟩
/-- two operands -/
theorem twoN {ia ib ir : IE} {k : AV → AV → AH → Ab.R AV} {r : R2}
    (hev : ∀ env h, ev false ir env h = (ev (pureI ib) ia env h).bind fun x h1 => (ev true ib env h1).bind fun y h2 => k x y h2) (hpu : pureI ir = (pureI ia && pureI ib))
    (hk : ∀ (S0 S : WS) x y xv yv (Q : VK) (E : Nat → Hp → Prop), S0.le false S → S.Ok B → S.View B x xv → S.View B y yv → Outs B S true (RN B S0) E ((k x y S.ah).bind ownR) Q → r xv yv S.H Q) : ∀ σ H Q, tN B W ir σ H Q → tOp r (tE B W (pureI ib) ia) (tE B W true ib) σ H Q := by
  intro σ H Q h
  obtain ⟨S, env, rfl, ok, er, out⟩ := h
  have e1 : (ev false ir env S.ah).bind ownR = (ev (pureI ib) ia env S.ah).bind fun x h1 => (ev true ib env h1).bind fun y h2 => (k x y h2).bind ownR := by
    rw [hev]
    cases ev (pureI ib) ia env S.ah with
    | ok x h1 => show R.bind (R.bind (ev true ib env h1) _) _ = R.bind (ev true ib env h1) _; cases ev true ib env h1 <;> rfl
    | _ => rfl
  rw [e1, hpu] at out
  refine tE_use (p2 := pureI ib) ok er out (fun z => and2 z) fun T d x ok1 l1 er1 h1 o1 => ?_
  refine tE_use (p2 := true) ok1 er1 o1 (fun z => ⟨z, rfl⟩) fun U d2 y ok2 l2 er2 h2 o2 => ?_
  refine hk S U d d2 x y Q _ (l1.trans (r := false) l2 fun z => nomatch z) ok2 ?_ h2 o2
  cases q : pureI ib with
  | true => rw [q] at h1 l2; exact l2.view h1
  | false => rw [q] at h1; exact .inl (l2.rep h1)
theorem snn_add {a b : Expr} {ia ib : IE} {pos : Pos} (ha : SndE B X W a ia) (hb : SndE B X W b ib) : SndN B X W (.BinOp a .Add b pos) (.bin .add ia ib) := by
  refine ⟨(pe_op (pos := pos) (op_cat (X := X)) (ha.pe (pureI ib)) (hb.pe true)).imp (twoN (k := doBin .add) (fun _ _ => rfl) rfl fun S0 S x y xv yv Q E l0 ok hx hy out => ?_)⟩
  cases x <;> cases y <;> first | exact out.elim | skip
  · rename_i i j
    have out : Outs B S true (RN B S0) E ((if i.length + j.length ≤ LIM then .ok (.str (i ++ j)) S.ah else .bad : Ab.R AV).bind ownR) Q := out
    split at out <;> exact out.elim
  · rename_i i j
    have out : Outs B S true (RN B S0) E ((if i.length + j.length ≤ LIM then .ok (.tup (i ++ j)) S.ah else .bad : Ab.R AV).bind ownR) Q := out
    split at out <;> exact out.elim
  · rename_i i j
    obtain ⟨p, xs, rfl, h1, r1⟩ := hx.lst
    obtain ⟨q, ys, rfl, h2, r2⟩ := hy.lst
    have out : Outs B S true (RN B S0) E ((if i.length + j.length ≤ LIM then .ok (.lst (i ++ j)) S.ah else .bad : Ab.R AV).bind ownR) Q := out
    by_cases c : i.length + j.length ≤ LIM
    · rw [if_pos c] at out
      have cx : xs.length + ys.length ≤ LIM := by rw [← r1.len, ← r2.len]; exact c
      exact ⟨p, q, xs, ys, rfl, rfl, h1, h2, by rw [← LIM_line]; exact cx, fun a ha => fin_lstN ok l0 ha (by rw [List.length_append]; exact cx) (r1.app r2) out⟩
    · rw [if_neg c] at out; exact out.elim
theorem snn_mul {a b : Expr} {ia ib : IE} {pos : Pos} (ha : SndE B X W a ia) (hb : SndE B X W b ib) : SndN B X W (.BinOp a .Mult b pos) (.bin .mul ia ib) := by
  refine ⟨(pe_op (pos := pos) (op_rep (X := X)) (ha.pe (pureI ib)) (hb.pe true)).imp (twoN (k := doBin .mul) (fun _ _ => rfl) rfl fun S0 S x y xv yv Q E l0 ok hx hy out => ?_)⟩
  cases x <;> cases y <;> first | exact out.elim | skip
  · rename_i i j
    have out : Outs B S true (RN B S0) E ((if (-(2 ^ 64) < i ∧ i < 2 ^ 64) ∨ (-(2 ^ 64) < j ∧ j < 2 ^ 64) then .ok (.int (i * j)) S.ah else .bad : Ab.R AV).bind ownR) Q := out
    split at out <;> exact out.elim
  · rename_i s k
    have out : Outs B S true (RN B S0) E ((if s.length ≤ 1000 ∧ -1000 ≤ k ∧ k ≤ 1000 then .ok (.str (repS s k)) S.ah else .bad : Ab.R AV).bind ownR) Q := out
    split at out <;> exact out.elim
  · rename_i l k
    have out : Outs B S true (RN B S0) E ((if l.length ≤ 1000 ∧ -1000 ≤ k ∧ k ≤ 1000 then .ok (.tup (List.replicate k.toNat l).flatten) S.ah else .bad : Ab.R AV).bind ownR) Q := out
    split at out <;> exact out.elim
  · rename_i l k
    obtain ⟨p, xs, rfl, h1, r1⟩ := hx.lst
    cases hy.int
    have out : Outs B S true (RN B S0) E ((if l.length ≤ 1000 ∧ -1000 ≤ k ∧ k ≤ 1000 then .ok (.lst (List.replicate k.toNat l).flatten) S.ah else .bad : Ab.R AV).bind ownR) Q := out
    by_cases c : l.length ≤ 1000 ∧ -1000 ≤ k ∧ k ≤ 1000
    · rw [if_pos c] at out
      have hz : xs.length ≤ 1000 := by rw [← r1.len]; exact c.1
      have hm := Nat.mul_le_mul hz (show k.toNat ≤ 1000 by omega)
      refine ⟨p, k, xs, rfl, rfl, h1, by omega, by omega, by rw [sizeLine_eq]; omega, fun q hq => fin_lstN ok l0 hq ?_ (fo_flat r1 _) out⟩
      rw [lm_len_rep_flat, Nat.mul_comm]
      show _ ≤ 16777216
      omega
    · rw [if_neg c] at out; exact out.elim
theorem snn_sli {a : Expr} {lo hi : Option Expr} {ia il ih : IE} {p2 pos : Pos} (ha : SndE B X W a ia) (hl : SndP B X W lo il) (hh : SndP B X W hi ih) : SndN B X W (.Subscript a (.Slice lo hi none p2) pos) (.sli ia il ih) := by
  refine ⟨(pe_slice (p2 := p2) (pos := pos) (sl_list (X := X)) (ha.pe (pureI il && pureI ih)) hl hh).imp fun σ H Q h => ?_⟩
  obtain ⟨S, env, rfl, ok, er, out⟩ := h
  have e1 : (ev false (.sli ia il ih) env S.ah).bind ownR = (ev (pureI il && pureI ih) ia env S.ah).bind fun x h1 => (ev false il env h1).bind fun y h2 => (ev false ih env h2).bind fun z h3 => (doSli x y z h3).bind ownR := by
    show R.bind (R.bind (ev (pureI il && pureI ih) ia env S.ah) _) _ = _
    cases ev (pureI il && pureI ih) ia env S.ah with
    | ok x h1 =>
      show R.bind (R.bind (ev false il env h1) _) _ = R.bind (ev false il env h1) _
      cases ev false il env h1 with
      | ok y h2 => show R.bind (R.bind (ev false ih env h2) _) _ = R.bind (ev false ih env h2) _; cases ev false ih env h2 <;> rfl
      | _ => rfl
    | _ => rfl
  rw [e1] at out
  refine tE_use (p2 := pureI il && pureI ih) ok er out (fun z => and2 z) fun T d x ok1 l1 er1 h1 o1 => ?_
  refine tO_use (p2 := pureI ih) ok1 er1 o1 (fun z => and2 z) fun U d2 y ok2 l2 er2 h2 o2 => ?_
  refine tO_use (p2 := true) ok2 er2 o2 (fun z => ⟨z, rfl⟩) fun Y d3 z ok3 l3 er3 h3 o3 => ?_
  have hx : Y.View B d x := by
    cases q : (pureI il && pureI ih) with
    | true =>
      rw [q] at h1
      obtain ⟨q1, q2⟩ := and2 q
      rw [q1] at l2
      rw [q2] at l3
      exact l3.view (l2.view h1)
    | false => rw [q] at h1; exact .inl (l3.rep (l2.rep h1))
  have l0 : S.le false Y := (l1.trans (r := false) l2 fun z => nomatch z).trans (r := false) l3 fun z => nomatch z
  have e : doSli d d2 d3 Y.ah = sliA d y z Y.ah := by unfold doSli; rw [h2, h3]
  rw [e] at o3
  cases d with
  | str s =>
    have o3 : Outs B Y true (RN B S) (WE B W σ) ((if s.length ≤ LIM then .ok (.str ⟨(cutA s.cps.toList y z).toArray⟩) Y.ah else .bad : Ab.R AV).bind ownR) Q := o3
    split at o3 <;> exact o3.elim
  | lst l =>
    obtain ⟨p, xs, rfl, hp, hrs⟩ := hx.lst
    exact ⟨p, xs, rfl, SqL.of hp, fun q hq => fin_lstN ok3 l0 hq (Nat.le_trans (cut_len xs y z) (ok3.szl p xs hp)) (cut_fo hrs y z) o3⟩
  | _ => exact o3.elim
/-! ### a container gets another holder -/
def WS.hold (S : WS) (a : Addr) (ow : Ow) : WS := { S with w := fun b => if b = a then some ow else S.w b }
section
variable {S T : WS} {a : Addr} {ow ow' : Ow}
theorem hold_G (h : S.w a = some ow) : (S.hold a ow').G = S.G := by
  funext b
  unfold WS.G
  show (match (if b = a then some ow' else S.w b) with | none => S.H b | some _ => none) = _
  by_cases z : b = a
  · rw [if_pos z, z, h]
  · rw [if_neg z] <;> rfl
theorem hold_ne {b : Addr} (h : b ≠ a) : (S.hold a ow').w b = S.w b := if_neg h
theorem hold_at : (S.hold a ow').w a = some ow' := if_pos rfl
theorem hold_obj (h : S.w a = some ow) (hn : ∀ n, ow ≠ .obj n) : ∀ b n, S.w b = some (.obj n) → (S.hold a ow').w b = some (.obj n) := fun b n e => by
  have : b ≠ a := fun z => by rw [z, h] at e; exact hn n (Option.some.inj e)
  exact (hold_ne this).trans e
theorem hold_rep (h : S.w a = some ow) (hn : ∀ n, ow ≠ .obj n) {d : AV} {v : V} (r : S.R B d v) : (S.hold a ow').R B d v := Rep.mono (hold_obj h hn) (by rw [hold_G h]; exact Same.refl _) r
theorem hold_cont (h : S.w a = some ow) (hn : ∀ n, ow ≠ .obj n) {d : AV} {b : Addr} (r : S.C B d b) : (S.hold a ow').C B d b := by
  have m : Same S.G (S.hold a ow').G := by rw [hold_G h]; exact Same.refl _
  cases r with
  | lst q t => exact .lst q (Reps.mono (hold_obj h hn) m t)
  | dk q k t => exact .dk q k (Reps.mono (hold_obj h hn) m t)
  | dt q k t => exact .dt q k (Reps.mono (hold_obj h hn) m t)
theorem hold_ok (ok : S.Ok B) (h : S.w a = some ow) (hn : ∀ n, ow ≠ .obj n) (hf : ∀ n f, ow ≠ .fld n f) (hn' : ∀ n, ow' ≠ .obj n) : (S.hold a ow').Ok B := by
  have back : ∀ b n, (S.hold a ow').w b = some (.obj n) → S.w b = some (.obj n) := fun b n e => by
    by_cases z : b = a
    · rw [z, hold_at] at e; exact absurd (Option.some.inj e) (hn' n)
    · exact (hold_ne z).symm.trans e
  refine ⟨fun n o e => ?_, fun b c n e1 e2 => ok.inj b c n (back b n e1) (back c n e2), fun b n e => ok.lt b n (back b n e), fun b x e => ?_, ok.szl, ok.szt⟩
  · obtain ⟨b, hb, q⟩ := ok.objs n o e
    refine ⟨b, hold_obj h hn b n hb, ?_⟩
    cases o with
    | gone => exact trivial
    | box c => exact hold_cont h hn q
    | ins c fs =>
      obtain ⟨dx, fs', q1, q2⟩ := q
      refine ⟨dx, fs', q1, q2.imp fun u v ⟨e1, e2⟩ => ⟨e1, ?_⟩⟩
      cases z : u.2 with
      | gone => exact trivial
      | exc _ => first | exact trivial | exact h2 | exact e2 | exact h
      | val d => rw [z] at e2; exact hold_rep h hn e2
      | own c =>
        rw [z] at e2
        obtain ⟨b', h1, h2, h3⟩ := e2
        have nb : b' ≠ a := fun y => by rw [y, h] at h2; exact hf _ _ (Option.some.inj h2)
        exact ⟨b', h1, (hold_ne nb).trans h2, hold_cont h hn h3⟩
  · by_cases z : b = a
    · rw [z]; exact ok.trk a ow h
    · exact ok.trk b x ((hold_ne z).symm.trans e)
theorem hold_erep {e : En} {σ : L2.St} (er : ERep B S e σ) (h : S.w a = some .out) : ERep B (S.hold a ow') e σ := by
  refine ⟨er.len, fun i fv q => ?_⟩
  obtain ⟨v, h1, h2⟩ := er.at_ i fv q
  refine ⟨v, h1, ?_⟩
  cases fv with
  | val d => exact hold_rep h (fun _ z => nomatch z) h2
  | gone => exact trivial
  | exc _ => first | exact trivial | exact h2 | exact e2 | exact h
  | own c =>
    obtain ⟨b, rfl, hb, hc⟩ := h2
    exact ⟨b, rfl, (hold_ne fun z => by rw [z, h] at hb; cases hb).trans hb, hold_cont h (fun _ z => nomatch z) hc⟩
theorem hold_leS (l : S.leS T) (h0 : S.w a ≠ some .out) (h : T.w a = some .out) : S.leS (T.hold a ow') := by
  refine ⟨fun b n e => hold_obj h (fun _ z => nomatch z) b n (l.objs b n e), by rw [hold_G h]; exact l.same, fun b e => ?_⟩
  have : b ≠ a := fun z => h0 (z ▸ e)
  obtain ⟨q1, q2⟩ := l.outs b e
  exact ⟨(hold_ne this).trans q1, q2⟩
end
theorem OutS.thn' {S : WS} {p : Bool} {α β : Type} {rel : WS → α → β → Prop} {r : Ab.R α} {e : En} {σ : L2.St} {k : α → AH → RS} {Q1 : β → Hp → Prop} (h : OutS B W S D (r.thn e k)) (er : ERep B S e σ)
    (hQ : ∀ (T : WS) d x, T.Ok B → S.le p T → rel T d x → OutS B W S D (k d T.ah) → Q1 x T.H) : Outs B S p rel (WE B W σ) r Q1 := by
  cases r with
  | bad => exact h
  | exc c a => exact fun T ok e l => h T σ ok e l.s (er.mono l)
  | ok d a =>
    intro T ok e l x hx
    subst e
    exact hQ T d x ok l hx h
theorem own_fin {i : Nat} {d : AV} {S T : WS} {env : En} {σ : L2.St} {x : V} {p : Bool} (er : ERep B S env σ) (ok1 : T.Ok B) (l1 : S.le p T) (h1 : RN B S T d x) (o1 : OutS B W S D (if i < env.length then .nx (env.set i (some (.own d))) T.ah else .bad)) : D.nx (σ.set i (some x)) T.H := by
  obtain ⟨a, rfl, h0, hw, hc⟩ := h1
  by_cases c : i < env.length
  · rw [if_pos c] at o1
    have er1 := hold_erep (ow' := .slot i) (er.mono l1) hw
    refine o1 (T.hold a (.slot i)) (σ.set i (some (.ref a))) (hold_ok ok1 hw (fun _ z => nomatch z) (fun _ _ z => nomatch z) fun _ z => nomatch z) rfl (hold_leS l1.s h0 hw) ?_
    refine ⟨by rw [List.length_set, List.length_set]; exact er1.len, fun j fv q => ?_⟩
    by_cases z : i = j
    · subst z
      rw [List.getElem?_set_self c] at q
      cases q
      exact ⟨.ref a, by rw [List.getElem?_set_self (er1.len ▸ c)], a, rfl, hold_at, hold_cont hw (fun _ z => nomatch z) hc⟩
    · rw [List.getElem?_set_ne z] at q
      obtain ⟨v, h1, h2⟩ := er1.at_ j fv q
      exact ⟨v, by rw [List.getElem?_set_ne z]; exact h1, h2⟩
  · rw [if_neg c] at o1; exact o1.elim
theorem own_read {i : Nat} {ia : IE} : ∀ D σ H, tS B W (.own i ia) D σ H → tAsg (tN B W ia) (gName i) D σ H := fun D σ H h => by
  obtain ⟨S, env, rfl, ok, er, out⟩ := h
  exact ⟨S, env, rfl, ok, er, OutS.thn' out er fun T d x ok1 l1 h1 o1 => own_fin er ok1 l1 h1 o1⟩
theorem sns_own {i : Nat} {x : Str} {e : Expr} {ia : IE} {pos pos' : Pos} (hN : X.N.Nodup) (hi : X.N[i]? = some x) (hx : Loc X.env.scope x) (h : SndN B X W e ia) (hs : swapsWith e (some (.Name x pos')) pos.line X.env = pure false) (hf : X.fn x = true ∨ X.env.scope.names.lookup x = some .local) :
    SndS B X W (.Assign [.Name x pos'] e pos) (.own i ia) := (ps_set hN hi hx h.pn hs hf).imp own_read
/-! ### comprehensions into a name -/
theorem ev_own {ia : IE} {env : En} {h : AH} (q : ∀ d h', ev false ia env h = .ok d h' → isC d = true) : (ev false ia env h).bind ownR = ev false ia env h := by
  cases e : ev false ia env h with
  | ok d h' =>
    show ownR d h' = _
    unfold ownR
    rw [if_pos (q d h' e)]
  | _ => rfl
theorem lc_readN {it : Ab.It} {src t g : IE} {tgi : Tg} {vs : List Nat} (hK : X.K = B.K) (ho : ∀ i ∈ tgIx tgi, i ∈ vs) : ∀ σ H Q, tN B W (.comp it src tgi t g vs) σ H Q →
    tLc (tI B W (pureI t && pureI g) it src) (tgR X.K tgi) (tB (tE B W0 true t)) (tE B W0 false g) vs σ H Q := by
  intro σ H Q h
  obtain ⟨S, env, rfl, ok, er, out⟩ := h
  generalize hp : (pureI t && pureI g) = p
  have out : Outs B S (pureI src && p) (RN B S) (WE B W σ) (((ev p src env S.ah).bind (itR it)).bind fun l h1 => noExc (compL (fun x => setTg tgi x (wipeE env vs)) (ev true t) (ev false g) l h1)) Q := by
    rw [ev_own fun d h' q => ?_] at out
    · rw [← hp]; exact out
    · have q : (((ev (pureI t && pureI g) src env S.ah).bind (itR it)).bind fun l h1 => noExc (compL (fun x => setTg tgi x (wipeE env vs)) (ev true t) (ev false g) l h1)) = .ok d h' := q
      cases q1 : (ev (pureI t && pureI g) src env S.ah).bind (itR it) with
      | bad => rw [q1] at q; cases q
      | exc c h => rw [q1] at q; cases q
      | ok l h1 =>
        rw [q1] at q
        have q : noExc (compL (fun x => setTg tgi x (wipeE env vs)) (ev true t) (ev false g) l h1) = .ok d h' := q
        cases q2 : compL (fun x => setTg tgi x (wipeE env vs)) (ev true t) (ev false g) l h1 with
        | bad => rw [q2] at q; cases q
        | exc c h => rw [q2] at q; cases q
        | ok ys h2 => rw [q2] at q; cases q; rfl
  refine ⟨S, env, rfl, ok, er, Outs.bind (p1 := pureI src) (p2 := p) out (fun z => and2 z) fun S0 l J ok0 l0 wk _ o0 => fun D hD => ?_⟩
  have o0 : Outs B S0 p (RN B S) (WE B W σ) (noExc (compL (fun x => setTg tgi x (wipeE env vs)) (ev true t) (ev false g) l S0.ah)) Q := o0
  generalize hfi : (fun x => setTg tgi x (wipeE env vs)) = fi at o0
  have er0 := er.mono l0
  let Rest : WS → List AV → List AV → Prop := fun S' ds r => ∃ ys ah, compL fi (ev true t) (ev false g) r S'.ah = .ok ys ah ∧ ∀ T : WS, T.Ok B → T.ah = ah → S0.le p T → T.w D = some .out → (∃ acc, T.H D = some (.lst acc) ∧ T.Rs B (ds ++ ys) acc) → Q (.ref D) T.H
  let Wv : Nat → Nat → Hp → Prop := fun i m H' => ∃ (S' : WS) (ds : List AV), S'.H = H' ∧ S'.Ok B ∧ S0.le p S' ∧ S'.w D = some .out ∧ (∃ acc, S'.H D = some (.lst acc) ∧ S'.Rs B ds acc) ∧ ds.length ≤ i ∧ i ≤ l.length ∧ m = l.length - i ∧ Rest S' ds (l.drop i)
  refine ⟨Wv, ⟨l.length, S0.add D (.lst []) .out, [], rfl, add_ok ok0 hD (fun xs e => by cases e; exact Nat.zero_le _) (fun xs e => by cases e) (fun _ _ e => by cases e) (fun _ e => by cases e), add_le ok0 hD p, add_at, ⟨[], upd_same, .nil⟩, Nat.le_refl _, Nat.zero_le _, rfl, ?_⟩, ?_⟩
  · rw [List.drop_zero]
    show ∃ ys ah, compL fi (ev true t) (ev false g) l S0.ah = .ok ys ah ∧ _
    cases q : compL fi (ev true t) (ev false g) l S0.ah with
    | bad => rw [q] at o0; exact o0.elim
    | exc c h => rw [q] at o0; exact o0.elim
    | ok ys ah =>
      refine ⟨ys, ah, rfl, fun T okT e lT hw ⟨acc, ha, hr⟩ => ?_⟩
      rw [q] at o0
      have o0 : Outs B S0 p (RN B S) (WE B W σ) (.ok (.lst ys) ah) Q := o0
      refine o0 T okT e lT (.ref D) ⟨D, rfl, fun z => ?_, hw, .lst ha (fo_reps hr)⟩
      have z1 := (l0.outs D z).1
      rw [ok0.free hD] at z1
      cases z1
  · rintro i m H' ⟨S', ds, rfl, ok', le', hw, ⟨acc, ha, hr⟩, hdl, hil, rfl, ys, ah, hcl, fin⟩
    by_cases hi : i = l.length
    · left
      refine ⟨hi ▸ wk.stop S' ok' le'.lk, ?_⟩
      rw [hi, List.drop_length] at hcl
      cases hcl
      exact fin S' ok' rfl le' hw ⟨acc, ha, by rw [List.append_nil]; exact hr⟩
    · right
      have hlt : i < l.length := by omega
      rw [List.drop_eq_getElem_cons hlt] at hcl
      obtain ⟨go, yl⟩ := wk.go S' i ok' le'.lk l[i] (List.getElem?_eq_getElem hlt)
      refine ⟨go, Wv (i + 1) (l.length - (i + 1)), fun H' z => ⟨_, by omega, z⟩, fun x H' hy => ?_⟩
      obtain ⟨U, rfl, okU, lU, eU, rU⟩ := yl x H' hy
      obtain ⟨e', hfi', hc⟩ := compL_ok hcl
      rw [← hfi] at hfi'
      have erU : ERep B U (wipeE env vs) (wipe σ vs) := erep_wipe ((er0.mono le').mono lU) vs
      refine tg_use hK hfi' rU erU fun σ' er' hw' => ⟨(hw' vs ho).trans (wipe_idem σ vs), ?_⟩
      have le0 : ∀ {q : Bool} {T : WS}, S'.le q T → (p = true → q = true) → S0.le p T := fun h z => le'.trans h fun y => ⟨y, z y⟩
      refine ⟨U, e', rfl, okU, er', ?_⟩
      have hpt : p = true → pureI t = true ∧ pureI g = true := fun z => and2 (hp.trans z)
      rcases hc with ⟨h1, q1, q2⟩ | ⟨h1, d, h2, l', q1, q2, q3, rfl⟩
      · rw [eU, q1]
        intro T1 ok1 e1 l1 y hy
        cases hy.bl
        refine ⟨false, rfl, ?_⟩
        show Wv (i + 1) (l.length - (i + 1)) T1.H
        have lT := lU.trans (r := pureI t) l1 fun z => ⟨rfl, z⟩
        obtain ⟨o1, o2⟩ := lT.outs D hw
        refine ⟨T1, ds, rfl, ok1, le0 lT fun z => (hpt z).1, o1, ⟨acc, o2.trans ha, lT.reps hr⟩, by omega, by omega, rfl, ys, ah, by rw [e1]; exact q2, fin⟩
      · rw [eU, q1]
        intro T1 ok1 e1 l1 y hy
        cases hy.bl
        refine ⟨true, rfl, ?_⟩
        show tE B W0 false g σ' T1.H _
        refine ⟨T1, e', rfl, ok1, er'.mono l1, ?_⟩
        rw [e1, q2]
        intro T2 ok2 e2 l2 y hy
        have lT := (lU.trans (r := pureI t) l1 fun z => ⟨rfl, z⟩).trans (r := p) l2 fun z => hpt z
        obtain ⟨o1, o2⟩ := lT.outs D hw
        have hacc : acc.length ≤ i := by rw [← hr.len]; exact hdl
        have hsz := wk.sz
        refine ⟨acc, o2.trans ha, by rw [← LIM_line]; omega, T2.put D (.lst (acc ++ [y])), ds ++ [d], rfl, ?_, ?_, o1, ⟨acc ++ [y], upd_same, ?_⟩, by rw [List.length_append]; simp; omega, by omega, rfl, l', ah, ?_, fun T okT eT lT hwT ⟨a2, h3, h4⟩ => fin T okT eT lT hwT ⟨a2, h3, by rw [List.append_assoc] at h4; exact h4⟩⟩
        · exact chg_ok ok2 o1 (fun _ e => by cases e) (fun _ _ e => by cases e) (fun xs e => by cases e; rw [List.length_append]; simp; omega) (fun xs e => by cases e) (fun _ _ e => by cases e)
        · exact le_put ok0 hD (le0 lT fun z => z) o1
        · exact ((lT.reps hr).app (.cons hy .nil)).imp fun _ _ z => chg_rep o1 z
        · show compL fi (ev true t) (ev false g) (l.drop (i + 1)) T2.ah = _
          rw [e2]; exact q3
/-- what is asked of a comprehension -/
structure LcOk (B : Bs) (X : Cx) (W : WX) (elt tg iter : Expr) (ifs : List Expr) (scope : Scope) (own : List (Str × Nat)) (it : Ab.It) (src t g : IE) (tgi : Tg) : Prop where
  hc : X.calm = true
  hN : X.N.Nodup
  hi : SndI B X W tg iter it src
  bo : BlkOk X.N X.env.scope scope own
  hg : ∀ (s : Shared) (H : Hp) (C : Addr) (cl : List (Str × Addr)) (fp : List Addr), PG (X.blk s H scope (compEnvC scope cl C X.env) fp) tg (tgR X.K tgi)
  ht : ∀ (s : Shared) (H : Hp) (C : Addr) (cl : List (Str × Addr)) (fp : List Addr), SndT B (X.blk s H scope (compEnvC scope cl C X.env) fp) W0 ifs t
  he : ∀ (s : Shared) (H : Hp) (C : Addr) (cl : List (Str × Addr)) (fp : List Addr), SndE B (X.blk s H scope (compEnvC scope cl C X.env) fp) W0 elt g
  ho : ∀ i ∈ tgIx tgi, i ∈ own.map (·.2)
  hs : ∀ x, foldedSetIterable iter X.env x = pure x
section
variable {elt tg iter : Expr} {ifs : List Expr} {scope : Scope} {own : List (Str × Nat)} {pos : Pos} {it : Ab.It} {src t g : IE} {tgi : Tg}
theorem snd_lc (hK : X.K = B.K) (o : LcOk B X W elt tg iter ifs scope own it src t g tgi) : SndE B X W (.ListComp elt [⟨tg, iter, ifs, 0⟩] scope pos) (.comp it src tgi t g (own.map (·.2))) := snd_comp hK o.hc o.hN o.hi o.bo o.hg o.ht o.he o.ho o.hs
theorem snn_lc (hK : X.K = B.K) (o : LcOk B X W elt tg iter ifs scope own it src t g tgi) : SndN B X W (.ListComp elt [⟨tg, iter, ifs, 0⟩] scope pos) (.comp it src tgi t g (own.map (·.2))) :=
  ⟨(pe_lc o.hc o.hN (o.hi (pureI t && pureI g)) o.bo o.hg (fun s H C cl fp => (o.ht s H C cl fp).pts) (fun s H C cl fp => (o.he s H C cl fp).pe false) o.hs).imp (lc_readN hK o.ho)⟩
theorem sns_setLc {i : Nat} {y : Str} {py spos : Pos} (hK : X.K = B.K) (hy : X.N[i]? = some y) (hyl : X.env.scope.names.lookup y = some .local) (hsw : swapsWith (.ListComp elt [⟨tg, iter, ifs, 0⟩] scope pos) (some (.Name y py)) spos.line X.env = pure true)
    (o : LcOk B X W elt tg iter ifs scope own it src t g tgi) : SndS B X W (.Assign [.Name y py] (.ListComp elt [⟨tg, iter, ifs, 0⟩] scope pos) spos) (.asg (.nm i) (.comp it src tgi t g (own.map (·.2)))) :=
  (ps_setLc o.hc o.hN hy hyl hsw (o.hi (pureI t && pureI g)) o.bo o.hg (fun s H C cl fp => (o.ht s H C cl fp).pts) (fun s H C cl fp => (o.he s H C cl fp).pe false) o.hs).imp fun D σ H h => lc_read hK o.ho _ _ _ (asg_read (tg := .nm i) hK D σ H h)
theorem sns_ownLc {i : Nat} {y : Str} {py spos : Pos} (hK : X.K = B.K) (hy : X.N[i]? = some y) (hyl : X.env.scope.names.lookup y = some .local) (hsw : swapsWith (.ListComp elt [⟨tg, iter, ifs, 0⟩] scope pos) (some (.Name y py)) spos.line X.env = pure true)
    (o : LcOk B X W elt tg iter ifs scope own it src t g tgi) : SndS B X W (.Assign [.Name y py] (.ListComp elt [⟨tg, iter, ifs, 0⟩] scope pos) spos) (.own i (.comp it src tgi t g (own.map (·.2)))) :=
  (ps_setLc o.hc o.hN hy hyl hsw (o.hi (pureI t && pureI g)) o.bo o.hg (fun s H C cl fp => (o.ht s H C cl fp).pts) (fun s H C cl fp => (o.he s H C cl fp).pe false) o.hs).imp fun D σ H h => lc_readN hK o.ho _ _ _ (own_read D σ H h)
end
/-! ### append, a place of a list stored -/
theorem ownLst_of {e : En} {i : Nat} {l : List AV} (h : ownLst e i = some l) : e[i]? = some (some (.own (.lst l))) := by
  unfold ownLst at h
  split at h
  · rename_i q
    cases h
    exact q
  · cases h
theorem ownC_of {e : En} {i : Nat} {l : AV} (h : ownC e i = some l) : e[i]? = some (some (.own l)) := by
  unfold ownC at h
  split at h
  · rename_i q
    cases h
    exact q
  · cases h
/-- an own container of the frame changes -/
theorem chg_erep {S : WS} {e : En} {σ : L2.St} {i : Nat} {b : Addr} {o : HO} {c' : AV} (er : ERep B S e σ) (hv : σ[i]? = some (some (.ref b))) (hb : S.w b = some (.slot i)) (hi : i < e.length) (hc : (S.put b o).C B c' b) : ERep B (S.put b o) (e.set i (some (.own c'))) σ := by
  refine ⟨by rw [List.length_set]; exact er.len, fun j fv q => ?_⟩
  by_cases z : i = j
  · subst z
    rw [List.getElem?_set_self hi] at q
    cases q
    exact ⟨_, hv, b, rfl, hb, hc⟩
  · rw [List.getElem?_set_ne z] at q
    obtain ⟨v, h1, h2⟩ := er.at_ j fv q
    refine ⟨v, h1, ?_⟩
    cases fv with
    | val d => exact chg_rep hb h2
    | gone => exact trivial
    | exc _ => first | exact trivial | exact h2 | exact e2 | exact h
    | own c =>
      obtain ⟨b', rfl, hb', hc'⟩ := h2
      exact ⟨b', rfl, hb', chg_cont hb (fun y => by rw [y, hb] at hb'; cases hb'; exact z rfl) hc'⟩
theorem chg_leS {S : WS} {b : Addr} {o : HO} {i : Nat} (hb : S.w b = some (.slot i)) : S.leS (S.put b o) :=
  ⟨fun _ _ e => e, by rw [chg_G hb]; exact Same.refl _, fun a e => ⟨e, upd_ne fun z => by rw [z, hb] at e; cases e⟩⟩
theorem chg_rs {S : WS} {b : Addr} {o : HO} {i : Nat} (hb : S.w b = some (.slot i)) {l : List AV} {xs : List V} (h : S.Rs B l xs) : (S.put b o).Rs B l xs := h.imp fun _ _ z => chg_rep hb z
theorem own_lst {S : WS} {e : En} {σ : L2.St} {i : Nat} {l : List AV} (er : ERep B S e σ) (h : e[i]? = some (some (.own (.lst l)))) : ∃ b xs, σ[i]? = some (some (.ref b)) ∧ S.w b = some (.slot i) ∧ S.H b = some (.lst xs) ∧ S.Rs B l xs := by
  obtain ⟨v, hv, b, rfl, hb, hc⟩ := er.at_ i _ h
  cases hc with
  | lst q t => exact ⟨b, _, hv, hb, q, reps_fo t⟩
theorem sns_app {i : Nat} {x : Str} {e : Expr} {ia : IE} {p apos cpos pos : Pos} (hN : X.N[i]? = some x) (hv : Vis X.env.scope x) (hd : (x == ("__debug__" : Str)) = false) (hcd : (x == ("__classdict__" : Str)) = false) (h : SndE B X W e ia) (hs : noStar e = true)
    (hline : (apos.endLine == cpos.line) = true) : SndS B X W (.Expr (.Call (.Attribute (.Name x p) "append" apos) [e] [] cpos) pos) (.app i ia) := by
  have hpe : PE X (.Call (.Attribute (.Name x p) "append" apos) [e] [] cpos) (tBM X.K "list" rAppend (tVar i) (tCons (tE B W false ia) tNil)) :=
    pe_bm PySem.F.plainAttrs_list PySem.F.slot_list_append PySem.F.type_list_append mt_append (pe_var hN hv hd hcd) (pa_cons (h.pe false) pa_nil (starEach_of hs)) rfl (by rw [starEach_of hs]; rfl) hline (starEach_of hs) (plainArgs (by rfl))
  refine (ps_expr hpe rfl).imp fun D σ H h => ?_
  obtain ⟨S, env, rfl, ok, er, out⟩ := h
  have out : OutS B W S D (match ownLst env i with | some l => (ev false ia env S.ah).thn env fun d h1 => if l.length < LIM then .nx (env.set i (some (.own (.lst (l ++ [d]))))) h1 else .bad | none => .bad) := out
  cases q : ownLst env i with
  | none => rw [q] at out; exact out.elim
  | some l =>
    rw [q] at out
    have q' := ownLst_of q
    obtain ⟨b, xs, h1, hb, hx, hr⟩ := own_lst er q'
    refine ⟨.ref b, h1, .inl ⟨rfl, xs, SqL.of hx⟩, ?_⟩
    refine tE_s ok er out fun T d x ok1 l1 er1 hx1 o1 => ?_
    refine ⟨b, ?_⟩
    obtain ⟨b', xs', h1', hb', hx', hr'⟩ := own_lst er1 q'
    rw [h1] at h1'
    cases h1'
    have o1 : OutS B W T D (if l.length < LIM then .nx (env.set i (some (.own (.lst (l ++ [d]))))) T.ah else .bad) := o1
    by_cases c : l.length < LIM
    · rw [if_pos c] at o1
      have sz : xs'.length < LIM := by rw [← hr'.len]; exact c
      refine ⟨xs', x, rfl, rfl, hx', by rw [← LIM_line]; exact sz, ?_⟩
      have hi : i < env.length := (List.getElem?_eq_some_iff.mp q').1
      refine o1 (T.put b (.lst (xs' ++ [x]))) σ (chg_ok ok1 hb' (fun _ e => by cases e) (fun _ _ e => by cases e) (fun ys e => by cases e; rw [List.length_append]; simp; omega) (fun _ e => by cases e) (fun _ _ e => by cases e)) rfl (chg_leS hb') (chg_erep er1 h1 hb' hi (.lst upd_same (fo_reps (chg_rs hb' (hr'.app (.cons hx1 .nil))))))
    · rw [if_neg c] at o1; exact o1.elim
end
end Ab

set_option autoImplicit false
set_option maxHeartbeats 4000000
/-! AbN: objects: fields, methods, makes. -/
namespace Ab
open PySem PySem.Spec PyProof.Rows L2

section
variable {B : Bs} {X : Cx} {W : WX} {D : Ends}
/-! ### fields -/
theorem look_cons (f g : Str) (x : V) (r : List (Str × V)) : List.lookup f ((g, x) :: r) = if g = f then some x else List.lookup f r := by
  rw [List.lookup_cons]
  by_cases h : g = f
  · subst h; simp
  · have : (f == g) = false := beq_eq_false_iff_ne.mpr fun z => h z.symm
    rw [this, if_neg h]
theorem frs_look {S : WS} {n : Nat} {f : Str} {fv : FV} : ∀ {fs : List (Str × FV)} {fs' : List (Str × V)}, FRs B S n fs fs' → lookF f fs = some fv → ∃ v, fs'.lookup f = some v ∧ FR B S n f fv v
  | _, _, .nil, h => by cases h
  | (g, u) :: r, (g', x) :: r', .cons ⟨e1, e2⟩ t, h => by
    have e1 : g = g' := e1
    subst e1
    have h : (if g = f then some u else lookF f r) = some fv := h
    rw [look_cons]
    by_cases c : g = f
    · rw [if_pos c] at h ⊢
      cases h
      subst c
      exact ⟨x, rfl, e2⟩
    · rw [if_neg c] at h ⊢
      exact frs_look t h
theorem frs_none {S : WS} {n : Nat} {f : Str} : ∀ {fs : List (Str × FV)} {fs' : List (Str × V)}, FRs B S n fs fs' → lookF f fs = none → fs'.lookup f = none
  | _, _, .nil, h => rfl
  | (g, u) :: r, (g', x) :: r', .cons ⟨e1, e2⟩ t, h => by
    have e1 : g = g' := e1
    subst e1
    have h : (if g = f then some u else lookF f r) = none := h
    rw [look_cons]
    by_cases c : g = f
    · rw [if_pos c] at h; cases h
    · rw [if_neg c] at h ⊢
      exact frs_none t h
theorem frs_put {S : WS} {n : Nat} {f : Str} {fv : FV} {v : V} (hv : FR B S n f fv v) : ∀ {fs : List (Str × FV)} {fs' : List (Str × V)}, FRs B S n fs fs' → FRs B S n (putFA f fv fs) (putF f v fs')
  | _, _, .nil => .cons ⟨rfl, hv⟩ .nil
  | (g, u) :: r, (g', x) :: r', .cons ⟨e1, e2⟩ t => by
    have e1 : g = g' := e1
    subst e1
    show FRs B S n (if g = f then (g, fv) :: r else (g, u) :: putFA f fv r) (if g = f then (g, v) :: r' else (g, x) :: putF f v r')
    by_cases c : g = f
    · rw [if_pos c, if_pos c]
      exact .cons ⟨rfl, by subst c; exact hv⟩ t
    · rw [if_neg c, if_neg c]
      exact .cons ⟨rfl, e2⟩ (frs_put hv t)
/-- the object that a reference means -/
theorem obj_at {S : WS} (ok : S.Ok B) {n : Nat} {x : V} (h : S.R B (.ref n) x) {c : Nat} {fs : List (Str × FV)} (e : S.ah[n]? = some (.ins c fs)) : ∃ a dx fs', x = .ref a ∧ S.w a = some (.obj n) ∧ S.H a = some (.ins (B.ca c) dx fs') ∧ FRs B S n fs fs' := by
  cases h with
  | ref hw =>
    obtain ⟨b, hb, dx, fs', h1, h2⟩ := ok.objs n _ e
    have := ok.inj _ _ n hw hb
    subst this
    exact ⟨_, dx, fs', rfl, hw, h1, h2⟩
theorem snd_fld {cs : List Nat} {o : Expr} {f : Str} {io : IE} {pos : Pos} (hK : X.K = B.K) (hb : attributeBase o f X.env (eval o X.env) = eval o X.env) (hc : ∀ c ∈ cs, Cls X.K (B.ca c) ∧ NoAttr X.K (B.ca c) f) (h : SndE B X W o io) : SndE B X W (.Attribute o f pos) (.fld cs io f) := by
  refine .plain (fun v => (pe_fld (h.pe false) hb).imp fun σ H Q h => ?_) rfl
  obtain ⟨S, env, rfl, ok, er, out⟩ := h
  refine tE_use (p2 := true) ok er out (fun z => ⟨z, rfl⟩) fun T d x ok1 l1 er1 h1 o1 => ?_
  cases d <;> first | exact o1.elim | skip
  rename_i n
  have o1 : Outs B T true (RV B v) (WE B W σ) (match T.ah[n]? with
    | some (.ins c fs) => if cs.contains c = true then (match lookF f fs with
      | some (.val d) => .ok (if v then vw T.ah d else d) T.ah
      | some (.own c) => if v then .ok c T.ah else .bad
      | _ => .bad) else .bad
    | _ => .bad) Q := o1
  cases q : T.ah[n]? with
  | none => rw [q] at o1; exact o1.elim
  | some ob =>
    rw [q] at o1
    cases ob with
    | gone => exact o1.elim
    | box c => exact o1.elim
    | ins c fs =>
      simp only at o1
      by_cases cc : cs.contains c = true
      · rw [if_pos cc] at o1
        obtain ⟨a, dx, fs', rfl, hw, ha, hf⟩ := obj_at ok1 h1 q
        obtain ⟨k1, k2⟩ := hc c (by simpa using cc)
        cases q2 : lookF f fs with
        | none => rw [q2] at o1; exact o1.elim
        | some fv =>
          rw [q2] at o1
          obtain ⟨y, hy, hr⟩ := frs_look hf q2
          refine ⟨a, B.ca c, dx, fs', y, rfl, ha, k1, k2, hy, ?_⟩
          cases fv with
          | gone => exact o1.elim
          | exc _ => exact o1.elim
          | val d => exact fin_fresh ok1 hr o1
          | own c =>
            cases v with
            | false => exact o1.elim
            | true =>
              obtain ⟨b, rfl, hb, hcc⟩ := hr
              exact o1 T ok1 rfl (.refl _ _) (.ref b) (.inr ⟨b, rfl, hcc⟩)
      · rw [if_neg cc] at o1; exact o1.elim
/-! ### an object changes -/
def WS.obj (S : WS) (a : Addr) (o : HO) (n : Nat) (ob : AO) : WS := { S.put a o with ah := S.ah.set n ob }
section
variable {S : WS} {a : Addr} {o : HO} {n : Nat} {ob : AO}
theorem obj_G (ha : S.w a = some (.obj n)) : (S.obj a o n ob).G = S.G := chg_G (o := o) ha
theorem obj_rep (ha : S.w a = some (.obj n)) {d : AV} {v : V} (h : S.R B d v) : (S.obj a o n ob).R B d v := chg_rep (o := o) ha h
theorem obj_cont (ha : S.w a = some (.obj n)) {d : AV} {b : Addr} (hb : b ≠ a) (h : S.C B d b) : (S.obj a o n ob).C B d b := by
  have := chg_cont (o := o) ha hb h
  cases this with
  | lst q t => exact .lst q t
  | dk q k t => exact .dk q k t
  | dt q k t => exact .dt q k t
theorem obj_fr (ha : S.w a = some (.obj n)) {m : Nat} {f : Str} {fv : FV} {v : V} (h : FR B S m f fv v) : FR B (S.obj a o n ob) m f fv v := by
  cases fv with
  | val d => exact obj_rep ha h
  | gone => exact trivial
  | exc _ => first | exact trivial | exact h2 | exact e2 | exact h
  | own c =>
    obtain ⟨b, rfl, hb, hc⟩ := h
    exact ⟨b, rfl, hb, obj_cont ha (fun z => by rw [z, ha] at hb; cases hb) hc⟩
theorem obj_ok (ok : S.Ok B) (ha : S.w a = some (.obj n)) {c : Nat} {fs : List (Str × FV)} {dx : Addr} {fs' : List (Str × V)} (ho : o = .ins (B.ca c) dx fs') (hob : ob = .ins c fs) (hf : FRs B S n fs fs') : (S.obj a o n ob).Ok B := by
  subst ho hob
  refine ⟨fun m x e => ?_, ok.inj, fun b m e => ?_, fun b x e => ?_, fun b xs e => ?_, fun b xs e => ?_⟩
  · have e : (S.ah.set n (.ins c fs))[m]? = some x := e
    by_cases z : n = m
    · subst z
      have hl : n < S.ah.length := ok.lt a n ha
      rw [List.getElem?_set_self hl] at e
      cases e
      exact ⟨a, ha, dx, fs', upd_same, hf.imp fun u v ⟨e1, e2⟩ => ⟨e1, obj_fr ha e2⟩⟩
    · rw [List.getElem?_set_ne z] at e
      obtain ⟨b, hb, q⟩ := ok.objs m x e
      have nb : b ≠ a := fun y => by rw [y, ha] at hb; cases hb; exact z rfl
      refine ⟨b, hb, ?_⟩
      cases x with
      | gone => exact trivial
      | box c' => exact obj_cont ha nb q
      | ins c' gs =>
        obtain ⟨dx', gs', q1, q2⟩ := q
        exact ⟨dx', gs', (upd_ne nb).trans q1, q2.imp fun u v ⟨e1, e2⟩ => ⟨e1, obj_fr ha e2⟩⟩
  · show m < (S.ah.set n _).length
    rw [List.length_set]; exact ok.lt b m e
  · by_cases z : b = a
    · exact ⟨_, by rw [z]; exact upd_same⟩
    · obtain ⟨y, hy⟩ := ok.trk b x e
      exact ⟨y, (upd_ne z).trans hy⟩
  · have e : upd S.H a (.ins (B.ca c) dx fs') b = some (.lst xs) := e
    by_cases z : b = a
    · rw [z, upd_same] at e; cases e
    · rw [upd_ne z] at e; exact ok.szl b xs e
  · have e : upd S.H a (.ins (B.ca c) dx fs') b = some (.tup xs) := e
    by_cases z : b = a
    · rw [z, upd_same] at e; cases e
    · rw [upd_ne z] at e; exact ok.szt b xs e
theorem obj_leS (ha : S.w a = some (.obj n)) : S.leS (S.obj a o n ob) :=
  ⟨fun _ _ e => e, by rw [obj_G ha]; exact Same.refl _, fun b e => ⟨e, upd_ne fun z => by rw [z, ha] at e; cases e⟩⟩
theorem obj_erep (ha : S.w a = some (.obj n)) {e : En} {σ : L2.St} (er : ERep B S e σ) : ERep B (S.obj a o n ob) e σ := by
  refine ⟨er.len, fun i fv q => ?_⟩
  obtain ⟨v, h1, h2⟩ := er.at_ i fv q
  refine ⟨v, h1, ?_⟩
  cases fv with
  | val d => exact obj_rep ha h2
  | gone => exact trivial
  | exc _ => first | exact trivial | exact h2 | exact e2 | exact h
  | own c =>
    obtain ⟨b, rfl, hb, hc⟩ := h2
    exact ⟨b, rfl, hb, obj_cont ha (fun z => by rw [z, ha] at hb; cases hb) hc⟩
end
theorem putO_of {cs : List Nat} {x : AV} {f : Str} {fv : FV} {h h' : AH} (q : putO cs x f fv h = some h') : ∃ n c fs, x = .ref n ∧ h[n]? = some (.ins c fs) ∧ c ∈ cs ∧ fs.length < 1000 ∧ h' = h.set n (.ins c (putFA f fv fs)) := by
  cases x <;> first | cases q | skip
  rename_i n
  have q : (match h[n]? with
    | some (.ins c fs) => if cs.contains c = true ∧ fs.length < 1000 then some (h.set n (.ins c (putFA f fv fs))) else none
    | _ => none) = some h' := q
  cases e : h[n]? with
  | none => rw [e] at q; cases q
  | some ob =>
    rw [e] at q
    cases ob with
    | gone => cases q
    | box c => cases q
    | ins c fs =>
      simp only at q
      by_cases cc : cs.contains c = true ∧ fs.length < 1000
      · rw [if_pos cc] at q
        cases q
        exact ⟨n, c, fs, rfl, e, by simpa using cc.1, cc.2, rfl⟩
      · rw [if_neg cc] at q; cases q
theorem frs_len {S : WS} {n : Nat} {fs : List (Str × FV)} {fs' : List (Str × V)} (h : FRs B S n fs fs') : fs.length = fs'.length := h.len
theorem sns_fset {cs : List Nat} {o e : Expr} {f : Str} {io ie : IE} {pos pos' : Pos} (hc : ∀ c ∈ cs, Cls X.K (B.ca c) ∧ NoAttr X.K (B.ca c) f) (ho : SndE B X W o io) (he : SndE B X W e ie) (hs : swapsWith e (some (.Attribute o f pos')) pos.line X.env = pure false) :
    SndS B X W (.Assign [.Attribute o f pos'] e pos) (.fset cs io f ie) := (ps_fld (ho.pe false) (he.pe false) hs).imp fun D σ H h => by
  obtain ⟨S, env, rfl, ok, er, out⟩ := h
  refine tE_s ok er out fun T d y ok1 l1 er1 h1 o1 => ?_
  refine tE_s ok1 er1 o1 fun U d2 x ok2 l2 er2 h2 o2 => ?_
  have o2 : OutS B W U D (match putO cs d2 f (.val d) U.ah with | some h3 => .nx env h3 | none => .bad) := o2
  cases q : putO cs d2 f (.val d) U.ah with
  | none => rw [q] at o2; exact o2.elim
  | some h3 =>
    rw [q] at o2
    obtain ⟨n, c, fs, rfl, e1, cc, hl, rfl⟩ := putO_of q
    obtain ⟨a, dx, fs', rfl, hw, ha, hf⟩ := obj_at ok2 h2 e1
    obtain ⟨k1, k2⟩ := hc c cc
    refine ⟨a, B.ca c, dx, fs', rfl, ha, k1, k2, by rw [← frs_len hf]; exact hl, ?_⟩
    have hy : FR B U n f (.val d) y := l2.rep h1
    exact o2 (U.obj a (.ins (B.ca c) dx (putF f y fs')) n (.ins c (putFA f (.val d) fs))) σ (obj_ok ok2 hw rfl rfl (frs_put hy hf)) rfl (obj_leS hw) (obj_erep hw er2)
/-! ### a container made for a field -/
theorem OutS.thn2 {S T1 : WS} {p : Bool} {α β : Type} {rel : WS → α → β → Prop} {r : Ab.R α} {e : En} {σ : L2.St} {k : α → AH → RS} {Q1 : β → Hp → Prop} (h : OutS B W S D (r.thn e k)) (l : S.leS T1) (er : ERep B T1 e σ)
    (hQ : ∀ (T : WS) d x, T.Ok B → T1.le p T → rel T d x → OutS B W S D (k d T.ah) → Q1 x T.H) : Outs B T1 p rel (WE B W σ) r Q1 := by
  cases r with
  | bad => exact h
  | exc c a => exact fun T ok e l2 => h T σ ok e (l.trans l2.s) (er.mono l2)
  | ok d a =>
    intro T ok e l2 x hx
    subst e
    exact hQ T d x ok l2 hx h
theorem sns_fown {cs : List Nat} {o e : Expr} {f : Str} {io ie : IE} {pos pos' : Pos} (hc : ∀ c ∈ cs, Cls X.K (B.ca c) ∧ NoAttr X.K (B.ca c) f) (ho : SndE B X W o io) (he : SndN B X W e ie) (hs : swapsWith e (some (.Attribute o f pos')) pos.line X.env = pure false) :
    SndS B X W (.Assign [.Attribute o f pos'] e pos) (.fown cs io f ie) := (ps_fld (ho.pe false) he.pn hs).imp fun D σ H h => by
  obtain ⟨S, env, rfl, ok, er, out⟩ := h
  refine ⟨S, env, rfl, ok, er, OutS.thn' out er fun T d y ok1 l1 h1 o1 => ?_⟩
  obtain ⟨b, rfl, h0, hw, hcont⟩ := h1
  have er1 := er.mono l1
  refine ⟨T, env, rfl, ok1, er1, OutS.thn2 o1 l1.s er1 fun U d2 x ok2 l2 h2 o2 => ?_⟩
  have o2 : OutS B W S D (match putO cs d2 f (.own d) U.ah with | some h3 => .nx env h3 | none => .bad) := o2
  cases q : putO cs d2 f (.own d) U.ah with
  | none => rw [q] at o2; exact o2.elim
  | some h3 =>
    rw [q] at o2
    obtain ⟨n, c, fs, rfl, e1, cc, hl, rfl⟩ := putO_of q
    obtain ⟨u1, u2⟩ := l2.outs b hw
    have hc2 := l2.cont hcont u2
    have l02 : S.leS U := l1.s.trans l2.s
    -- the container is the field's from now on
    have ok3 := hold_ok (ow' := .fld n f) ok2 u1 (fun _ z => nomatch z) (fun _ _ z => nomatch z) fun _ z => nomatch z
    have h2' : (U.hold b (.fld n f)).R B (.ref n) x := hold_rep u1 (fun _ z => nomatch z) h2
    obtain ⟨a, dx, fs', rfl, hwa, ha, hf⟩ := obj_at ok3 h2' e1
    obtain ⟨k1, k2⟩ := hc c cc
    refine ⟨a, B.ca c, dx, fs', rfl, ha, k1, k2, by rw [← frs_len hf]; exact hl, ?_⟩
    have hy : FR B (U.hold b (.fld n f)) n f (.own d) (.ref b) := ⟨b, rfl, hold_at, hold_cont u1 (fun _ z => nomatch z) hc2⟩
    exact o2 ((U.hold b (.fld n f)).obj a (.ins (B.ca c) dx (putF f (.ref b) fs')) n (.ins c (putFA f (.own d) fs))) σ (obj_ok ok3 hwa rfl rfl (frs_put hy hf)) rfl ((hold_leS l02 h0 u1).trans (obj_leS hwa)) (obj_erep hwa (hold_erep (er1.mono l2) u1))
/-! ### methods -/
def noSuper : Expr → Bool
  | .Call (.Name _ _) (_ :: _) _ _ => true
  | .Call (.Attribute _ _ _) _ _ _ => true
  | .Call _ _ _ _ => false
  | _ => true
theorem base_of {o : Expr} {m : Str} {env : Env} (h : noSuper o = true) : attributeBase o m env (eval o env) = eval o env := by
  cases o <;> first | rfl | skip
  rename_i fn es ks pos
  cases fn <;> first | (cases h; done) | rfl | (cases es <;> first | (cases h; done) | rfl)
def tMethS (C : Addr) (m : Str) (sp : Sp) (E : L2.St → XK) (ta : TE) (t : TA) : TE := fun σ H Q => ta σ H fun x H1 => ∃ a dx fs, x = .ref a ∧ H1 a = some (.ins C dx fs) ∧ fs.lookup m = none ∧ t σ H1 fun vs H2 => sp (x :: vs) H2 Q (E σ)
theorem fewArgs {es : List Expr} {env : Env} {pos : Pos} (h : es.all noStar = true) : (backTo pos (starEach es env)).all (fun x => !x.1) = true := by
  induction es with
  | nil => rfl
  | cons e es ih =>
    rw [List.all_cons, Bool.and_eq_true] at h
    rw [starEach_of h.1]
    show (true && (backTo pos (starEach es env)).all (fun x => !x.1)) = true
    rw [ih h.2]; rfl
def lineOk (apos pos : Pos) (es : List Expr) : Bool := (apos.endLine == pos.line) && decide (es.length < 30)
theorem mcall_eq {o : Expr} {m : Str} {apos pos : Pos} {args : List Expr} {env : Env} (h : noSuper o = true) (ha : args.all noStar = true) (hl : lineOk apos pos args = true) : ∃ pl : PySem.Sem Bool, eval (.Call (.Attribute o m apos) args [] pos) env = (do
    let ov ← eval o env
    standAt apos.atName
    let (f, first) ← holding [ov] (getMethod ov m pl)
    callWith pos f first (backTo pos (starEach args env)) (backToKw pos (keywordEach [] env))) := by
  unfold lineOk at hl
  rw [Bool.and_eq_true, decide_eq_true_iff] at hl
  have few : methodCallForm (args.length + ([] : List Keyword).length) (backTo pos (starEach args env)) (backToKw pos (keywordEach [] env)) = true := by
    unfold methodCallForm
    rw [fewArgs ha]
    have e : (backToKw pos (keywordEach [] env)) = [] := rfl
    rw [e]
    have := hl.2
    simp
    omega
  refine ⟨(do return (← importBound o env).getD true), mcall_of (base_of h) fun ov => ?_⟩
  unfold methodCall calleeOf methodCallPos
  rw [few]
  simp only [if_true, hl.1, Bool.not_true, Bool.false_or]
  rfl
section
variable {o : Expr} {m : Str} {e : Expr} {es : List Expr} {C f : Addr} {fd : FuncData} {ps : List Str} {sp : Sp} {k : Nat} {E : L2.St → XK} {ta : TE} {t : TA} {apos pos : Pos}
theorem pe_methA (hb : noSuper o = true) (hln : lineOk apos pos (e :: es) = true) (he : PE X o ta) (c : Cls X.K C) (hm : Meth X.K C m f) (F : FnOk X.prog X.w X.K X.mg X.base (L2.CX X.prog X.w) k f fd ps sp) (hr : Room k X.A) (hbi : Binds X.K fd ps []) (hx : ∀ σ, PassesAt (L2.CX X.prog X.w) X σ (E σ)) (ha : PA X (e :: es) t)
    (hs : (e :: es).all noStar = true) : PE X (.Call (.Attribute o m apos) (e :: es) [] pos) (tMethS C m sp E ta t) := by
  refine ⟨fun pins s σ H Q I h => ?_⟩
  obtain ⟨pl, ht⟩ := mcall_eq (m := m) (apos := apos) (pos := pos) (args := e :: es) (env := X.env) hb hs hln
  refine PySem.W.methodCall_KW (pl := pl) (thn (he.run pins s σ H _ I h) fun u s1 ⟨x, H1, I1, rx, a, dx, fs, ex, ea, l, q⟩ => ?_) ht
  subst ex
  obtain rfl : u = Value.ref a := rx
  refine getmeth_ok I1 ea c hm l ?_
  rw [List.all_cons, Bool.and_eq_true] at hs
  refine PySem.W.callWith_K (first := [.ref a]) (h₀ := X.base) I.ok.mod.kin hm.kp (thn (ha.run pos pins s1 σ H1 _ I1 q) fun us s2 ⟨vs, H2, I2, r, q2⟩ => ⟨I2.kIn, ?_⟩) (starEach_of hs.1) (plainArgs hs.2)
  exact run_fnS (us := .ref a :: us) (vs := .ref a :: vs) F hr hbi (hx σ) I2 (.cons rfl r) q2
theorem pe_methA0 (hb : noSuper o = true) (hln : lineOk apos pos [] = true) (he : PE X o ta) (c : Cls X.K C) (hm : Meth X.K C m f) (F : FnOk X.prog X.w X.K X.mg X.base (L2.CX X.prog X.w) k f fd ps sp) (hr : Room k X.A) (hbi : Binds X.K fd ps []) (hx : ∀ σ, PassesAt (L2.CX X.prog X.w) X σ (E σ)) :
    PE X (.Call (.Attribute o m apos) [] [] pos) (tMethS C m sp E ta tNil) := by
  refine ⟨fun pins s σ H Q I h => ?_⟩
  obtain ⟨pl, ht⟩ := mcall_eq (m := m) (apos := apos) (pos := pos) (args := []) (env := X.env) hb rfl hln
  refine PySem.W.methodCall_KW (pl := pl) (thn (he.run pins s σ H _ I h) fun u s1 ⟨x, H1, I1, rx, a, dx, fs, ex, ea, l, q⟩ => ?_) ht
  subst ex
  obtain rfl : u = Value.ref a := rx
  refine getmeth_ok I1 ea c hm l ?_
  exact PySem.W.callWith_K0 (first := [.ref a]) I1.kIn hm.kp (run_fnS (us := [.ref a]) (vs := [.ref a]) F hr hbi (hx σ) I1 (.cons rfl .nil) q)
end
/-- what is known of a method at a class -/
structure MethOk (B : Bs) (P : Program) (w : World) (K : PySem.W.Frag) (mg : Str → Option Value) (base : Heap) (k : Nat) (m : Str) (ar c : Nat) (F : Sem) : Prop where
  cls : Cls K (B.ca c)
  ex : ∃ (f : Addr) (fd : FuncData) (ps : List Str) (kf : Nat), ps.length = ar ∧ kf ≤ k ∧ FnOk P w K mg base (L2.CX P w) kf f fd ps (spOf B F ar) ∧ Meth K (B.ca c) m f ∧ Binds K fd ps []
/-- the reading where the class is known -/
def tMethC (B : Bs) (W : WX) (v : Bool) (m : Str) (c : Nat) (F : Sem) (io ia : IE) : TE := fun σ H Q => ∃ (S : WS) (env : En), S.H = H ∧ S.Ok B ∧ ERep B S env σ ∧
  Outs B S false (RV B v) (WE B W σ) ((ev false io env S.ah).bind fun x h1 => match methOf m [(c, F)] x h1 with
    | some F => (ev false ia env h1).bind fun ds h2 => (match ds with
      | .tup l => (F.2 (.ref F.1 :: l) h2).bind fun d h3 => fresh v d h3
      | _ => .bad)
    | none => .bad) Q
theorem methOf1 {m : Str} {c : Nat} {F : Sem} {d : AV} {h : AH} {G : Nat × Sem} (q : methOf m [(c, F)] d h = some G) : ∃ n fs, d = .ref n ∧ h[n]? = some (.ins c fs) ∧ lookF m fs = none ∧ G = (n, F) := by
  cases d <;> first | cases q | skip
  rename_i n
  have q : (match h[n]? with
    | some (.ins c' fs) => if (lookF m fs).isNone = true then (([(c, F)] : List (Nat × Sem)).lookup c').map fun F => (n, F) else none
    | _ => none) = some G := q
  cases e : h[n]? with
  | none => rw [e] at q; cases q
  | some ob =>
    rw [e] at q
    cases ob with
    | gone => cases q
    | box c => cases q
    | ins c' fs =>
      simp only at q
      by_cases z : (lookF m fs).isNone = true
      · rw [if_pos z] at q
        rw [List.lookup_cons] at q
        by_cases y : c' = c
        · subst y
          simp at q
          exact ⟨n, fs, rfl, e, by simpa using z, q.symm⟩
        · have : (c' == c) = false := beq_eq_false_iff_ne.mpr y
          rw [this] at q
          cases q
      · rw [if_neg z] at q; cases q
theorem meth_one {o : Expr} {m : Str} {es : List Expr} {io ia : IE} {k ar c : Nat} {F : Sem} {apos pos : Pos} (hb : noSuper o = true) (hln : lineOk apos pos es = true) (M : MethOk B X.prog X.w X.K X.mg X.base k m ar c F) (hr : Room k X.A) (tk : Takes X W) (ho : SndE B X W o io) (ha : SndA B X W es ia) (hs : es.all noStar = true) (hl : argsN ia = some (es.length)) (hal : es.length + 1 = ar) (v : Bool) :
    PE X (.Call (.Attribute o m apos) es [] pos) (tMethC B W v m c F io ia) := by
  obtain ⟨f, fd, ps, kf, e1, e2, FO, hm, hbi⟩ := M.ex
  have hx : ∀ σ, PassesAt (L2.CX X.prog X.w) X σ (fun cls d H => W cls d σ H) := fun σ => passAt tk σ
  -- behind the receiver: the arguments, then the promise
  have body : ∀ σ H Q, tMethC B W v m c F io ia σ H Q → tMethS (B.ca c) m (spOf B F ar) (fun σ c d H => W c d σ H) (tE B W false io) (tA B W false ia) σ H Q := fun σ H Q h => by
    obtain ⟨S, env, rfl, ok, er, out⟩ := h
    refine tE_use (p2 := false) ok er out (fun z => nomatch z) fun T d x ok1 l1 er1 h1 o1 => ?_
    cases q : methOf m [(c, F)] d T.ah with
    | none => rw [q] at o1; exact o1.elim
    | some G =>
      rw [q] at o1
      obtain ⟨n, fs, rfl, e3, e4, rfl⟩ := methOf1 q
      obtain ⟨a, dx, fs', rfl, hw, hA, hf⟩ := obj_at ok1 h1 e3
      refine ⟨a, dx, fs', rfl, hA, frs_none hf e4, ?_⟩
      refine tA_useE (p2 := false) ok1 er1 o1 (fun z => nomatch z) fun U ds xs ok2 l2 er2 h2 e5 o2 => ?_
      obtain ⟨l, rfl, hl'⟩ := h2
      have len : xs.length = es.length := by rw [← hl'.len]; exact args_len hl e5
      have hr2 : U.Rs B (.ref n :: l) (.ref a :: xs) := .cons (l2.rep h1) hl'
      have hlen : (V.ref a :: xs).length = ar := by rw [List.length_cons, len]; exact hal
      rw [← hlen]
      exact call_sp ok2 hr2 o2 rfl
  cases es with
  | cons e es => exact (pe_methA hb hln (ho.pe false) M.cls hm FO (hr.mono e2) hbi hx (ha.pa false) hs).imp body
  | nil =>
    have e0 : ia = .nil := by
      cases ia <;> first | rfl | (cases hl; done) | skip
      rename_i a r
      have hl : (argsN r).map (· + 1) = some 0 := hl
      cases q : argsN r with
      | none => rw [q] at hl; cases hl
      | some j => rw [q] at hl; cases hl
    subst e0
    refine (pe_methA0 hb hln (ho.pe false) M.cls hm FO (hr.mono e2) hbi hx).imp fun σ H Q h => ?_
    obtain ⟨S, env, rfl, ok, er, out⟩ := h
    refine tE_use (p2 := false) ok er out (fun z => nomatch z) fun T d x ok1 l1 er1 h1 o1 => ?_
    cases q : methOf m [(c, F)] d T.ah with
    | none => rw [q] at o1; exact o1.elim
    | some G =>
      rw [q] at o1
      obtain ⟨n, fs, rfl, e3, e4, rfl⟩ := methOf1 q
      obtain ⟨a, dx, fs', rfl, hw, hA, hf⟩ := obj_at ok1 h1 e3
      refine ⟨a, dx, fs', rfl, hA, frs_none hf e4, ?_⟩
      have hr2 : T.Rs B [.ref n] [.ref a] := .cons h1 .nil
      have hlen : ([V.ref a] : List V).length = ar := hal
      rw [← hlen]
      exact call_sp ok1 hr2 o1 rfl
/-- a method by the class of its object -/
theorem methOf_pick {m : Str} {tbl : List (Nat × Sem)} {d : AV} {h : AH} {G : Nat × Sem} (q : methOf m tbl d h = some G) : ∃ c, (c, G.2) ∈ tbl ∧ methOf m [(c, G.2)] d h = some G := by
  cases d <;> first | cases q | skip
  rename_i n
  have q' : (match h[n]? with
    | some (.ins c' fs) => if (lookF m fs).isNone = true then (tbl.lookup c').map fun F => (n, F) else none
    | _ => none) = some G := q
  cases e : h[n]? with
  | none => rw [e] at q'; cases q'
  | some ob =>
    rw [e] at q'
    cases ob with
    | gone => cases q'
    | box c => cases q'
    | ins c' fs =>
      simp only at q'
      by_cases z : (lookF m fs).isNone = true
      · rw [if_pos z] at q'
        cases y : tbl.lookup c' with
        | none => rw [y] at q'; cases q'
        | some F =>
          rw [y] at q'
          cases q'
          refine ⟨c', ?_, ?_⟩
          · have : ∀ (l : List (Nat × Sem)), l.lookup c' = some F → (c', F) ∈ l := by
              intro l
              induction l with
              | nil => intro h; cases h
              | cons p r ih =>
                intro h
                obtain ⟨c2, F2⟩ := p
                rw [List.lookup_cons] at h
                by_cases w : c' = c2
                · subst w; simp at h; subst h; exact List.mem_cons_self
                · rw [beq_eq_false_iff_ne.mpr w] at h
                  exact List.mem_cons_of_mem _ (ih h)
            exact this tbl y
          · show (match h[n]? with
              | some (.ins c' fs) => if (lookF m fs).isNone = true then (([(_, F)] : List (Nat × Sem)).lookup c').map fun F => (n, F) else none
              | _ => none) = _
            rw [e]
            simp only [if_pos z, List.lookup_cons, beq_self_eq_true, Option.map_some]
      · rw [if_neg z] at q'; cases q'
theorem snd_meth {o : Expr} {m : Str} {es : List Expr} {io ia : IE} {k ar : Nat} {tbl : List (Nat × Sem)} {apos pos : Pos} (hb : noSuper o = true) (hln : lineOk apos pos es = true) (M : ∀ p ∈ tbl, MethOk B X.prog X.w X.K X.mg X.base k m ar p.1 p.2) (hr : Room k X.A) (tk : Takes X W) (ho : SndE B X W o io) (ha : SndA B X W es ia) (hs : es.all noStar = true) (hl : argsN ia = some (es.length)) (hal : es.length + 1 = ar) (hne : tbl ≠ []) :
    SndE B X W (.Call (.Attribute o m apos) es [] pos) (.meth m tbl io ia) := by
  refine .plain (fun v => ?_) rfl
  have any : PE X (.Call (.Attribute o m apos) es [] pos) (fun σ H Q => ∃ p ∈ tbl, tMethC B W v m p.1 p.2 io ia σ H Q) := ⟨fun pins s σ H Q I ⟨p, hp, z⟩ => (meth_one hb hln (M p hp) hr tk ho ha hs hl hal v).run pins s σ H Q I z⟩
  refine any.imp fun σ H Q h => ?_
  obtain ⟨S, env, rfl, ok, er, out⟩ := h
  have out : Outs B S false (RV B v) (WE B W σ) ((ev false io env S.ah).bind fun x h1 => match methOf m tbl x h1 with
    | some F => (ev false ia env h1).bind fun ds h2 => (match ds with
      | .tup l => (F.2 (.ref F.1 :: l) h2).bind fun d h3 => fresh v d h3
      | _ => .bad)
    | none => .bad) Q := out
  obtain ⟨p0, r0, e0⟩ : ∃ p r, tbl = p :: r := by
    cases tbl with
    | nil => exact absurd rfl hne
    | cons p r => exact ⟨p, r, rfl⟩
  have m0 : p0 ∈ tbl := by rw [e0]; exact List.mem_cons_self
  cases q : ev false io env S.ah with
  | bad => rw [q] at out; exact out.elim
  | exc c h =>
    refine ⟨p0, m0, S, env, rfl, ok, er, ?_⟩
    rw [q] at out ⊢
    exact out
  | ok d h1 =>
    rw [q] at out
    cases q2 : methOf m tbl d h1 with
    | none => simp only [R.bind_ok, q2] at out; exact out.elim
    | some G =>
      obtain ⟨c, hc, q3⟩ := methOf_pick q2
      refine ⟨(c, G.2), hc, S, env, rfl, ok, er, ?_⟩
      rw [q]
      simp only [R.bind_ok, q2, q3] at out ⊢
      exact out
/-! ### makes -/
structure MakeOk (B : Bs) (P : Program) (w : World) (K : PySem.W.Frag) (mg : Str → Option Value) (base : Heap) (k : Nat) (x : Str) (ar c : Nat) (F : Sem) : Prop where
  ex : ∃ (f : Addr) (fd : FuncData) (ps : List Str) (kf : Nat), ps.length = ar ∧ kf + 1 ≤ k ∧ FnOk P w K mg base (L2.CX P w) kf f fd ps (spOf B F ar) ∧ Mk K (B.ca c) f ∧ mg x = some (.ref (B.ca c)) ∧ Binds K fd ps []
theorem make_read {c ar : Nat} {F : Sem} {ia : IE} {n : Nat} {v : Bool} (hl : argsN ia = some n) (hal : n + 1 = ar) : ∀ σ H Q, tE B W v (.make c F ia) σ H Q → tMake (B.ca c) (spOf B F ar) [] E0 (tA B W false ia) σ H Q := fun σ H Q h => by
  obtain ⟨S, env, rfl, ok, er, out⟩ := h
  refine tA_useE (p2 := false) ok er out (fun z => nomatch z) fun T ds xs ok1 l1 er1 h1 e1 o1 => ?_
  obtain ⟨l, rfl, hl'⟩ := h1
  intro x dx hx hdx hne
  have o1 : Outs B T false (RV B v) (WE B W σ) (madeR T.ah.length (F (.ref T.ah.length :: l) (T.ah ++ [.ins c []]))) Q := o1
  have len : xs.length = n := by rw [← hl'.len]; exact args_len hl e1
  rw [List.append_nil]
  -- the new object
  have wx : T.w x = none := ok1.free hx
  have wdx : T.w dx = none := ok1.free hdx
  let T1 : WS := { H := upd (upd T.H dx (.own x)) x (.ins (B.ca c) dx []), ah := T.ah ++ [.ins c []], w := fun b => if b = x then some (.obj T.ah.length) else T.w b }
  have t1x : T1.w x = some (.obj T.ah.length) := if_pos rfl
  have t1n : ∀ b, b ≠ x → T1.w b = T.w b := fun b h => if_neg h
  have hkeep : ∀ b o, T.w b = some o → T1.w b = some o ∧ T1.H b = T.H b := fun b o e => by
    have n1 : b ≠ x := fun z => by rw [z, wx] at e; cases e
    have n2 : b ≠ dx := fun z => by rw [z, wdx] at e; cases e
    exact ⟨(t1n b n1).trans e, (upd_ne n1).trans (upd_ne n2)⟩
  have le1 : T.le true T1 := by
    refine ⟨fun a m e => (hkeep a _ e).1, fun b u e => ?_, fun b i e => hkeep b _ e, fun b e => hkeep b _ e, fun _ b o e => hkeep b o e⟩
    obtain ⟨e1, e2⟩ := WS.G_some e
    have n1 : b ≠ x := fun z => by rw [z, hx] at e2; cases e2
    have n2 : b ≠ dx := fun z => by rw [z, hdx] at e2; cases e2
    rw [WS.G_none (S := T1) ((t1n b n1).trans e1)]
    exact (upd_ne n1).trans ((upd_ne n2).trans e2)
  have ok2 : T1.Ok B := by
    have back : ∀ a m, T1.w a = some (.obj m) → (a = x ∧ m = T.ah.length) ∨ (a ≠ x ∧ T.w a = some (.obj m)) := fun a m e => by
      by_cases z : a = x
      · rw [z, t1x] at e; cases e; exact .inl ⟨z, rfl⟩
      · exact .inr ⟨z, (t1n a z).symm.trans e⟩
    refine ⟨fun m o e => ?_, fun a b m e1 e2 => ?_, fun a m e => ?_, fun a o e => ?_, fun a ys e => ?_, fun a ys e => ?_⟩
    · have e : (T.ah ++ [AO.ins c []])[m]? = some o := e
      by_cases z : m < T.ah.length
      · rw [List.getElem?_append_left z] at e
        obtain ⟨a, ha, q⟩ := ok1.objs m o e
        exact ⟨a, (hkeep a _ ha).1, q.mono le1 hkeep ha⟩
      · rw [List.getElem?_append_right (by omega)] at e
        have : m = T.ah.length := by
          have := (List.getElem?_eq_some_iff.mp e).1
          simp at this
          omega
        subst this
        rw [Nat.sub_self] at e
        cases e
        exact ⟨x, t1x, dx, [], upd_same, .nil⟩
    · rcases back a m e1 with ⟨a1, a2⟩ | ⟨a1, a2⟩
      · rcases back b m e2 with ⟨b1, b2⟩ | ⟨b1, b2⟩
        · rw [a1, b1]
        · have := ok1.lt b m b2; omega
      · rcases back b m e2 with ⟨b1, b2⟩ | ⟨b1, b2⟩
        · have := ok1.lt a m a2; omega
        · exact ok1.inj a b m a2 b2
    · show m < (T.ah ++ [AO.ins c []]).length
      rw [List.length_append]
      rcases back a m e with ⟨_, z⟩ | ⟨_, z⟩
      · simp; omega
      · have := ok1.lt a m z; simp; omega
    · by_cases z : a = x
      · exact ⟨_, by rw [z]; exact upd_same⟩
      · obtain ⟨u, hu⟩ := ok1.trk a o ((t1n a z).symm.trans e)
        have n2 : a ≠ dx := fun y => by rw [y, hdx] at hu; cases hu
        exact ⟨u, (upd_ne z).trans ((upd_ne n2).trans hu)⟩
    · have e : upd (upd T.H dx (.own x)) x (.ins (B.ca c) dx []) a = some (.lst ys) := e
      by_cases z : a = x
      · rw [z, upd_same] at e; cases e
      · rw [upd_ne z] at e
        by_cases y : a = dx
        · rw [y, upd_same] at e; cases e
        · rw [upd_ne y] at e; exact ok1.szl a ys e
    · have e : upd (upd T.H dx (.own x)) x (.ins (B.ca c) dx []) a = some (.tup ys) := e
      by_cases z : a = x
      · rw [z, upd_same] at e; cases e
      · rw [upd_ne z] at e
        by_cases y : a = dx
        · rw [y, upd_same] at e; cases e
        · rw [upd_ne y] at e; exact ok1.szt a ys e
  have r1 : T1.R B (.ref T.ah.length) (.ref x) := .ref t1x
  have rs1 : T1.Rs B (.ref T.ah.length :: l) (.ref x :: xs) := .cons r1 (le1.reps hl')
  refine ⟨by rw [List.length_cons, len]; exact hal, T1.down, .ref T.ah.length :: l, rfl, down_ok ok2, fun b i e => dnw_slot e, rs1.imp fun _ _ q => down_rep q, ?_⟩
  show Outs B T1.down false _ _ (F (.ref T.ah.length :: l) (T.ah ++ [AO.ins c []])) _
  cases q : F (.ref T.ah.length :: l) (T.ah ++ [AO.ins c []]) with
  | bad => rw [q] at o1; exact o1.elim
  | exc c' h => rw [q] at o1; exact o1.elim
  | ok d h2 =>
    rw [q] at o1
    cases d <;> first | exact o1.elim | skip
    intro U okU eU lU y hy
    cases hy
    refine ⟨rfl, ?_⟩
    have up1 := up_ok lU okU
    have lup : T1.le false (T1.up U) := up_le lU
    exact o1 (T1.up U) up1 eU (le1.trans (r := false) lup fun z => nomatch z) (.ref x) (RV.of (lup.rep r1))
theorem snd_make {x : Str} {es : List Expr} {ia : IE} {k ar c : Nat} {F : Sem} {p pos : Pos} (M : MakeOk B X.prog X.w X.K X.mg X.base k x ar c F) (hr : Room k X.A) (hg : Gl X x) (hdb : (x == ("__debug__" : Str)) = false) (ha : SndA B X W es ia) (hs : es.all noStar = true) (hl : argsN ia = some es.length) (hal : es.length + 1 = ar) :
    SndE B X W (.Call (.Name x p) es [] pos) (.make c F ia) := by
  obtain ⟨f, fd, ps, kf, e1, e2, FO, mk, hm, hbi⟩ := M.ex
  refine .plain (fun v => ?_) rfl
  cases es with
  | cons e es =>
    have hs' : noStar e = true ∧ es.all noStar = true := by rw [List.all_cons, Bool.and_eq_true] at hs; exact hs
    exact (pe_make mk FO (hr.mono e2) hg hm hbi .nil passL (ha.pa false) hdb (starEach_of hs'.1) (plainArgs hs'.2)).imp (make_read hl hal)
  | nil =>
    have e0 : ia = .nil := by
      cases ia <;> first | rfl | (cases hl; done) | skip
      rename_i a r
      have hl : (argsN r).map (· + 1) = some 0 := hl
      cases q : argsN r with
      | none => rw [q] at hl; cases hl
      | some j => rw [q] at hl; cases hl
    subst e0
    refine (pe_make0 mk FO (hr.mono e2) hg hm hbi .nil passL hdb).imp fun σ H Q h => ?_
    have := make_read hl hal σ H Q h
    obtain ⟨S, env, rfl, ok, er, out⟩ := this
    exact out S ok rfl (.refl _ _) [] ⟨[], rfl, .nil⟩
end
end Ab

set_option autoImplicit false
set_option maxHeartbeats 4000000
/-! AbO: exceptions. -/
namespace Ab
open PySem PySem.Spec PyProof.Rows L2

section
variable {B : Bs} {X : Cx} {W : WX} {D : Ends}
/-- an exception class of the text, under its name -/
structure ExcOk (B : Bs) (K : PySem.W.Frag) (mg : Str → Option Value) (x : Str) (c : Nat) : Prop where
  q : PySem.W.excIn K (B.xa c) [.type "ValueError", .type "Exception", .type "BaseException", .type "object"] "ValueError.__new__" = true
  gC : mg x = some (.ref (B.xa c))
  kC : PySem.W.keepIn K (.ref (B.xa c)) = true
  s1 : PySem.W.subIn K (.ref (B.xa c)) (.type "BaseException") = some true
  s2 : PySem.W.typeIn K (.ref (B.xa c)) = some (.type "type")
theorem sns_rais {x m : Str} {c j : Nat} {p p2 pos pos2 : Pos} (E : ExcOk B X.K X.mg x c) (hc : X.calm = true) (tk : Takes X W) (hg : Gl X x) (hdb : (x == ("__debug__" : Str)) = false) :
    SndS B X W (.Raise (some (.Call (.Name x p) [.Constant (.str m) j p2] [] pos)) none pos2) (.rais c) :=
  (ps_raise hc tk (pmk_own PySem.F.excBase_ValueError E.q E.gC E.kC (raises_own E.s1 E.s2) hg hdb)).imp fun D σ H h => by
    obtain ⟨S, env, rfl, ok, er, out⟩ := h
    exact out S σ ok rfl (.refl S) er
/-- a suite of one constant given back -/
theorem suite_con {a : Addr} {pn : List (Addr × Obj)} {e : Expr} {d : AV} {x : V} {pos : Pos} (he : ∀ Y : Cx, PE Y e (tC x)) (hr : ∀ S : WS, S.R B d x) : PSs (X.suite a pn) [.Return (some e) pos] (tS B W (.ret (.con d))) :=
  pss_one ((ps_ret (he _)).imp fun D σ H h => by
    obtain ⟨S, env, rfl, ok, er, out⟩ := h
    have out : OutS B W S D (.ret d S.ah) := out
    exact out S x ok rfl (.refl S) (hr S))
theorem try_read {b s : IS} {al cs : List Nat} {c0 : Value} (hex : ∀ c ∈ al, ∃ k, PySem.W.exmOne X.K (.ref (B.xa c)) c0 = some k ∧ (k = true ↔ cs.contains c = true)) : ∀ D σ H, tS B W (.tryo b al cs s) D σ H →
    tS B (wOnly X.K c0 (fun _ _ _ => tS B W s) W D) b D σ H := fun D σ H h => by
  obtain ⟨S, env, rfl, ok, er, out⟩ := h
  refine ⟨S, env, rfl, ok, er, ?_⟩
  have out : OutS B W S D (match ex b env S.ah with
    | .exc c e' h' => if al.contains c = true then (if cs.contains c = true then ex s e' h' else .exc c e' h') else .bad
    | q => q) := out
  cases q : ex b env S.ah with
  | nx e h => rw [q] at out; exact out
  | brk e h => rw [q] at out; exact out
  | cnt e h => rw [q] at out; exact out
  | ret e h => rw [q] at out; exact out
  | bad => rw [q] at out; exact out
  | exc c e h =>
    rw [q] at out
    simp only at out
    by_cases ca : al.contains c = true
    rotate_left
    · rw [if_neg ca] at out; exact out.elim
    rw [if_pos ca] at out
    intro T τ okT eT l erT
    obtain ⟨k, h1, h2⟩ := hex c (by simpa using ca)
    refine ⟨k, h1, fun hk a ha => ?_, fun hk => ?_⟩
    · rw [if_pos (h2.mp hk)] at out
      subst eT
      exact ⟨T, e, rfl, okT, erT, out.mono l⟩
    · have : ¬ cs.contains c = true := fun z => by rw [h2.mpr z] at hk; cases hk
      rw [if_neg this] at out
      exact out T τ okT eT l erT
theorem sns_tryo {body : List Stmt} {x : Str} {c0 : Value} {e : Expr} {d : AV} {dv : V} {b : IS} {al cs : List Nat} {np pos pos' rpos : Pos} (hs : X.stack = X.env :: X.outer) (hf : X.env.frame = some X.env.locals) (hc : Names X x c0) (tk : Takes X W)
    (hex : ∀ c ∈ al, ∃ k, PySem.W.exmOne X.K (.ref (B.xa c)) c0 = some k ∧ (k = true ↔ cs.contains c = true)) (he : ∀ Y : Cx, PE Y e (tC dv)) (hr : ∀ S : WS, S.R B d dv)
    (hb : ∀ (W' : WX) (pn : List (Addr × Obj)) (xe : Value → Shared → Prop), Takes (X.tr pn xe) W' → PassesOwn (model X.prog X.w) X.A X.env xe → SndSs B (X.tr pn xe) W' body b) :
    SndS B X W (.Try body [.ExceptHandler (some (.Name x np)) none [.Return (some e) rpos] pos'] [] [] pos) (.tryo b al cs (.ret (.con d))) :=
  (ps_try_only (tb := fun W' => tS B W' b) (ts := fun _ _ _ => tS B W (.ret (.con d))) (Wout := W) hs hf hc tk hb (fun a oe cls dd pn _ _ => suite_con he hr)).imp (try_read hex)
end
end Ab

set_option autoImplicit false
set_option maxHeartbeats 4000000
/-! AbT: stores into containers of one's own. -/
namespace Ab
open PySem PySem.Spec PyProof.Rows L2

section
variable {B : Bs} {X : Cx} {W : WX} {D : Ends}
theorem store_lst {T : WS} {b : Addr} {ow : Ow} {l : List AV} {kd d c' : AV} {y x : V} (ok : T.Ok B) (hw : T.w b = some ow) (hc : T.C B (.lst l) b) (hy : T.R B kd y) (hx : T.R B d x) (hp : putA (.lst l) kd d = some c') :
    ∃ (xs : List V) (k : Int) (j : Nat), y = .int k ∧ T.H b = some (.lst xs) ∧ ixN xs.length k = some j ∧ (xs.set j x).length ≤ LIM ∧ (T.put b (.lst (xs.set j x))).C B c' b := by
  cases hc with
  | lst q t =>
    rename_i xs
    cases kd <;> first | (cases hp; done) | skip
    rename_i k
    cases hy
    have hp : (ixN l.length k).map (fun j => AV.lst (l.set j d)) = some c' := hp
    have hr := reps_fo t
    cases e : ixN l.length k with
    | none => rw [e] at hp; cases hp
    | some j =>
      rw [e] at hp
      cases hp
      exact ⟨xs, k, j, rfl, q, by rw [← hr.len]; exact e, by rw [List.length_set]; exact ok.szl b xs q, .lst upd_same (fo_reps ((hr.set hx j).imp fun _ _ z => chg_rep hw z))⟩
theorem put_fst {κ : Type} [DecidableEq κ] (kvs : List (κ × V)) (k : κ) (x : V) : (putK kvs k x).map (·.1) = if k ∈ kvs.map (·.1) then kvs.map (·.1) else kvs.map (·.1) ++ [k] := by
  unfold putK
  have e : ((kvs.any fun kv => decide (kv.1 = k)) = true) ↔ k ∈ kvs.map (·.1) := by
    rw [List.any_eq_true]
    constructor
    · rintro ⟨p, hp, h⟩
      exact List.mem_map.mpr ⟨p, hp, by simpa using h⟩
    · intro h
      obtain ⟨p, hp, h⟩ := List.mem_map.mp h
      exact ⟨p, hp, by simpa using h⟩
  by_cases c : k ∈ kvs.map (·.1)
  · rw [if_pos c, if_pos (e.mpr c), List.map_map]
    congr 1
    funext p
    show (if p.1 = k then (p.1, x) else p).1 = p.1
    split <;> rfl
  · rw [if_neg c, if_neg (fun z => c (e.mp z)), List.map_append]
    rfl
theorem put_snd {κ : Type} [DecidableEq κ] {r : AV → V → Prop} {k : κ} {d : AV} {x : V} (hx : r d x) {kvs : List (κ × V)} {vs : List AV} (h : Fo r vs (kvs.map (·.2))) : Fo r (putK1 (kvs.map (·.1)) vs k d).2 ((putK kvs k x).map (·.2)) := by
  unfold putK putK1
  have e : ((kvs.any fun kv => decide (kv.1 = k)) = true) ↔ k ∈ kvs.map (·.1) := by
    rw [List.any_eq_true]
    constructor
    · rintro ⟨p, hp, h⟩
      exact List.mem_map.mpr ⟨p, hp, by simpa using h⟩
    · intro h
      obtain ⟨p, hp, h⟩ := List.mem_map.mp h
      exact ⟨p, hp, by simpa using h⟩
  by_cases c : k ∈ kvs.map (·.1)
  · rw [if_pos c, if_pos (e.mpr c)]
    show Fo r (List.zipWith (fun k' v => if k' = k then d else v) (kvs.map (·.1)) vs) _
    clear c e
    induction kvs generalizing vs with
    | nil => exact .nil
    | cons p kvs ih =>
      cases h with
      | cons h1 h2 =>
        rw [List.map_cons, List.zipWith_cons_cons, List.map_cons, List.map_cons]
        refine .cons ?_ (ih h2)
        by_cases z : p.1 = k
        · rw [if_pos z, if_pos z]; exact hx
        · rw [if_neg z, if_neg z]; exact h1
  · rw [if_neg c, if_neg (fun z => c (e.mp z)), List.map_append]
    exact h.app (.cons hx .nil)
theorem put1_fst {κ : Type} [DecidableEq κ] (ks : List κ) (vs : List AV) (k : κ) (d : AV) : (putK1 ks vs k d).1 = if k ∈ ks then ks else ks ++ [k] := by
  unfold putK1; split <;> rfl
theorem store_d {T : WS} {b : Addr} {ow : Ow} {c kd d c' : AV} {y x : V} (hw : T.w b = some ow) (hc : T.C B c b) (hl : ∀ l, c ≠ .lst l) (hy : T.R B kd y) (hx : T.R B d x) (hp : putA c kd d = some c') :
    ∃ o : HO, DPut T.H b y x (upd T.H b o) ∧ (∀ xs, o ≠ .lst xs) ∧ (∀ xs, o ≠ .tup xs) ∧ (∀ ob u, o ≠ .frz ob u) ∧ (T.put b o).C B c' b := by
  cases hc with
  | lst q t => exact absurd rfl (hl _)
  | dk q k t =>
    rename_i ks vs kvs
    have hp : (if ks.length < LIM then (keyOf kd).map (fun z => AV.dk (putK1 ks vs z d).1 (putK1 ks vs z d).2) else none) = some c' := hp
    by_cases c : ks.length < LIM
    · rw [if_pos c] at hp
      cases e : keyOf kd with
      | none => rw [e] at hp; cases hp
      | some z =>
        rw [e] at hp
        cases hp
        have ey := key_v e (.inl hy)
        subst ey k
        refine ⟨.dK (putK kvs z x), .k q (by rw [← LIM_line]; simpa using c), fun _ e => (nomatch e), fun _ e => (nomatch e), fun _ _ e => (nomatch e), .dk upd_same ?_ (fo_reps ?_)⟩
        · rw [put_fst, put1_fst]
        · exact put_snd (chg_rep hw hx) ((reps_fo t).imp fun _ _ z => chg_rep hw z)
    · rw [if_neg c] at hp; cases hp
  | dt q k t =>
    rename_i ks vs kvs
    have hp : (if ks.length < LIM then (keysOf kd).map (fun z => AV.dt (putK1 ks vs z d).1 (putK1 ks vs z d).2) else none) = some c' := hp
    by_cases c : ks.length < LIM
    · rw [if_pos c] at hp
      cases e : keysOf kd with
      | none => rw [e] at hp; cases hp
      | some z =>
        rw [e] at hp
        cases hp
        obtain ⟨a, rfl, ha⟩ := keys_v e (.inl hy)
        subst k
        refine ⟨.dT (putK kvs z x), .t q ha (by rw [← LIM_line]; simpa using c), fun _ e => (nomatch e), fun _ e => (nomatch e), fun _ _ e => (nomatch e), .dt upd_same ?_ (fo_reps ?_)⟩
        · rw [put_fst, put1_fst]
        · exact put_snd (chg_rep hw hx) ((reps_fo t).imp fun _ _ z => chg_rep hw z)
    · rw [if_neg c] at hp; cases hp
/-! ### a slot's container -/
theorem own_c {S : WS} {e : En} {σ : L2.St} {i : Nat} {c : AV} (er : ERep B S e σ) (h : e[i]? = some (some (.own c))) : ∃ b, σ[i]? = some (some (.ref b)) ∧ S.w b = some (.slot i) ∧ S.C B c b := by
  obtain ⟨v, hv, b, rfl, hb, hc⟩ := er.at_ i _ h
  exact ⟨b, hv, hb, hc⟩
theorem sw_sub {e o i : Expr} {p : Pos} {l : Nat} {env : Env} : swapsWith e (some (.Subscript o i p)) l env = pure false := by
  cases e <;> rfl
theorem sw_attr' {e o : Expr} {f : Str} {p : Pos} {l : Nat} {env : Env} : swapsWith e (some (.Attribute o f p)) l env = pure false := by
  cases e <;> rfl
theorem asg_sub {o i : Expr} {pos : Pos} {env : Env} (h : noSlice i = true) : ∀ v, assign (.Subscript o i pos) env v = (do
      let ov ← holding [v] (eval o env)
      let iv ← holding [v, ov] (eval i env)
      standAt pos
      holding [v, ov, iv] (setItem ov iv v)
      release [v, ov, iv] []) := by
  intro v
  cases i <;> first | rfl | cases h
theorem sns_sets {i : Nat} {x : Str} {k e : Expr} {ik ia : IE} {p tpos pos : Pos} (hN : X.N[i]? = some x) (hv : Vis X.env.scope x) (hd : (x == ("__debug__" : Str)) = false) (hcd : (x == ("__classdict__" : Str)) = false) (hu : X.A.units + 1 < cLine) (hs : noSlice k = true) (hk : SndE B X W k ik) (h : SndE B X W e ia) :
    SndS B X W (.Assign [.Subscript (.Name x p) k tpos] e pos) (.sets i ik ia) := by
  have hb : PE X (.Name x p) (tVar i) := pe_var hN hv hd hcd
  have r1 : PS X (.Assign [.Subscript (.Name x p) k tpos] e pos) (tAsg (tE B W false ia) (gSub (tVar i) (tE B W false ik) rSetL)) := ps_asg (h.pe false) (pg_sub hb (hk.pe false) set_list (asg_sub hs)) (show swapsWithSole [Expr.Subscript (.Name x p) k tpos] e pos.line X.env = pure false from (show swapsWith e (some (.Subscript (.Name x p) k tpos)) pos.line X.env = pure false from sw_sub)) rfl rfl
  have r2 : PS X (.Assign [.Subscript (.Name x p) k tpos] e pos) (sDPut (tVar i) (tE B W false ik) (tE B W false ia)) := ps_dput hu hb (hk.pe false) (h.pe false) sw_sub
  refine (r1.or r2).imp fun D σ H h => ?_
  obtain ⟨S, env, rfl, ok, er, out⟩ := h
  have out : OutS B W S D (match ownC env i with
    | some c => (ev false ia env S.ah).thn env fun d h1 => (ev false ik env h1).thn env fun x h2 => (match putA c x d with
      | some c' => .nx (env.set i (some (.own c'))) h2
      | none => .bad)
    | none => .bad) := out
  cases q : ownC env i with
  | none => rw [q] at out; exact out.elim
  | some c =>
    rw [q] at out
    have q' := ownC_of q
    have hi : i < env.length := (List.getElem?_eq_some_iff.mp q').1
    obtain ⟨b, hσ, hb0, hc0⟩ := own_c er q'
    by_cases hl : ∃ l, c = .lst l
    · obtain ⟨l, rfl⟩ := hl
      left
      refine tE_s ok er out fun T d y ok1 l1 er1 h1 o1 => ?_
      refine ⟨.ref b, hσ, ?_⟩
      refine tE_s ok1 er1 o1 fun U kd z ok2 l2 er2 h2 o2 => ?_
      have o2 : OutS B W U D (match putA (.lst l) kd d with | some c' => .nx (env.set i (some (.own c'))) U.ah | none => .bad) := o2
      cases qp : putA (.lst l) kd d with
      | none => rw [qp] at o2; exact o2.elim
      | some c' =>
        rw [qp] at o2
        obtain ⟨b2, hσ2, hb2, hc2⟩ := own_c er2 q'
        rw [hσ] at hσ2
        cases hσ2
        obtain ⟨xs, kk, j, rfl, hxs, hj, sz, hC⟩ := store_lst ok2 hb2 hc2 h2 (l2.rep h1) qp
        refine ⟨b, xs, kk, j, rfl, rfl, hxs, hj, ?_⟩
        exact o2 (U.put b (.lst (xs.set j y))) σ (chg_ok ok2 hb2 (fun _ e => by cases e) (fun _ _ e => by cases e) (fun ys e => by cases e; exact sz) (fun _ e => by cases e) (fun _ _ e => by cases e)) rfl (chg_leS hb2) (chg_erep er2 hσ hb2 hi hC)
    · right
      have hl : ∀ l, c ≠ .lst l := fun l z => hl ⟨l, z⟩
      refine tE_s ok er out fun T d y ok1 l1 er1 h1 o1 => ?_
      refine ⟨.ref b, hσ, ?_⟩
      refine tE_s ok1 er1 o1 fun U kd z ok2 l2 er2 h2 o2 => ?_
      have o2 : OutS B W U D (match putA c kd d with | some c' => .nx (env.set i (some (.own c'))) U.ah | none => .bad) := o2
      cases qp : putA c kd d with
      | none => rw [qp] at o2; exact o2.elim
      | some c' =>
        rw [qp] at o2
        obtain ⟨b2, hσ2, hb2, hc2⟩ := own_c er2 q'
        rw [hσ] at hσ2
        cases hσ2
        obtain ⟨o, hP, n1, n2, n3, hC⟩ := store_d hb2 hc2 hl h2 (l2.rep h1) qp
        refine ⟨b, _, rfl, hP, ?_⟩
        exact o2 (U.put b o) σ (chg_ok ok2 hb2 (fun _ e => by cases e) (fun _ _ e => by cases e) (fun ys e => absurd e (n1 ys)) (fun ys e => absurd e (n2 ys)) n3) rfl (chg_leS hb2) (chg_erep er2 hσ hb2 hi hC)
/-! ### a field's container -/
theorem frs_fput {S S' : WS} {n : Nat} {f : Str} {fv : FV} {v : V} (hv : FR B S' n f fv v) (hk : ∀ g (u : FV) (y : V), g ≠ f → FR B S n g u y → FR B S' n g u y) : ∀ {fs : List (Str × FV)} {fs' : List (Str × V)}, FRs B S n fs fs' → uniqF f fs = true → fs'.lookup f = some v → FRs B S' n (putFA f fv fs) fs'
  | _, _, .nil, hu, _ => by simp [uniqF] at hu
  | (g, u) :: r, (g', x) :: r', .cons ⟨e1, e2⟩ t, hu, hl => by
    have e1 : g = g' := e1
    subst e1
    show FRs B S' n (if g = f then (g, fv) :: r else (g, u) :: putFA f fv r) ((g, x) :: r')
    rw [look_cons] at hl
    by_cases c : g = f
    · rw [if_pos c] at hl ⊢
      cases hl
      subst c
      have hz : r.filter (fun p => decide (p.1 = g)) = [] := by
        unfold uniqF at hu
        rw [List.filter_cons_of_pos (by simp)] at hu
        simpa using hu
      have rest : ∀ {r : List (Str × FV)} {r' : List (Str × V)}, FRs B S n r r' → r.filter (fun p => decide (p.1 = g)) = [] → FRs B S' n r r' := by
        intro r r' h hz
        induction h with
        | nil => exact .nil
        | cons p t ih =>
          rename_i a b l m
          obtain ⟨p1, p2⟩ := p
          have na : ¬ a.1 = g := fun z => by rw [List.filter_cons_of_pos (by simpa using z)] at hz; cases hz
          rw [List.filter_cons_of_neg (by simpa using na)] at hz
          exact .cons ⟨p1, hk _ _ _ na p2⟩ (ih hz)
      exact .cons ⟨rfl, hv⟩ (rest t hz)
    · rw [if_neg c] at hl ⊢
      refine .cons ⟨rfl, hk _ _ _ c e2⟩ (frs_fput hv hk t ?_ hl)
      unfold uniqF at hu ⊢
      rw [List.filter_cons_of_neg (by simpa using c)] at hu
      exact hu
section
variable {S : WS} {b : Addr} {o : HO} {n : Nat} {f : Str} {ob : AO}
theorem fob_ok {a dx : Addr} {c : Nat} {fs : List (Str × FV)} {fs' : List (Str × V)} {c' : AV} (ok : S.Ok B) (hb : S.w b = some (.fld n f)) (ha : S.w a = some (.obj n)) (hA : S.H a = some (.ins (B.ca c) dx fs')) (hf : FRs B S n fs fs') (hu : uniqF f fs = true) (hl : fs'.lookup f = some (.ref b))
    (hob : ob = .ins c (putFA f (.own c') fs)) (hC : (S.put b o).C B c' b) (z1 : ∀ xs, o = .lst xs → xs.length ≤ LIM) (z2 : ∀ xs, o = .tup xs → xs.length ≤ LIM) (z3 : ∀ ob u, o ≠ .frz ob u) : (S.obj b o n ob).Ok B := by
  have nab : a ≠ b := fun z => by rw [z, hb] at ha; cases ha
  have rep : ∀ {d : AV} {v : V}, S.R B d v → (S.obj b o n ob).R B d v := fun h => chg_rep (o := o) hb h
  have cont : ∀ {d : AV} {q : Addr}, q ≠ b → S.C B d q → (S.obj b o n ob).C B d q := fun hq h => by
    have := chg_cont (o := o) hb hq h
    cases this with
    | lst q t => exact .lst q t
    | dk q k t => exact .dk q k t
    | dt q k t => exact .dt q k t
  have fr : ∀ m g (u : FV) (y : V), (m = n → g ≠ f) → FR B S m g u y → FR B (S.obj b o n ob) m g u y := fun m g u y hne h => by
    cases u with
    | val d => exact rep h
    | gone => exact trivial
    | exc _ => first | exact trivial | exact h2 | exact e2 | exact h
    | own c2 =>
      obtain ⟨q, rfl, hq, hc2⟩ := h
      exact ⟨q, rfl, hq, cont (fun z => by rw [z, hb] at hq; cases hq; exact hne rfl rfl) hc2⟩
  refine ⟨fun m x e => ?_, ok.inj, fun q m e => ?_, fun q x e => ?_, fun q xs e => ?_, fun q xs e => ?_⟩
  · have e : (S.ah.set n ob)[m]? = some x := e
    by_cases z : n = m
    · subst z
      rw [List.getElem?_set_self (ok.lt a n ha)] at e
      cases e
      subst hob
      refine ⟨a, ha, dx, fs', (upd_ne nab).trans hA, frs_fput (S := S) (S' := S.obj b o n (.ins c (putFA f (.own c') fs))) (f := f) (fv := .own c') (v := .ref b) ⟨b, rfl, hb, ?_⟩ (fun g u y hg h => fr n g u y (fun _ => hg) h) hf hu hl⟩
      cases hC with
      | lst q t => exact .lst q t
      | dk q k t => exact .dk q k t
      | dt q k t => exact .dt q k t
    · rw [List.getElem?_set_ne z] at e
      obtain ⟨q, hq, h⟩ := ok.objs m x e
      have nq : q ≠ b := fun y => by rw [y, hb] at hq; cases hq
      refine ⟨q, hq, ?_⟩
      cases x with
      | gone => exact trivial
      | box c2 => exact cont nq h
      | ins c2 gs =>
        obtain ⟨dx', gs', q1, q2⟩ := h
        exact ⟨dx', gs', (upd_ne nq).trans q1, q2.imp fun u v ⟨e1, e2⟩ => ⟨e1, fr m u.1 u.2 v.2 (fun y => absurd y.symm z) e2⟩⟩
  · show m < (S.ah.set n _).length
    rw [List.length_set]; exact ok.lt q m e
  · by_cases z : q = b
    · exact ⟨_, by rw [z]; exact upd_same⟩
    · obtain ⟨y, hy⟩ := ok.trk q x e
      exact ⟨y, (upd_ne z).trans hy⟩
  · have e : upd S.H b o q = some (.lst xs) := e
    by_cases z : q = b
    · rw [z, upd_same] at e; exact z1 xs (Option.some.inj e)
    · rw [upd_ne z] at e; exact ok.szl q xs e
  · have e : upd S.H b o q = some (.tup xs) := e
    by_cases z : q = b
    · rw [z, upd_same] at e; exact z2 xs (Option.some.inj e)
    · rw [upd_ne z] at e; exact ok.szt q xs e
theorem fob_leS (hb : S.w b = some (.fld n f)) : S.leS (S.obj b o n ob) :=
  ⟨fun _ _ e => e, by show Same S.G (S.put b o).G; rw [chg_G hb]; exact Same.refl _, fun q e => ⟨e, upd_ne fun z => by rw [z, hb] at e; cases e⟩⟩
theorem fob_erep (hb : S.w b = some (.fld n f)) {e : En} {σ : L2.St} (er : ERep B S e σ) : ERep B (S.obj b o n ob) e σ := by
  refine ⟨er.len, fun i fv q => ?_⟩
  obtain ⟨v, h1, h2⟩ := er.at_ i fv q
  refine ⟨v, h1, ?_⟩
  cases fv with
  | val d => exact chg_rep (o := o) hb h2
  | gone => exact trivial
  | exc _ => first | exact trivial | exact h2 | exact e2 | exact h
  | own c =>
    obtain ⟨q, rfl, hq, hc⟩ := h2
    have := chg_cont (o := o) hb (fun z => by rw [z, hb] at hq; cases hq) hc
    refine ⟨q, rfl, hq, ?_⟩
    cases this with
    | lst q t => exact .lst q t
    | dk q k t => exact .dk q k t
    | dt q k t => exact .dt q k t
end
/-- the object and its own container, where a field holds one -/
theorem ownF_at {cs : List Nat} {T : WS} {d : AV} {x : V} {f : Str} (ok : T.Ok B) (h : T.R B d x) (q : isOwnF cs d f T.ah = true) : ∃ n c fs a dx fs' b, d = .ref n ∧ x = .ref a ∧ T.ah[n]? = some (.ins c fs) ∧ c ∈ cs ∧ T.w a = some (.obj n) ∧ T.H a = some (.ins (B.ca c) dx fs') ∧ FRs B T n fs fs' ∧ fs'.lookup f = some (.ref b) ∧ T.w b = some (.fld n f) := by
  unfold isOwnF at q
  cases d <;> first | (cases q; done) | skip
  rename_i n
  simp only at q
  cases e : T.ah[n]? with
  | none => rw [e] at q; cases q
  | some ob =>
    rw [e] at q
    cases ob with
    | gone => cases q
    | box c => cases q
    | ins c fs =>
      simp only [Bool.and_eq_true] at q
      obtain ⟨q1, q2⟩ := q
      obtain ⟨a, dx, fs', rfl, hw, ha, hf⟩ := obj_at ok h e
      cases e2 : lookF f fs with
      | none => rw [e2] at q2; cases q2
      | some fv =>
        rw [e2] at q2
        cases fv with
        | val _ => cases q2
        | gone => cases q2
        | exc _ => cases q2
        | own cc =>
          obtain ⟨v, hv, b, rfl, hb, _⟩ := frs_look hf e2
          exact ⟨n, c, fs, a, dx, fs', b, rfl, rfl, e, by simpa using q1, hw, ha, hf, hv, hb⟩
theorem putFO_of {cs : List Nat} {n : Nat} {f : Str} {kd d : AV} {h h' : AH} (q : putFO cs (.ref n) f kd d h = some h') : ∃ c fs cc cc', h[n]? = some (.ins c fs) ∧ uniqF f fs = true ∧ lookF f fs = some (.own cc) ∧ putA cc kd d = some cc' ∧ h' = h.set n (.ins c (putFA f (.own cc') fs)) := by
  unfold putFO at q
  simp only at q
  cases e : h[n]? with
  | none => rw [e] at q; cases q
  | some ob =>
    rw [e] at q
    cases ob with
    | gone => cases q
    | box c => cases q
    | ins c fs =>
      simp only at q
      by_cases cc : cs.contains c = true ∧ uniqF f fs = true
      · rw [if_pos cc] at q
        cases e2 : lookF f fs with
        | none => rw [e2] at q; cases q
        | some fv =>
          rw [e2] at q
          cases fv with
          | val _ => cases q
          | gone => cases q
          | exc _ => cases q
          | own c0 =>
            simp only at q
            cases e3 : putA c0 kd d with
            | none => rw [e3] at q; cases q
            | some c1 => rw [e3] at q; cases q; exact ⟨c, fs, c0, c1, rfl, cc.2, e2, e3, rfl⟩
      · rw [if_neg cc] at q; cases q
theorem OutS.thnE {S : WS} {p : Bool} {α β : Type} {rel : WS → α → β → Prop} {r : Ab.R α} {e : En} {σ : L2.St} {k : α → AH → RS} {Q1 : β → Hp → Prop} (h : OutS B W S D (r.thn e k)) (er : ERep B S e σ)
    (hQ : ∀ (T : WS) d x, T.Ok B → S.le p T → rel T d x → r = .ok d T.ah → OutS B W T D (k d T.ah) → Q1 x T.H) : Outs B S p rel (WE B W σ) r Q1 := by
  cases r with
  | bad => exact h
  | exc c a => exact fun T ok e l => h T σ ok e l.s (er.mono l)
  | ok d a =>
    intro T ok e l x hx
    subst e
    have h : OutS B W S D (k d T.ah) := h
    exact hQ T d x ok l hx rfl (h.mono l.s)
theorem tE_sE {S : WS} {env : En} {σ : L2.St} {v : Bool} {ia : IE} {k : AV → AH → RS} {Q1 : VK} (ok : S.Ok B) (er : ERep B S env σ) (out : OutS B W S D ((ev v ia env S.ah).thn env k))
    (hQ : ∀ (T : WS) d x, T.Ok B → S.le (pureI ia) T → ERep B T env σ → RV B v T d x → ev v ia env S.ah = .ok d T.ah → OutS B W T D (k d T.ah) → Q1 x T.H) : tE B W v ia σ S.H Q1 :=
  ⟨S, env, rfl, ok, er, OutS.thnE out er fun T d x ok1 l1 h1 e1 o1 => hQ T d x ok1 l1 (er.mono l1) h1 e1 o1⟩
def lstF (x : AV) (f : Str) (h : AH) : Bool := match x with
  | .ref n => (match h[n]? with
    | some (.ins _ fs) => (match lookF f fs with | some (.own (.lst _)) => true | _ => false)
    | _ => false)
  | _ => false
/-- behind the key -/
theorem fsets_fin {cs : List Nat} {f : Str} {T U : WS} {n c : Nat} {a b dx : Addr} {fs : List (Str × FV)} {fs' : List (Str × V)} {kd d : AV} {z y : V} {env : En} {σ : L2.St} (ok2 : U.Ok B) (l : T.le true U) (er2 : ERep B U env σ) (hw : T.w a = some (.obj n)) (ha : T.H a = some (.ins (B.ca c) dx fs')) (hl : fs'.lookup f = some (.ref b)) (hb : T.w b = some (.fld n f)) (hz : U.R B kd z) (hy : U.R B d y)
    (o2 : OutS B W U D (match putFO cs (.ref n) f kd d U.ah with | some h4 => .nx env h4 | none => .bad)) :
    (lstF (.ref n) f U.ah = true → ∃ xs k j, z = .int k ∧ U.H b = some (.lst xs) ∧ ixN xs.length k = some j ∧ D.nx σ (upd U.H b (.lst (xs.set j y)))) ∧ (lstF (.ref n) f U.ah = false → ∃ H', DPut U.H b z y H' ∧ D.nx σ H') := by
  cases qp : putFO cs (.ref n) f kd d U.ah with
  | none => rw [qp] at o2; exact o2.elim
  | some h4 =>
    rw [qp] at o2
    obtain ⟨c2, fs2, cc, cc', e1, hu, e2, e3, rfl⟩ := putFO_of qp
    obtain ⟨k1, k2⟩ := l.keep rfl a _ hw
    obtain ⟨k3, k4⟩ := l.keep rfl b _ hb
    obtain ⟨a2, hw2, dx2, fs2', hA2, hf2⟩ := ok2.objs n _ e1
    have := ok2.inj _ _ n hw2 k1
    subst this
    have hA : U.H a2 = some (.ins (B.ca c) dx fs') := k2.trans ha
    rw [hA2] at hA
    obtain ⟨z1, z2, z3⟩ := HO.ins.inj (Option.some.inj hA)
    subst z3
    obtain ⟨v, hv, b2, rfl, hb2, hcc⟩ := frs_look hf2 e2
    rw [hl] at hv
    cases hv
    have hL : lstF (.ref n) f U.ah = (match cc with | .lst _ => true | _ => false) := by
      unfold lstF
      simp only [e1, e2]
      cases cc <;> rfl
    constructor
    · intro q
      rw [hL] at q
      cases cc <;> first | (cases q; done) | skip
      rename_i l'
      obtain ⟨xs, kk, j, rfl, hxs, hj, sz, hC⟩ := store_lst ok2 hb2 hcc hz hy e3
      refine ⟨xs, kk, j, rfl, hxs, hj, ?_⟩
      exact o2 (U.obj b (.lst (xs.set j y)) n (.ins c2 (putFA f (.own cc') fs2))) σ (fob_ok ok2 hb2 hw2 hA2 hf2 hu hl rfl hC (fun ys e => by cases e; exact sz) (fun _ e => by cases e) (fun _ _ e => by cases e)) rfl (fob_leS hb2) (fob_erep hb2 er2)
    · intro q
      rw [hL] at q
      obtain ⟨o, hP, n1, n2, n3, hC⟩ := store_d hb2 hcc (fun l z => by subst z; cases q) hz hy e3
      refine ⟨_, hP, ?_⟩
      exact o2 (U.obj b o n (.ins c2 (putFA f (.own cc') fs2))) σ (fob_ok ok2 hb2 hw2 hA2 hf2 hu hl rfl hC (fun ys e => absurd e (n1 ys)) (fun ys e => absurd e (n2 ys)) n3) rfl (fob_leS hb2) (fob_erep hb2 er2)
theorem sns_fsets {cs : List Nat} {o k e : Expr} {f : Str} {io ik ia : IE} {p tpos pos : Pos} (hbo : attributeBase o f X.env (eval o X.env) = eval o X.env) (hc : ∀ c ∈ cs, Cls X.K (B.ca c) ∧ NoAttr X.K (B.ca c) f) (hu : X.A.units + 1 < cLine) (hs : noSlice k = true) (hpk : pureI ik = true) (ho : SndE B X W o io) (hk : SndE B X W k ik) (h : SndE B X W e ia) :
    SndS B X W (.Assign [.Subscript (.Attribute o f p) k tpos] e pos) (.fsets cs io f ik ia) := by
  have hb : PE X (.Attribute o f p) (tFld X.K (tE B W false io) f) := pe_fld (ho.pe false) hbo
  have r1 : PS X (.Assign [.Subscript (.Attribute o f p) k tpos] e pos) (tAsg (tE B W false ia) (gSub (tFld X.K (tE B W false io) f) (tE B W false ik) rSetL)) := ps_asg (h.pe false) (pg_sub hb (hk.pe false) set_list (asg_sub hs)) (show swapsWithSole [Expr.Subscript (.Attribute o f p) k tpos] e pos.line X.env = pure false from (show swapsWith e (some (.Subscript (.Attribute o f p) k tpos)) pos.line X.env = pure false from sw_sub)) rfl rfl
  have r2 : PS X (.Assign [.Subscript (.Attribute o f p) k tpos] e pos) (sDPut (tFld X.K (tE B W false io) f) (tE B W false ik) (tE B W false ia)) := ps_dput hu hb (hk.pe false) (h.pe false) sw_sub
  refine (r1.or r2).imp fun D σ H h => ?_
  obtain ⟨S, env, rfl, ok, er, out⟩ := h
  have out : OutS B W S D ((ev false ia env S.ah).thn env fun d h1 => (ev false io env h1).thn env fun x h2 => if isOwnF cs x f h2 = true then ((ev false ik env h2).thn env fun y h3 => match putFO cs x f y d h3 with
      | some h4 => .nx env h4
      | none => .bad) else .bad) := out
  -- the kind of the container, by the evaluator alone
  let kind : Bool := match ev false ia env S.ah with
    | .ok d h1 => (match ev false io env h1 with
      | .ok x h2 => (match ev false ik env h2 with
        | .ok _ h3 => lstF x f h3
        | _ => true)
      | _ => true)
    | _ => true
  have go : ∀ (Q3 : V → V → V → Hp → Prop), (∀ (U : WS) n (b : Addr) z y, True → (∃ (xs : List V) (k : Int) (j : Nat), kind = true ∧ z = V.int k ∧ U.H b = some (.lst xs) ∧ ixN xs.length k = some j ∧ D.nx σ (upd U.H b (.lst (xs.set j y)))) ∨ (kind = false ∧ ∃ H', DPut U.H b z y H' ∧ D.nx σ H') → Q3 y (.ref b) z U.H) →
      tE B W false ia σ S.H fun y H1 => tFld X.K (tE B W false io) f σ H1 fun x H2 => tE B W false ik σ H2 fun z H3 => Q3 y x z H3 := fun Q3 hQ3 => by
    refine tE_sE ok er out fun T d y ok1 l1 er1 h1 e1 o1 => ?_
    refine tE_sE ok1 er1 o1 fun U x xv ok2 l2 er2 h2 e2 o2 => ?_
    by_cases qo : isOwnF cs x f U.ah = true
    · rw [if_pos qo] at o2
      obtain ⟨n, c, fs, a, dx, fs', b, rfl, rfl, en, hcs, hw, hA, hf, hl, hbw⟩ := ownF_at ok2 h2 qo
      obtain ⟨k1, k2⟩ := hc c hcs
      refine ⟨a, B.ca c, dx, fs', .ref b, rfl, hA, k1, k2, hl, ?_⟩
      refine tE_sE ok2 er2 o2 fun Y kd z ok3 l3 er3 h3 e3 o3 => ?_
      rw [hpk] at l3
      have hk : kind = lstF (.ref n) f Y.ah := by
        show (match ev false ia env S.ah with
          | .ok d h1 => (match ev false io env h1 with
            | .ok x h2 => (match ev false ik env h2 with
              | .ok _ h3 => lstF x f h3
              | _ => true)
            | _ => true)
          | _ => true : Bool) = _
        simp only [e1, e2, e3]
      obtain ⟨f1, f2⟩ := fsets_fin (fs := fs) ok3 l3 er3 hw hA hl hbw h3 (l3.rep (l2.rep h1)) o3
      refine hQ3 Y n b z y trivial ?_
      cases hkk : lstF (.ref n) f Y.ah with
      | true =>
        obtain ⟨xs, kk, j, a1, a2, a3, a4⟩ := f1 hkk
        exact .inl ⟨xs, kk, j, hk.trans hkk, a1, a2, a3, a4⟩
      | false =>
        exact .inr ⟨hk.trans hkk, f2 hkk⟩
    · rw [if_neg qo] at o2; exact o2.elim
  cases hkd : kind with
  | true =>
    left
    refine go (fun y x z H3 => rSetL x z y H3 fun H4 => D.nx σ H4) fun U n b z y _ h => ?_
    rcases h with ⟨xs, kk, j, _, rfl, h2, h3, h4⟩ | ⟨h1, _⟩
    · exact ⟨b, xs, kk, j, rfl, rfl, h2, h3, h4⟩
    · rw [hkd] at h1; cases h1
  | false =>
    right
    refine go (fun y x z H3 => ∃ a H4, x = .ref a ∧ DPut H3 a z y H4 ∧ D.nx σ H4) fun U n b z y _ h => ?_
    rcases h with ⟨xs, kk, j, h1, _⟩ | ⟨_, H', h1, h2⟩
    · rw [hkd] at h1; cases h1
    · exact ⟨b, H', rfl, h1, h2⟩
/-! ### a field's container let go; a slot's container moved into a field -/
theorem frzF_of {cs : List Nat} {d : AV} {f : Str} {h : AH} : frzF cs d f h = h ∨ ∃ n c fs cc, d = .ref n ∧ h[n]? = some (.ins c fs) ∧ uniqF f fs = true ∧ lookF f fs = some (.own cc) ∧ frzF cs d f h = h.set n (.ins c (putFA f (.val cc) fs)) := by
  cases d <;> first | exact .inl rfl | skip
  rename_i n
  have e0 : frzF cs (.ref n) f h = (match h[n]? with
    | some (.ins c fs) => if cs.contains c = true ∧ uniqF f fs = true then (match lookF f fs with
      | some (.own cc) => h.set n (.ins c (putFA f (.val cc) fs))
      | _ => h) else h
    | _ => h) := rfl
  cases e : h[n]? with
  | none => rw [e] at e0; exact .inl e0
  | some ob =>
    rw [e] at e0
    cases ob with
    | gone => exact .inl e0
    | box c => exact .inl e0
    | ins c fs =>
      simp only at e0
      by_cases cc : cs.contains c = true ∧ uniqF f fs = true
      · rw [if_pos cc] at e0
        cases e2 : lookF f fs with
        | none => rw [e2] at e0; exact .inl e0
        | some fv =>
          rw [e2] at e0
          cases fv with
          | val _ => exact .inl e0
          | gone => exact .inl e0
          | exc _ => exact .inl e0
          | own c0 => exact .inr ⟨n, c, fs, c0, rfl, e, cc.2, e2, e0⟩
      · rw [if_neg cc] at e0; exact .inl e0
theorem ffrz_read {cs : List Nat} {i : Nat} {f : Str} {σ : L2.St} {H : Hp} (h : tS B W (.ffrz cs i f) D σ H) : D.nx σ H := by
  obtain ⟨S, env, rfl, ok, er, out⟩ := h
  have out : OutS B W S D (.nx env (frzF cs (slotD env i) f S.ah)) := out
  rcases frzF_of (cs := cs) (d := slotD env i) (f := f) (h := S.ah) with q | ⟨n, c, fs, cc, _, e1, hu, e2, q⟩
  · rw [q] at out; exact nx_skip ok er out
  · rw [q] at out
    obtain ⟨a, hw, dx, fs', hA, hf⟩ := ok.objs n _ e1
    obtain ⟨v, hl, b, rfl, hb, hcc⟩ := frs_look hf e2
    have no : ∀ m, Ow.fld n f ≠ .obj m := fun _ z => nomatch z
    have keep : ∀ a x, S.w a = some x → x ≠ .fld n f → (S.free b).w a = some x := fun a x e n => (if_neg (fun z => by rw [z, hb] at e; exact n (Option.some.inj e).symm)).trans e
    have ob : ∀ a n, S.w a = some (.obj n) → (S.free b).w a = some (.obj n) := fun a n e => keep a _ e fun z => nomatch z
    let S' : WS := { S.free b with ah := S.ah.set n (.ins c (putFA f (.val cc) fs)) }
    have rep : ∀ {d : AV} {v : V}, S.R B d v → S'.R B d v := fun h => Rep.mono ob free_G h
    have cont : ∀ {c : AV} {a : Addr}, S.C B c a → S'.C B c a := fun {c a} h => by
      cases h with
      | lst q t => exact .lst q (Reps.mono ob free_G t)
      | dk q k t => exact .dk q k (Reps.mono ob free_G t)
      | dt q k t => exact .dt q k (Reps.mono ob free_G t)
    have fr : ∀ m g (u : FV) (y : V), (m = n → g ≠ f) → FR B S m g u y → FR B S' m g u y := fun m g u y hne h => by
      cases u with
      | val d => exact rep h
      | gone => exact trivial
      | exc _ => first | exact trivial | exact h2 | exact e2 | exact h
      | own c2 =>
        obtain ⟨q, rfl, hq, hc2⟩ := h
        exact ⟨q, rfl, keep q _ hq (fun z => by cases z; exact hne rfl rfl), cont hc2⟩
    have back : ∀ a x, S'.w a = some x → S.w a = some x := fun a x e => by
      have e : (if a = b then none else S.w a) = some x := e
      by_cases z : a = b
      · rw [if_pos z] at e; cases e
      · rw [if_neg z] at e; exact e
    have hnew : S'.R B cc (.ref b) := by
      cases hcc with
      | lst q t => exact .lst (free_at q) (Reps.mono ob free_G t)
      | dk q k t => exact .dk (.inl (free_at q)) k (Reps.mono ob free_G t)
      | dt q k t => exact .dt (.inl (free_at q)) k (Reps.mono ob free_G t)
    have ok' : S'.Ok B := by
      refine ⟨fun m x e => ?_, fun a b m e1 e2 => ok.inj a b m (back a _ e1) (back b _ e2), fun a m e => ?_, fun a x e => ok.trk a x (back a _ e), ok.szl, ok.szt⟩
      · have e : (S.ah.set n (.ins c (putFA f (.val cc) fs)))[m]? = some x := e
        by_cases z : n = m
        · subst z
          rw [List.getElem?_set_self (ok.lt a n hw)] at e
          cases e
          exact ⟨a, ob a n hw, dx, fs', hA, frs_fput (S := S) (S' := S') (f := f) (fv := .val cc) (v := .ref b) hnew (fun g u y hg h => fr n g u y (fun _ => hg) h) hf hu hl⟩
        · rw [List.getElem?_set_ne z] at e
          obtain ⟨q, hq, h⟩ := ok.objs m x e
          refine ⟨q, ob q m hq, ?_⟩
          cases x with
          | gone => exact trivial
          | box c2 => exact cont h
          | ins c2 gs =>
            obtain ⟨dx', gs', q1, q2⟩ := h
            exact ⟨dx', gs', q1, q2.imp fun u v ⟨e1, e2⟩ => ⟨e1, fr m u.1 u.2 v.2 (fun y => absurd y.symm z) e2⟩⟩
      · show m < (S.ah.set n _).length
        rw [List.length_set]; exact ok.lt a m (back a _ e)
    refine out S' σ ok' rfl ⟨ob, free_G, fun a e => ⟨keep a _ e (fun z => (nomatch z)), rfl⟩⟩ ⟨er.len, fun j fv e => ?_⟩
    obtain ⟨v, h1, h2⟩ := er.at_ j fv e
    refine ⟨v, h1, ?_⟩
    cases fv with
    | val d => exact rep h2
    | gone => exact trivial
    | exc _ => first | exact trivial | exact h2 | exact e2 | exact h
    | own c' =>
      obtain ⟨b', rfl, hb', hc'⟩ := h2
      exact ⟨b', rfl, keep b' _ hb' (fun z => nomatch z), cont hc'⟩
theorem sns_preF {sts : List Stmt} {cs : List Nat} {i : Nat} {f : Str} {a : IS} (h : SndSs B X W sts a) : SndSs B X W sts (.seq (.ffrz cs i f) a) := PSs.imp h fun D σ H z => ffrz_read (D := { D with nx := tS B W a D }) (seq_read z)
theorem sns_fmov {cs : List Nat} {o : Expr} {f x : Str} {io : IE} {i : Nat} {px pos pos' : Pos} (hN : X.N[i]? = some x) (hv : Vis X.env.scope x) (hd : (x == ("__debug__" : Str)) = false) (hcd : (x == ("__classdict__" : Str)) = false) (hc : ∀ c ∈ cs, Cls X.K (B.ca c) ∧ NoAttr X.K (B.ca c) f) (ho : SndE B X W o io) :
    SndS B X W (.Assign [.Attribute o f pos'] (.Name x px) pos) (.fmov cs io f i) := (ps_fld (ho.pe false) (pe_var hN hv hd hcd) (sw_attr' (e := .Name x px) (o := o) (f := f))).imp fun D σ H h => by
  obtain ⟨S, env, rfl, ok, er, out⟩ := h
  have out : OutS B W S D (match ownC env i with
    | some c => (ev false io env S.ah).thn env fun x h1 => (match putO cs x f (.own c) h1 with
      | some h2 => .nx (env.set i (some .gone)) h2
      | none => .bad)
    | none => .bad) := out
  cases q : ownC env i with
  | none => rw [q] at out; exact out.elim
  | some cc =>
    rw [q] at out
    have q' := ownC_of q
    obtain ⟨b, hσ, _, _⟩ := own_c er q'
    refine ⟨.ref b, hσ, ?_⟩
    refine tE_s ok er out fun U d2 xv ok2 l2 er2 h2 o2 => ?_
    have o2 : OutS B W U D (match putO cs d2 f (.own cc) U.ah with | some h3 => .nx (env.set i (some .gone)) h3 | none => .bad) := o2
    cases qp : putO cs d2 f (.own cc) U.ah with
    | none => rw [qp] at o2; exact o2.elim
    | some h3 =>
      rw [qp] at o2
      obtain ⟨b2, hσ2, hb2, hc2⟩ := own_c er2 q'
      rw [hσ] at hσ2
      cases hσ2
      obtain ⟨n, c, fs, rfl, e1, hcs, hlen, rfl⟩ := putO_of qp
      have ok3 := hold_ok (ow' := .fld n f) ok2 hb2 (fun _ z => nomatch z) (fun _ _ z => nomatch z) fun _ z => nomatch z
      have h2' : (U.hold b (.fld n f)).R B (.ref n) xv := hold_rep hb2 (fun _ z => nomatch z) h2
      obtain ⟨a, dx, fs', rfl, hwa, ha, hf⟩ := obj_at ok3 h2' e1
      obtain ⟨k1, k2⟩ := hc c hcs
      refine ⟨a, B.ca c, dx, fs', rfl, ha, k1, k2, by rw [← frs_len hf]; exact hlen, ?_⟩
      have hy : FR B (U.hold b (.fld n f)) n f (.own cc) (.ref b) := ⟨b, rfl, hold_at, hold_cont hb2 (fun _ z => nomatch z) hc2⟩
      have lh : U.leS (U.hold b (.fld n f)) := ⟨fun q m e => hold_obj hb2 (fun _ z => nomatch z) q m e, by rw [hold_G hb2]; exact Same.refl _, fun q e => ⟨(hold_ne fun z => by rw [z, hb2] at e; cases e).trans e, rfl⟩⟩
      have erh : ERep B (U.hold b (.fld n f)) (env.set i (some .gone)) σ := by
        refine ⟨by rw [List.length_set]; exact er2.len, fun j fv e => ?_⟩
        by_cases hj : i = j
        · subst hj
          have hl : i < env.length := (List.getElem?_eq_some_iff.mp q').1
          rw [List.getElem?_set_self hl] at e
          cases e
          exact ⟨_, hσ, trivial⟩
        · rw [List.getElem?_set_ne hj] at e
          obtain ⟨v, h1, h2⟩ := er2.at_ j fv e
          refine ⟨v, h1, ?_⟩
          cases fv with
          | val d => exact hold_rep hb2 (fun _ z => nomatch z) h2
          | gone => exact trivial
          | exc _ => first | exact trivial | exact h2 | exact e2 | exact h
          | own c' =>
            obtain ⟨b', rfl, hb', hc'⟩ := h2
            exact ⟨b', rfl, (hold_ne fun z => by rw [z, hb2] at hb'; cases hb'; exact hj rfl).trans hb', hold_cont hb2 (fun _ z => nomatch z) hc'⟩
      exact o2 ((U.hold b (.fld n f)).obj a (.ins (B.ca c) dx (putF f (.ref b) fs')) n (.ins c (putFA f (.own cc) fs))) σ (obj_ok ok3 hwa rfl rfl (frs_put hy hf)) rfl (lh.trans (obj_leS hwa)) (obj_erep hwa erh)
end
end Ab

set_option autoImplicit false
set_option maxHeartbeats 4000000
/-! AbU: more methods and built-ins. -/
namespace Ab
open PySem PySem.Spec PyProof.Rows L2

section
variable {B : Bs} {X : Cx} {W : WX} {D : Ends}
theorem datL_dp {S : WS} {x : AV} {l : List AV} {xv : V} {ys : List V} {p : List PyData × PyData} (h : datL l x = some p) (hx : S.View B x xv) (hl : S.Rs B l ys) :
    Dp B.K S.H xv p.2 ∧ DpAll B.K S.H ys p.1 ∧ SeqAt.shaped p.2 = true ∧ SeqAt.shaped (.list p.1) = true := by
  unfold datL at h
  cases e2 : l.mapM (toPD DEEP) with
  | none => rw [e2] at h; cases h
  | some ds =>
    cases e1 : toPD DEEP x with
    | none => rw [e1, e2] at h; cases h
    | some d =>
      rw [e1, e2] at h
      cases h
      have hi : inL x l = some (ds.any fun z => PyData.eqv z d) := by unfold inL; rw [e1, e2]
      obtain ⟨d', ds', h1, h2, h3, h4, _, _⟩ := inL_dp hi hx hl
      obtain ⟨a1, a2, a3⟩ := dp_of DEEP e1 hx
      have each : ∀ {l : List AV} {m : List PyData}, Fo (fun a b => toPD DEEP a = some b) l m → ∀ {xs : List V}, S.Rs B l xs → DpAll B.K S.H xs m ∧ (∀ d ∈ m, d.depth ≤ DEEP) ∧ PyData.canLayAll0 m = true := by
        intro l m h
        induction h with
        | nil => intro xs hx; cases hx; exact ⟨.nil, fun _ z => (nomatch z), rfl⟩
        | cons e t iht =>
          intro xs hx
          cases hx with
          | cons r rs =>
            obtain ⟨h1, h2, h3⟩ := iht rs
            obtain ⟨k1, k2, k3⟩ := dp_of DEEP e (.inl r)
            refine ⟨.cons k1 h1, fun d hd => ?_, ?_⟩
            · rcases List.mem_cons.mp hd with z | z
              · rw [z]; exact k2
              · exact h2 d z
            · rw [PyData.canLayAll0, k3, h3]; rfl
      obtain ⟨b1, b2, b3⟩ := each (mapM_some e2) hl
      have dd := pd_depth_all b2
      refine ⟨a1, b1, shaped_of a2 (by decide) a3, shaped_of (n := DEEP + 1) ?_ (by decide) (by rw [PyData.canLay0]; exact b3)⟩
      rw [PyData.depth]
      have : PyData.depthAll (ds, d).1 = PyData.depthAll ds := rfl
      omega
/-- l.count(x), data -/
def rCountD (K : PySem.W.Frag) : V → List V → Hp → VK → Prop := fun x xs H Q => ∃ (a : Addr) (y : V) (d : PyData) (ds : List PyData), x = V.ref a ∧ xs = [y] ∧ Dp K H (V.ref a) (.list ds) ∧ Dp K H y d ∧
  SeqAt.shaped (.list ds) = true ∧ SeqAt.shaped d = true ∧ Q (.int ((ds.countP fun z => PyData.eqv z d : Nat) : Int)) H
theorem mt_countD (hu : X.A.units + 65 < cLine) : MtR X "list.count" (rCountD X.K) := by
  intro pins s σ H x xs v us Q I rx rxs h
  obtain ⟨a, y, d, ds, rfl, rfl, hl, hy, sl, sd, q⟩ := h
  cases rx
  cases rxs with
  | cons ry rt =>
    rename_i uy ut
    cases rt
    obtain ⟨bs, r1⟩ := Dp.reads I d y uy hy ry
    have hroom : X.A.units + 1 + min (PyData.depthAll ds) d.depth < cLine := room_in_shaped sd hu
    cases hl with
    | lst hs ha =>
      obtain ⟨its, rv, hil, hlen⟩ := I.list hs
      obtain ⟨as, h4⟩ := Dp.readsAll I ds _ its ha rv
      have p1 : PyData.plainAll ds = true := by
        have := SeqAt.canLay_of_shaped sl
        rw [PyData.canLay0] at this
        exact PyData.plainAll_of_canLay0 ds this
      have p2 : d.plain = true := PyData.plain_of_canLay0 d (SeqAt.canLay_of_shaped sd)
      exact SeqAt.count_list_data hil.isList (by simpa using h4) r1 p1 p2 hroom ⟨.int _, H, I.tok _, ⟨_, rfl⟩, q⟩
theorem snd_lstm {nm : Str} {id : String} {b : Bm} {r : V → List V → Hp → VK → Prop} {o e : Expr} {io ie : IE} {apos cpos : Pos} (slot : Slot "list" nm id) (hty : typeOf (.builtin id) = pure (.type "method_descriptor")) (hm : MtR X id r) (hbase : attributeBase o nm X.env (eval o X.env) = eval o X.env) (hline : (apos.endLine == cpos.line) = true) (ho : SndE B X W o io) (ha : SndA B X W [e] ie) (hs : noStar e = true)
    (hb : ∀ x, bmOk b x = true → ∃ l, x = .lst l)
    (hk : ∀ (S : WS) (a : Addr) (l : List AV) (xs : List V) (d : AV) (y : V) (Q : VK) (E : Nat → Hp → Prop) v, S.Ok B → S.H a = some (.lst xs) → S.Rs B l xs → S.View B d y → Outs B S true (RV B v) E (doBm b (.lst l) [d] S.ah) Q → r (.ref a) [y] S.H Q) (h1n : ∀ l xs h, xs.length ≠ 1 → doBm b (.lst l) xs h = .bad) :
    SndE B X W (.Call (.Attribute o nm apos) [e] [] cpos) (.bm b io ie) := by
  refine .plain (fun v => (pe_bm PySem.F.plainAttrs_list slot hty hm (ho.pe (pureI ie)) (ha.pa true) hbase (by rw [starEach_of hs]; rfl) hline (starEach_of hs) (plainArgs (by rfl))).imp fun σ H Q h => ?_) rfl
  obtain ⟨S, env, rfl, ok, er, out⟩ := h
  refine tE_use (p2 := pureI ie) ok er out (fun z => and2 z) fun T d x ok1 l1 er1 h1 o1 => ?_
  by_cases q : bmOk b d = true
  · obtain ⟨l, rfl⟩ := hb d q
    rw [if_pos q] at o1
    obtain ⟨a, ys, rfl, ha', hr⟩ := WS.View.lst (RV.view h1)
    refine ⟨.inl ⟨rfl, ys, SqL.of ha'⟩, ?_⟩
    refine tA_use (p2 := true) ok1 er1 o1 (fun z => ⟨z, rfl⟩) fun U ds xs ok2 l2 er2 h2 o2 => ?_
    obtain ⟨m, rfl, hl⟩ := h2
    have o2 : Outs B U true (RV B v) (WE B W σ) (doBm b (.lst l) m U.ah) Q := o2
    have hx : U.View B (.lst l) (.ref a) := by
      cases q : pureI ie with
      | true => rw [q] at h1 l2; exact l2.view h1
      | false => rw [q] at h1; exact .inl (l2.rep h1)
    obtain ⟨a', ys', e, ha2, hr2⟩ := WS.View.lst hx
    cases e
    by_cases c : m.length = 1
    · match m, hl, c, o2 with
      | [d], hl, _, o2 =>
        obtain ⟨y, rfl, hy⟩ := fo1 hl
        exact hk U a l ys' d y Q _ v ok2 ha2 hr2 (RV.view hy) o2
    · rw [h1n _ _ _ c] at o2; exact o2.elim
  · rw [if_neg q] at o1; exact o1.elim
theorem snd_index {o e : Expr} {io ie : IE} {apos cpos : Pos} {k : Nat} (hK : X.K = B.K) (hr : L2H.RoomH k X.A) (hbase : attributeBase o "index" X.env (eval o X.env) = eval o X.env) (hline : (apos.endLine == cpos.line) = true) (ho : SndE B X W o io) (ha : SndA B X W [e] ie) (hs : noStar e = true) : SndE B X W (.Call (.Attribute o "index" apos) [e] [] cpos) (.bm .index io ie) := by
  have hu : X.A.units + 65 < cLine := by have := hr.un; omega
  refine snd_lstm PySem.F.slot_list_index PySem.F.type_list_index (mt_indexD hu) hbase hline ho ha hs (fun x q => by cases x <;> first | exact ⟨_, rfl⟩ | cases q) (fun S a l xs d y Q E v ok hA hl hy out => ?_) fun l xs h hn => ?_
  · have out : Outs B S true (RV B v) E (match datL l d with | some p => (match p.1.findIdx? (fun z => PyData.eqv z p.2) with | some j => .ok (.int (j : Int)) S.ah | none => .bad) | none => .bad) Q := out
    cases e1 : datL l d with
    | none => rw [e1] at out; exact out.elim
    | some p =>
      rw [e1] at out
      simp only at out
      cases e2 : p.1.findIdx? (fun z => PyData.eqv z p.2) with
      | none => rw [e2] at out; exact out.elim
      | some j =>
        rw [e2] at out
        obtain ⟨h1, h2, h3, h4⟩ := datL_dp e1 hy hl
        obtain ⟨j1, j2, j3⟩ := List.findIdx?_eq_some_iff_getElem.mp e2
        rw [← hK] at h1 h2
        refine ⟨a, y, p.2, p.1, j, p.1[j], rfl, rfl, .lst (SqL.of hA) h2, h1, h4, h3, List.getElem?_eq_getElem j1, j2, fun m z' hm hz => ?_, fin_rv ok (.int _) out⟩
        obtain ⟨m1, m2⟩ := List.getElem?_eq_some_iff.mp hz
        have := j3 m hm
        rw [m2] at this
        simpa using this
  · match xs, hn with
    | [], _ => rfl
    | [_], hn => exact absurd rfl hn
    | _ :: _ :: _, _ => rfl
theorem snd_count {o e : Expr} {io ie : IE} {apos cpos : Pos} {k : Nat} (hK : X.K = B.K) (hr : L2H.RoomH k X.A) (hbase : attributeBase o "count" X.env (eval o X.env) = eval o X.env) (hline : (apos.endLine == cpos.line) = true) (ho : SndE B X W o io) (ha : SndA B X W [e] ie) (hs : noStar e = true) : SndE B X W (.Call (.Attribute o "count" apos) [e] [] cpos) (.bm .count io ie) := by
  have hu : X.A.units + 65 < cLine := by have := hr.un; omega
  refine snd_lstm PySem.F.slot_list_count PySem.F.type_list_count (mt_countD hu) hbase hline ho ha hs (fun x q => by cases x <;> first | exact ⟨_, rfl⟩ | cases q) (fun S a l xs d y Q E v ok hA hl hy out => ?_) fun l xs h hn => ?_
  · have out : Outs B S true (RV B v) E (match datL l d with | some p => .ok (.int ((p.1.countP fun z => PyData.eqv z p.2 : Nat) : Int)) S.ah | none => .bad) Q := out
    cases e1 : datL l d with
    | none => rw [e1] at out; exact out.elim
    | some p =>
      rw [e1] at out
      obtain ⟨h1, h2, h3, h4⟩ := datL_dp e1 hy hl
      rw [← hK] at h1 h2
      exact ⟨a, y, p.2, p.1, rfl, rfl, .lst (SqL.of hA) h2, h1, h4, h3, fin_rv ok (.int _) out⟩
  · match xs, hn with
    | [], _ => rfl
    | [_], hn => exact absurd rfl hn
    | _ :: _ :: _, _ => rfl
/-! list(range(..)) -/
theorem fo_rg {S : WS} (a : Int) : ∀ n : Nat, S.Rs B ((List.range n).map fun (k : Nat) => AV.int (a + k)) ((List.range n).map fun (k : Nat) => V.int (a + k))
  | 0 => .nil
  | n + 1 => by
    rw [List.range_succ, List.map_append, List.map_append]
    exact (fo_rg a n).app (.cons (.int _) .nil)
theorem snd_lrng1 {x : Str} {e : Expr} {ia : IE} {p p2 pos pos2 : Pos} (hc : X.calm = true) (hg : Gl X "list") (hm : X.mg "list" = none) (hg2 : Gl X "range") (hm2 : X.mg "range" = none) (h : SndE B X W e ia) (hs : noStar e = true) :
    SndE B X W (.Call (.Name "list" p) [.Call (.Name "range" p2) [e] [] pos2] [] pos) (.bi .lrng1 (.cons ia .nil)) := by
  refine .plain (fun v => (pe_listRg hc hg hm (prg_1 hg2 hm2 (h.pe true) (starEach_of hs))).imp fun σ H Q h => ?_) rfl
  obtain ⟨S, env, rfl, ok, er, out⟩ := h
  have e1 : ev v (.bi .lrng1 (.cons ia .nil)) env S.ah = (ev true ia env S.ah).bind fun d h1 => doBi .lrng1 [d] h1 := by
    show R.bind (R.bind (ev (true && pureI .nil) ia env S.ah) _) _ = _
    rw [show (true && pureI .nil) = true from rfl]
    cases ev true ia env S.ah <;> rfl
  rw [e1] at out
  refine tE_use (p2 := true) ok er out (fun z => ⟨by simpa [pureI] using z, rfl⟩) fun T d x ok1 l1 er1 h1 o1 => ?_
  cases d <;> first | exact o1.elim | skip
  rename_i j
  cases (RV.view h1).int
  have o1 : Outs B T true (RV B v) (WE B W σ) (if -(2 ^ 62) ≤ j ∧ j ≤ LIM then .ok (.lst ((List.range j.toNat).map fun (k : Nat) => AV.int (0 + k))) T.ah else .bad) Q := o1
  by_cases c : -(2 ^ 62) ≤ j ∧ j ≤ LIM
  · rw [if_pos c] at o1
    have hl : (LIM : Int) = 16777216 := rfl
    have e0 : (j - 0).toNat = j.toNat := by rw [Int.sub_zero]
    refine ⟨j, rfl, ⟨by decide, by decide, c.1, by omega, by omega⟩, fun q hq => ?_⟩
    have hv : rgV 0 j = (List.range j.toNat).map fun (k : Nat) => V.int (0 + k) := by unfold rgV; rw [e0]
    rw [hv]
    exact fin_lst ok1 hq (by rw [List.length_map, List.length_range]; show j.toNat ≤ 16777216; omega) (fo_rg 0 _) o1
  · rw [if_neg c] at o1; exact o1.elim
theorem snd_lrng2 {x : Str} {e e' : Expr} {ia ib : IE} {p p2 pos pos2 : Pos} (hc : X.calm = true) (hg : Gl X "list") (hm : X.mg "list" = none) (hg2 : Gl X "range") (hm2 : X.mg "range" = none) (h : SndE B X W e ia) (h' : SndE B X W e' ib) (hs : noStar e = true) (hs' : noStar e' = true) :
    SndE B X W (.Call (.Name "list" p) [.Call (.Name "range" p2) [e, e'] [] pos2] [] pos) (.bi .lrng2 (.cons ia (.cons ib .nil))) := by
  have hp : (backTo pos2 (starEach [e'] X.env)).any (·.1) = false := by rw [starEach_of hs']; rfl
  refine .plain (fun v => (pe_listRg hc hg hm (prg_2 hg2 hm2 (h.pe (pureI ib)) (h'.pe true) (starEach_of hs) (starEach_of hs') hp)).imp fun σ H Q h => ?_) rfl
  obtain ⟨S, env, rfl, ok, er, out⟩ := h
  have e1 : ev v (.bi .lrng2 (.cons ia (.cons ib .nil))) env S.ah = (ev (pureI ib) ia env S.ah).bind fun d h1 => (ev true ib env h1).bind fun d2 h2 => doBi .lrng2 [d, d2] h2 := by
    show R.bind (R.bind (ev (true && (pureI ib && true)) ia env S.ah) _) _ = _
    rw [show (true && (pureI ib && true)) = pureI ib by simp]
    cases ev (pureI ib) ia env S.ah with
    | ok d h1 =>
      have e2 : ev true (.cons ib .nil) env h1 = (ev true ib env h1).bind fun d2 h2 => .ok (.tup [d2]) h2 := by
        show R.bind (ev (true && pureI .nil) ib env h1) _ = _
        rw [show (true && pureI .nil) = true from rfl]
        cases ev true ib env h1 <;> rfl
      show R.bind (R.bind (ev true (.cons ib .nil) env h1) _) _ = R.bind (ev true ib env h1) _
      rw [e2]
      cases ev true ib env h1 <;> rfl
    | _ => rfl
  rw [e1] at out
  refine tE_use (p2 := pureI ib) ok er out (fun z => by simpa [pureI] using z) fun T d x ok1 l1 er1 h1 o1 => ?_
  refine tE_use (p2 := true) ok1 er1 o1 (fun z => ⟨z, rfl⟩) fun U d2 y ok2 l2 er2 h2 o2 => ?_
  cases d <;> first | (cases d2 <;> exact o2.elim) | skip
  rename_i i
  cases d2 <;> first | exact o2.elim | skip
  rename_i j
  cases (RV.view h1).int
  cases (RV.view h2).int
  have o2 : Outs B U true (RV B v) (WE B W σ) (if -(2 ^ 62) ≤ i ∧ i < 2 ^ 62 ∧ -(2 ^ 62) ≤ j ∧ j < 2 ^ 62 ∧ j - i ≤ LIM then .ok (.lst ((List.range (j - i).toNat).map fun (k : Nat) => AV.int (i + k))) U.ah else .bad) Q := o2
  by_cases c : -(2 ^ 62) ≤ i ∧ i < 2 ^ 62 ∧ -(2 ^ 62) ≤ j ∧ j < 2 ^ 62 ∧ j - i ≤ LIM
  · rw [if_pos c] at o2
    obtain ⟨c1, c2, c3, c4, c5⟩ := c
    have hl : (LIM : Int) = 16777216 := rfl
    refine ⟨i, j, rfl, rfl, ⟨c1, c2, c3, c4, by omega⟩, fun q hq => ?_⟩
    have hv : rgV i j = (List.range (j - i).toNat).map fun (k : Nat) => V.int (i + k) := rfl
    rw [hv]
    exact fin_lst ok2 hq (by rw [List.length_map, List.length_range]; show (j - i).toNat ≤ 16777216; omega) (fo_rg i _) o2
  · rw [if_neg c] at o2; exact o2.elim
end
end Ab

set_option autoImplicit false
set_option maxHeartbeats 4000000
/-! AbV: the least of pairs. -/
namespace Ab
open PySem PySem.Spec PyProof.Rows L2

section
variable {B : Bs} {X : Cx} {W : WX} {D : Ends}
def pdP (p : Int × Int) : PyData := .tuple [.int p.1, .int p.2]
theorem minD_prs : ∀ (ps : List (Int × Int)) (x : Int × Int), PySem.W.minD (pdP x) (ps.map pdP) = pdP (minPr x ps)
  | [], x => rfl
  | y :: ps, x => by
    have ih := minD_prs ps (if y.1 < x.1 ∨ (y.1 = x.1 ∧ y.2 < x.2) then y else x)
    show PySem.W.minD (if PySem.W.dataLt (pdP y) (pdP x) then pdP y else pdP x) (ps.map pdP) = _
    have e : (if PySem.W.dataLt (pdP y) (pdP x) then pdP y else pdP x) = pdP (if y.1 < x.1 ∨ (y.1 = x.1 ∧ y.2 < x.2) then y else x) := by
      unfold pdP
      rw [PySem.W.dataLt_ii]
      by_cases c : y.1 < x.1 ∨ (y.1 = x.1 ∧ y.2 < x.2)
      · rw [if_pos c, decide_eq_true c, if_pos rfl]
      · rw [if_neg c, decide_eq_false c, if_neg Bool.false_ne_true]
    rw [e, ih]
    rfl
theorem alike_prs (ps : List (Int × Int)) : PySem.W.AlikeAll (ps.map pdP) := by
  refine ⟨fun x hx y hy => ?_, fun x hx => ?_⟩
  · obtain ⟨p, _, rfl⟩ := List.mem_map.mp hx
    obtain ⟨q, _, rfl⟩ := List.mem_map.mp hy
    simp [pdP, PySem.W.alike, PySem.W.alikeAll]
  · obtain ⟨p, _, rfl⟩ := List.mem_map.mp hx
    intro z; cases z
theorem depth_prs : ∀ ps : List (Int × Int), PyData.depthAll (ps.map pdP) ≤ 1
  | [] => by simp [PyData.depthAll]
  | p :: ps => by
    have := depth_prs ps
    rw [List.map_cons, PyData.depthAll]
    have e : (pdP p).depth = 1 := by simp [pdP, PyData.depth, PyData.depthAll]
    rw [e]
    omega
theorem reads_pr {h : Heap} {v : Value} {p q : Int × Int} {as bs : List Addr} (h1 : Reads h v (pdP p) as) (h2 : Reads h v (pdP q) bs) : p = q := by
  obtain ⟨a, b⟩ := p
  obtain ⟨c, d⟩ := q
  unfold pdP at h1 h2
  cases h1 with
  | tuple g1 c1 d1 r1 =>
    cases h2 with
    | tuple g2 c2 d2 r2 =>
      rw [g1] at g2
      cases g2
      rw [d1] at d2
      cases d2
      generalize Array.toList _ = l at r1 r2
      cases r1 with
      | cons x1 y1 =>
        cases r2 with
        | cons x2 y2 =>
          cases x1
          cases x2
          cases y1 with
          | cons x1 y1 =>
            cases y2 with
            | cons x2 y2 =>
              cases x1
              cases x2
              rfl
/-- the least of a list of pairs -/
def rMinP (K : PySem.W.Frag) : List V → Hp → VK → Prop := fun xs H Q => ∃ (a : Addr) (ys : List V) (x : Int × Int) (ps : List (Int × Int)), xs = [V.ref a] ∧ SqL K H a ys ∧ DpAll K H ys ((x :: ps).map pdP) ∧
  ∀ (i : Nat) (y : V), ys[i]? = some y → (x :: ps)[i]? = some (minPr x ps) → Q y H
theorem readsAll_length {h : Heap} {vs : List Value} {xs : List PyData} {as : List Addr} (r : ReadsAll h vs xs as) : vs.length = xs.length := by
  have := PySem.W.readsAll_len (vs := vs.toArray) (by simpa using r)
  simpa using this
theorem readsAll_get {h : Heap} {vs : List Value} {ps : List (Int × Int)} {as : List Addr} (r : ReadsAll h vs (ps.map pdP) as) {i : Nat} {v : Value} (hv : vs[i]? = some v) : ∃ p bs, ps[i]? = some p ∧ Reads h v (pdP p) bs := by
  have hl := readsAll_length r
  rw [List.length_map] at hl
  obtain ⟨bs, h1, _⟩ := PySem.W.readsAll_at r i v hv
  have hi : i < ps.length := by rw [← hl]; exact (List.getElem?_eq_some_iff.mp hv).1
  refine ⟨ps[i], bs, List.getElem?_eq_getElem hi, ?_⟩
  rw [List.getD_eq_getElem?_getD, List.getElem?_map, List.getElem?_eq_getElem hi] at h1
  exact h1
theorem cr_minP (hc : X.calm = true) (hu : X.A.units + 65 < cLine) : CallR X (.builtin "min") (rMinP X.K) := by
  intro pins s σ H vs us Q I r h
  obtain ⟨a, ys, x, ps, rfl, hs, hd, q⟩ := h
  obtain ⟨its, rv, hl, hlen⟩ := I.list hs
  obtain ⟨as, hR⟩ := Dp.readsAll I _ _ its hd rv
  rw [Vals.ref1 r]
  have hdp := depth_prs (x :: ps)
  have hal := alike_prs (x :: ps)
  refine PySem.W.min_list_data (x := pdP x) (xs := ps.map pdP) (as := as) (I.ok.hd hc) hl.isList (by simpa using hR) hal (by
    have e : PyData.depthAll (pdP x :: ps.map pdP) = PyData.depthAll ((x :: ps).map pdP) := rfl
    rw [e]; omega) fun i v h' tk bs hv hr hk => ?_
  have hv' : its[i]? = some v := by simpa using hv
  obtain ⟨p, bs', hp, hrp⟩ := readsAll_get hR hv'
  rw [minD_prs] at hr
  have e := reads_pr (PySem.W.reads_keeps hk hrp) hr
  subst e
  have hys : i < ys.length := by
    have := rv.length
    have := (List.getElem?_eq_some_iff.mp hv').1
    omega
  obtain ⟨u, hu', ru⟩ := rv.get (List.getElem?_eq_getElem hys)
  rw [hv'] at hu'
  cases hu'
  exact ⟨ys[i], H, I.kept (t' := tk) hk, ru, q i _ (List.getElem?_eq_getElem hys) hp⟩
theorem prsA_some : ∀ {l : List AV} {ps : List (Int × Int)}, prsA l = some ps → l = ps.map prA
  | [], ps, h => by cases h; rfl
  | x :: l, ps, h => by
    unfold prsA at h
    split at h
    · rename_i e; cases e
    · rename_i a b r e
      cases e
      cases q : prsA l with
      | none => rw [q] at h; cases h
      | some m =>
        rw [q] at h
        cases h
        rw [List.map_cons, ← prsA_some q]; rfl
    · cases h
theorem dpAll_prs {S : WS} : ∀ (ps : List (Int × Int)) {xs : List V}, S.Rs B (ps.map prA) xs → DpAll B.K S.H xs (ps.map pdP)
  | [], _, h => by cases h; exact .nil
  | p :: ps, _, h => by
    cases h with
    | cons r rs => exact .cons (dp_of 30 (x := pdP p) (d := prA p) rfl (.inl r)).1 (dpAll_prs ps rs)
theorem snd_minL {k : Nat} {x : Str} {e : Expr} {ia : IE} {p pos : Pos} (hx : x = "min") (hK : X.K = B.K) (hr : L2H.RoomH k X.A) (hc : X.calm = true) (hg : Gl X x) (hm : X.mg x = none) (ha : SndA B X W [e] ia) (hs : [e].all noStar = true) : SndE B X W (.Call (.Name x p) [e] [] pos) (.bi .minL ia) := by
  subst hx
  have hu : X.A.units + 65 < cLine := by have := hr.un; omega
  refine bi_node (cr_minP hc hu) hg hm (by decide +kernel) (by decide) (by decide) ha hs fun S l xs Q E v ok hl out => ?_
  refine l1 hl (fun e => by subst e; exact out.elim) (fun d y e e2 hy => ?_) fun d d' r e => by subst e; cases d <;> exact out.elim
  subst e e2
  cases d <;> first | exact out.elim | skip
  rename_i l
  have out2 : Outs B S true (RV B v) E (match prsA l with | some (x :: r) => .ok (prA (minPr x r)) S.ah | _ => .bad) Q := out
  cases e : prsA l with
  | none => rw [e] at out2; exact out2.elim
  | some ps =>
    cases ps with
    | nil => rw [e] at out2; exact out2.elim
    | cons x ps =>
      rw [e] at out2
      obtain ⟨a, ys, rfl, h1, hr⟩ := hy.lst
      have el := prsA_some e
      subst el
      rw [hK]
      refine ⟨a, ys, x, ps, rfl, SqL.of h1, dpAll_prs (x :: ps) hr, fun i y hi hp => ?_⟩
      obtain ⟨d, hd, rd⟩ := Fo.get' hr hi
      rw [List.getElem?_map, hp] at hd
      cases hd
      exact fin_rv ok rd out2
end
end Ab

set_option autoImplicit false
set_option maxHeartbeats 4000000
/-! AbW: lists of data sorted, tuples without items among them. -/
namespace Ab
open PySem PySem.Spec PyProof.Rows L2
section
variable {prog : Program} {w : World} {A : Around} {E : Value → Shared → Prop} {s : Shared}
/-- tuple.__lt__ as a sort asks it -/
theorem lt_tuple_call {Q : Value → Shared → Prop} {p q : Addr} {us vs : Array Value} {e r : Nat → Bool} (hp : s.heap.IsTuple p us) (hq : s.heap.IsTuple q vs)
    (he : ∀ j (h1 : j < us.size) (h2 : j < vs.size), SeqAt.EqAt A.in1 s us[j] vs[j] (e j)) (hr : ∀ j (h1 : j < us.size) (h2 : j < vs.size), e j = false → SeqAt.RcLt A.in1 s us[j] vs[j] (r j))
    (h : Q (.bool (SeqAt.firstLt e r (decide (us.size < vs.size)) (List.range (min us.size vs.size)))) s) : wpAny (model prog w) A (call (.builtin "tuple.__lt__") [.ref p, .ref q]) Q E s := by
  obtain ⟨⟨c1, d1, b1, l1⟩, o1, k1, n1, z1⟩ := id hp
  obtain ⟨⟨c2, d2, b2, l2⟩, o2, k2, n2, z2⟩ := id hq
  simp only at k1 z1 k2 z2
  subst k1 z1 k2 z2
  exact call_meets PySem.F.slot_tuple_lt ⟨_, o1, rfl⟩ PySem.F.entry_tuple_lt (PySem.F.args_tuple_lt_2 _ _) (SeqAt.tuple_ltAt p q us vs n1 n2 d1 d2 l1 l2 e r) ⟨o1, o2, he, hr, h⟩
theorem oneLt_tup {f : Bool} {xs ys : List PyData} {a b : Value} {as bs : List Addr} {Q : Bool → Shared → Prop} (ra : Reads s.heap a (.tuple xs) as) (rb : Reads s.heap b (.tuple ys) bs) (h : PySem.W.alike (.tuple xs) (.tuple ys) = true)
    (hu : A.units + min (PyData.tuple xs).depth (PyData.tuple ys).depth < cLine) (hq : Q (PySem.W.dataLt (.tuple xs) (.tuple ys)) s) : wpAny (model prog w) A (oneLt' f a b) Q E s := by
  cases f with
  | false => exact PySem.W.oneLt_alike (fun z => nomatch z) ra rb h (fun z => nomatch z) hu hq
  | true =>
    have hal : PySem.W.alikeAll xs ys = true := by simpa [PySem.W.alike] using h
    cases ra with
    | @tuple l o us n _ as₁ h1 h2 h3 h4 =>
      cases rb with
      | @tuple l' o' vs n' _ bs₁ k1 k2 k3 k4 =>
        have z1 : us.size = xs.length := by simpa using SeqAt.ReadsAll.length _ _ _ h4
        have z2 : vs.size = ys.length := by simpa using SeqAt.ReadsAll.length _ _ _ k4
        rw [PySem.W.dataLt_tuple, ← PySem.W.firstLt_toks xs ys hal, ← z1, ← z2] at hq
        rw [oneLt'_eq]
        simp only [if_true]
        refine wpAny_bind (wpAny_cRoomFor (SeqAt.room_here hu) ?_)
        refine wpAny_bind (wpAny_callSpecialIfBound?_slot (T := "tuple") ⟨_, h1, h2⟩ PySem.F.slot_tuple_lt (lt_tuple_call (e := SeqAt.pairEq xs ys) (r := fun j => PySem.W.dataLt (xs.getD j .none) (ys.getD j .none)) ⟨_, h1, h2, _, h3⟩ ⟨_, k1, k2, _, k3⟩ (fun j j1 j2 => ?_) (fun j j1 j2 hj => ?_) ?_))
        · have q := PySem.W.eqAt_alikeAll xs ys A.in1 s us.toList vs.toList _ _ h4 k4 hal (SeqAt.room_in hu) j (by simpa using j1) (by simpa using j2)
          simpa using q
        · have q := PySem.W.rcLt_alikeAll xs ys A.in1 s us.toList vs.toList _ _ h4 k4 hal (SeqAt.room_in hu) j (by simpa using j1) (by simpa using j2) hj
          simpa using q
        · exact wpAny_truthy_bool hq
theorem tup_type {v : Value} {xs : List PyData} {as : List Addr} (r : Reads s.heap v (.tuple xs) as) : PySem.W.Looks (model prog w) s.heap (typeOf v) (.type "tuple") := PySem.W.looks_reads r
/-- the first items, where there are some -/
theorem firsts_of : ∀ {vs : List Value} {ds : List PyData}, PySem.W.EachIs (fun v d => ∃ as, Reads s.heap v d as) vs ds → (∀ d ∈ ds, ∃ xs, d = PyData.tuple xs) →
    ∃ fs : List (Option Value), fs.length = vs.length ∧ (∀ {E : Value → Shared → Prop} {Q : List (Option Value) → Shared → Prop}, Q fs s → wpAny (model prog w) A (vs.mapM firstOfTuple') Q E s) ∧ ((∃ d ∈ ds, d = PyData.tuple []) → (fs.all fun x => x.isSome) = false)
  | _, _, .nil, _ => ⟨[], rfl, fun {E Q} h => by rw [List.mapM_nil]; exact wpAny_pure h, fun ⟨d, hd, _⟩ => (by cases hd)⟩
  | v :: vs, _, .cons (b := d) (bs := ds) ⟨as, r⟩ t, ht => by
    obtain ⟨fs, h1, h2, h3⟩ := firsts_of t fun d hd => ht d (List.mem_cons_of_mem _ hd)
    obtain ⟨xs, rfl⟩ := ht d List.mem_cons_self
    have hty := tup_type (prog := prog) (w := w) r
    cases r with
    | @tuple a o us n _ _ ho hc hd hr =>
      refine ⟨us[0]? :: fs, by rw [List.length_cons, List.length_cons, h1], fun {E Q} q => ?_, fun ⟨d, hm, e⟩ => ?_⟩
      · rw [List.mapM_cons]
        refine wpAny_bind ?_
        rw [PySem.W.kas_first_eq]
        refine wpAny_bind (hty.here ?_)
        rw [if_neg (by simp)]
        refine wpAny_bind (listItems_at ho hd (wpAny_pure ?_))
        exact wpAny_bind (h2 (wpAny_pure q))
      · rw [List.all_cons]
        rcases List.mem_cons.mp hm with z | z
        · subst e
          cases z
          have hl : us.size = 0 := by simpa using SeqAt.ReadsAll.length _ _ _ hr
          have : us[0]? = none := Array.getElem?_eq_none (by omega)
          rw [this]; rfl
        · rw [h3 ⟨d, z, e⟩, Bool.and_false]
/-- tuples of any lengths can be sorted -/
theorem sorts_tups {vs : List Value} {ds : List PyData} (e : PySem.W.EachIs (fun v d => ∃ as, Reads s.heap v d as) vs ds) (hal : PySem.W.AllAlike ds) (ht : ∀ d ∈ ds, ∃ xs, d = PyData.tuple xs) (hu : ∀ d, d ∈ ds → A.units + d.depth < cLine) : PySem.W.SortsAt prog w A s (PySem.W.dataKind s.heap ds) vs := by
  by_cases hn : ∃ d ∈ ds, d = PyData.tuple []
  · have lt : ∀ f : Bool, ∀ (E : Value → Shared → Prop) (x y : Value) (a b : (PySem.W.dataKind s.heap ds).α) {Q : Bool → Shared → Prop}, (PySem.W.dataKind s.heap ds).keyOf x = some a → (PySem.W.dataKind s.heap ds).keyOf y = some b → Q ((PySem.W.dataKind s.heap ds).blt a b) s → wpAny (model prog w) A (oneLt' f x y) Q E s := by
      intro f E x y a b Q ha hb hq
      obtain ⟨d, as, hd, ra, rfl⟩ := PySem.W.dataKind_inv ha
      obtain ⟨d', as', hd', rb, rfl⟩ := PySem.W.dataKind_inv hb
      obtain ⟨xs, rfl⟩ := ht d hd
      obtain ⟨ys, rfl⟩ := ht d' hd'
      exact oneLt_tup ra rb (hal _ hd _ hd') (Nat.lt_of_le_of_lt (Nat.add_le_add_left (Nat.min_le_left _ _) _) (hu _ hd)) hq
    have keys : ∀ v, v ∈ vs → ∃ a, (PySem.W.dataKind s.heap ds).keyOf v = some a := fun v hv => by
      obtain ⟨d, hd, as, r⟩ := e.left v hv
      exact ⟨_, PySem.W.dataKind_some hal hd r⟩
    obtain ⟨fs, k1, k2, k3⟩ := firsts_of (prog := prog) (w := w) (A := A) e ht
    have k3 := k3 hn
    have all0 : ¬ (fs.toArray.all fun x => x.isSome) = true := by
      rw [List.all_toArray, k3]; simp
    refine ⟨keys, ?_⟩
    by_cases c : ((fs.toArray[0]?).bind id).isSome = true
    · refine ⟨general', fun E x y a b Q ha hb hq => lt false E x y a b ha hb hq, fun h2 E Q hq => ?_⟩
      rw [keyKind'_eq, List.mapM_toArray, map_eq_pure_bind]
      refine wpAny_bind (wpAny_bind (k2 (wpAny_pure ?_)))
      rw [if_neg all0, if_pos c]
      exact wpAny_pure hq
    · refine ⟨oneType', fun E x y a b Q ha hb hq => lt true E x y a b ha hb hq, fun h2 E Q hq => ?_⟩
      obtain ⟨v₁, v₂, rest, rfl⟩ : ∃ v₁ v₂ rest, vs = v₁ :: v₂ :: rest := by
        match vs, h2 with
        | [], h2 => simp at h2
        | [_], h2 => simp at h2
        | v₁ :: v₂ :: rest, _ => exact ⟨v₁, v₂, rest, rfl⟩
      rw [keyKind'_eq, List.mapM_toArray, map_eq_pure_bind]
      refine wpAny_bind (wpAny_bind (k2 (wpAny_pure ?_)))
      rw [if_neg all0, if_neg c, oneTypeOnly'_eq, List.mapM_toArray, map_eq_pure_bind]
      have ty : ∀ v ∈ v₁ :: v₂ :: rest, PySem.W.Looks (model prog w) s.heap (typeOf v) (.type "tuple") := fun v hv => by
        obtain ⟨d, hd, as, r⟩ := e.left v hv
        obtain ⟨xs, rfl⟩ := ht d hd
        exact tup_type r
      refine wpAny_bind (wpAny_bind (wpAny_bind (PySem.W.kas_mapM (r := Value.type "tuple") _ (fun v hv Q' hq => (ty v hv).here hq) (wpAny_pure ?_))))
      have hall : ((List.map (fun _ => Value.type "tuple") (v₁ :: v₂ :: rest)).toArray.all fun x => x == Value.type "tuple") = true := by
        simp only [List.all_toArray, List.all_map, List.all_eq_true]
        intro _ _
        exact beq_self_eq_true _
      have h0 : (List.map (fun _ => Value.type "tuple") (v₁ :: v₂ :: rest)).toArray[0]? = some (Value.type "tuple") := by simp
      rw [h0]
      simp only [hall, if_true]
      exact wpAny_pure (wpAny_pure hq)
  · refine PySem.W.SortsAt.data e hal (.inl fun d hd => ?_) hu
    obtain ⟨xs, rfl⟩ := ht d hd
    cases xs with
    | nil => exact absurd ⟨_, hd, rfl⟩ hn
    | cons x r => exact ⟨x, r, rfl⟩
end
section
variable {B : Bs} {X : Cx} {W : WX} {D : Ends}
/-- a list of data sorted -/
def rSrtD (K : PySem.W.Frag) : List V → Hp → VK → Prop := fun vs H Q => ∃ (a : Addr) (ys : List V) (ds : List PyData), vs = [V.ref a] ∧ SqL K H a ys ∧ DpAll K H ys ds ∧ ys.length = ds.length ∧ PySem.W.AllAlike ds ∧ (∀ d ∈ ds, d ≠ .none) ∧ (∀ d ∈ ds, d.depth ≤ 60) ∧
  ∀ p, H p = none → Q (.ref p) (upd H p (.lst (((ys.zip ds).mergeSort fun p q => !PySem.W.dataLt q.2 p.2).map (·.1))))
theorem each_vals {α : Type} : ∀ {vs : List Value} {bs : List (V × α)}, PySem.W.EachIs (fun v b => RelV b.1 v) vs bs → Vals (bs.map (·.1)) vs
  | _, _, .nil => .nil
  | _, _, .cons h t => .cons h (each_vals t)
theorem vals_each {α : Type} : ∀ {vs : List Value} {ys : List V} {ds : List α}, Vals ys vs → ys.length = ds.length → PySem.W.EachIs (fun v (b : V × α) => RelV b.1 v) vs (ys.zip ds)
  | _, _, [], .nil, _ => .nil
  | _, _, _ :: _, .cons h t, e => .cons h (vals_each t (by simpa using e))
theorem cr_srtD (hu : X.A.units + 65 < cLine) : CallR X (.builtin "sorted") (rSrtD X.K) := by
  intro pins s σ H vs us Q I r h
  obtain ⟨a, ys, ds, rfl, hs, hd, hlen, hal, hnn, hdp, q⟩ := h
  obtain ⟨its, rv, hl, hz⟩ := I.list hs
  rw [Vals.ref1 r]
  obtain ⟨as, hR⟩ := Dp.readsAll I _ _ its hd rv
  have em : (ys.zip ds).map (fun b : V × PyData => b.2) = ds := by
    have := List.map_snd_zip (l₁ := ys) (l₂ := ds) (by omega)
    exact this
  have e : PySem.W.EachIs (fun v (b : V × PyData) => RelV b.1 v) its (ys.zip ds) := vals_each rv hlen
  have er : PySem.W.EachIs (fun v (b : V × PyData) => ∃ as, Reads s.heap v b.2 as) its (ys.zip ds) := PySem.W.readsAll_each (fun b : V × PyData => b.2) (by rw [em]; exact hR)
  have er' : PySem.W.EachIs (fun v (b : V × PyData) => ∃ as, Reads (PySem.W.sortingHeap (PySem.W.copyHeap s.heap its) (s.heap.objs.size + 1) its) v b.2 as) its (ys.zip ds) := er.mono fun _ _ ⟨as, r⟩ => ⟨as, PyProof.Rows.Reads.keeps (fun _ _ => PySem.W.sorting_copy_old) r⟩
  have hal' : PySem.W.AllAlike ((ys.zip ds).map fun b : V × PyData => b.2) := by rw [em]; exact hal
  have hub : ∀ d ∈ (ys.zip ds).map (fun b : V × PyData => b.2), X.A.in1.in1.units + d.depth < cLine := fun d hm => by
    rw [em] at hm
    have := hdp d hm
    have e2 : X.A.in1.in1.units = X.A.units + 2 := rfl
    omega
  have em' := PySem.W.each_map (R := fun v d => ∃ as, Reads (PySem.W.sortingHeap (PySem.W.copyHeap s.heap its) (s.heap.objs.size + 1) its) v d as) (fun b : V × PyData => b.2) er'
  have S : PySem.W.SortsAt X.prog X.w X.A.in1.in1 { s with heap := PySem.W.sortingHeap (PySem.W.copyHeap s.heap its) (s.heap.objs.size + 1) its } (PySem.W.dataKind (PySem.W.sortingHeap (PySem.W.copyHeap s.heap its) (s.heap.objs.size + 1) its) ((ys.zip ds).map fun b : V × PyData => b.2)) its := by
    by_cases ct : ∀ d ∈ (ys.zip ds).map (fun b : V × PyData => b.2), ∃ xs, d = PyData.tuple xs
    · exact sorts_tups (s := { s with heap := PySem.W.sortingHeap (PySem.W.copyHeap s.heap its) (s.heap.objs.size + 1) its }) em' hal' ct hub
    · refine PySem.W.SortsAt.data (s := { s with heap := PySem.W.sortingHeap (PySem.W.copyHeap s.heap its) (s.heap.objs.size + 1) its }) em' hal' (.inr fun d hm => ⟨hnn d (em ▸ hm), fun xs z => ct fun d' hm' => ?_⟩) hub
      have := hal' d hm d' hm'
      subst z
      cases d' <;> first | exact ⟨_, rfl⟩ | exact absurd this (by simp [PySem.W.alike])
  have hzl : its.length ≤ sizeLine := by rw [← rv.length]; exact hz
  refine PySem.W.sorted_vals hl.isList S hzl ?_
  have res := PySem.W.sortVals_data false e er' hal'
  obtain ⟨ep, he'⟩ := PyProof.Rows.sortedAll_at s.heap its (PySem.W.sortVals (PySem.W.dataKind (PySem.W.sortingHeap (PySem.W.copyHeap s.heap its) (s.heap.objs.size + 1) its) ((ys.zip ds).map fun b : V × PyData => b.2)) false its its).toArray
  have ev := each_vals res
  refine ⟨.ref _, upd H (s.heap.objs.size + 1) (.lst (((ys.zip ds).mergeSort fun p q => !PySem.W.dataLt q.2 p.2).map (·.1))), I.laid (t' := s.toks) (fun _ _ => PyProof.Rows.sortedAll_old) (Nat.le_succ _) ⟨?_, _, ep, ev, he'⟩, rfl, q _ (I.hok.fresh (Nat.le_succ _))⟩
  rw [List.length_map, List.length_mergeSort, List.length_zip]
  omega
theorem dps_of {S : WS} : ∀ {l : List AV} {ds : List PyData}, l.mapM (toPD DEEP) = some ds → ∀ {xs : List V}, S.Rs B l xs → DpAll B.K S.H xs ds ∧ (∀ d ∈ ds, d.depth ≤ DEEP) ∧ l.length = ds.length := by
  intro l ds h
  have h' := mapM_some h
  clear h
  induction h' with
  | nil => intro xs hx; cases hx; exact ⟨.nil, fun _ z => (nomatch z), rfl⟩
  | cons e t iht =>
    intro xs hx
    cases hx with
    | cons r rs =>
      obtain ⟨h1, h2, h3⟩ := iht rs
      obtain ⟨k1, k2, k3⟩ := dp_of DEEP e (.inl r)
      refine ⟨.cons k1 h1, fun d hd => ?_, by rw [List.length_cons, List.length_cons, h3]⟩
      rcases List.mem_cons.mp hd with z | z
      · rw [z]; exact k2
      · exact h2 d z
theorem fo_map {α β γ : Type} {r : β → γ → Prop} {f : α → β} {g : α → γ} : ∀ {l : List α}, (∀ a ∈ l, r (f a) (g a)) → Fo r (l.map f) (l.map g)
  | [], _ => .nil
  | a :: l, h => .cons (h a List.mem_cons_self) (fo_map fun b hb => h b (List.mem_cons_of_mem _ hb))
/-- three lists walked together -/
theorem fo_zip {S : WS} {l : List AV} {ds : List PyData} (h : Fo (fun a b => toPD DEEP a = some b) l ds) : ∀ {xs : List V}, S.Rs B l xs → ∃ ts : List (AV × V × PyData), ts.map (·.1) = l ∧ ts.map (·.2) = xs.zip ds ∧ ∀ t ∈ ts, S.R B t.1 t.2.1 ∧ toPD DEEP t.1 = some t.2.2 := by
  induction h with
  | nil => intro xs hx; cases hx; exact ⟨[], rfl, rfl, fun _ z => (nomatch z)⟩
  | @cons a d l ds e t ih =>
    intro xs hx
    cases hx with
    | @cons _ x _ xs r rs =>
      obtain ⟨ts, h1, h2, h3⟩ := ih rs
      refine ⟨(a, x, d) :: ts, by rw [List.map_cons, h1], by rw [List.map_cons, h2, List.zip_cons_cons], fun q hq => ?_⟩
      rcases List.mem_cons.mp hq with z | z
      · subst z; exact ⟨r, e⟩
      · exact h3 q z
theorem srt_rs {S : WS} {l : List AV} {ds : List PyData} {xs : List V} (h : l.mapM (toPD DEEP) = some ds) (hr : S.Rs B l xs) : S.Rs B (l.mergeSort leA) (((xs.zip ds).mergeSort fun p q => !PySem.W.dataLt q.2 p.2).map (·.1)) := by
  obtain ⟨ts, h1, h2, h3⟩ := fo_zip (mapM_some h) hr
  have m1 : (ts.mergeSort fun p q => !PySem.W.dataLt q.2.2 p.2.2).map (·.1) = l.mergeSort leA := by
    rw [← h1]
    refine List.map_mergeSort fun a ha b hb => ?_
    unfold leA pdA
    rw [(h3 a ha).2, (h3 b hb).2]; rfl
  have m2 : (ts.mergeSort fun p q => !PySem.W.dataLt q.2.2 p.2.2).map (·.2) = (xs.zip ds).mergeSort fun p q => !PySem.W.dataLt q.2 p.2 := by
    rw [← h2]
    exact List.map_mergeSort fun a ha b hb => rfl
  rw [← m1, ← m2, List.map_map]
  exact fo_map fun t ht => (h3 t (List.mem_mergeSort.mp ht)).1
theorem alikeL_of {ds : List PyData} (h : alikeL ds = true) : PySem.W.AllAlike ds := by
  intro d hd d' hd'
  unfold alikeL at h
  rw [List.all_eq_true] at h
  have := h d hd
  rw [List.all_eq_true] at this
  exact this d' hd'
theorem srtA_of {l m : List AV} (h : srtA l = some m) : ∃ ds, l.mapM (toPD DEEP) = some ds ∧ PySem.W.AllAlike ds ∧ (∀ d ∈ ds, d ≠ .none) ∧ m = l.mergeSort leA := by
  unfold srtA at h
  cases q : l.mapM (toPD DEEP) with
  | none => rw [q] at h; cases h
  | some ds =>
    rw [q] at h
    simp only at h
    split at h
    · rename_i c
      cases h
      refine ⟨ds, rfl, alikeL_of c.1, fun d hd z => ?_, rfl⟩
      have := List.all_eq_true.mp c.2 d hd
      rw [z] at this
      cases this
    · cases h
theorem srtK_of {S : WS} {p : Bool} {rel : WS → AV → V → Prop} {E : Nat → Hp → Prop} {Q : VK} {ks : List Key} (h : Outs B S p rel E (okO (srtK ks) S.ah) Q) : ∃ ss, strKs ks = some ss ∧ ss.length < 64 ∧ Outs B S p rel E (.ok (.lst ((ss.mergeSort leS).map AV.str)) S.ah) Q := by
  unfold srtK at h
  cases q : strKs ks with
  | none => rw [q] at h; exact h.elim
  | some ss =>
    rw [q] at h
    simp only at h
    by_cases c : ss.length < 64
    · rw [if_pos c] at h; exact ⟨ss, rfl, c, h⟩
    · rw [if_neg c] at h; exact h.elim
theorem strKs_of : ∀ {ks : List Key} {ss : List Str}, strKs ks = some ss → ks = ss.map Sum.inr ∧ ∀ s ∈ ss, PyData.strOk s = true
  | [], _, h => by cases h; exact ⟨rfl, fun _ z => (nomatch z)⟩
  | .inl _ :: _, _, h => by cases h
  | .inr s :: r, ss, h => by
    have h : (if PyData.strOk s = true then (strKs r).map (s :: ·) else none) = some ss := h
    by_cases c : PyData.strOk s = true
    · rw [if_pos c] at h
      cases q : strKs r with
      | none => rw [q] at h; cases h
      | some m =>
        rw [q] at h; cases h
        obtain ⟨h1, h2⟩ := strKs_of q
        refine ⟨by rw [List.map_cons, ← h1], fun x hx => ?_⟩
        rcases List.mem_cons.mp hx with z | z
        · rw [z]; exact c
        · exact h2 x z
    · rw [if_neg c] at h; cases h
theorem strs_rsM {S : WS} : ∀ {l : List Str}, (∀ q ∈ l, PyData.strOk q = true) → S.Rs B (l.map AV.str) (l.map V.str)
  | [], _ => .nil
  | q :: l, h => .cons (.str _ (h q List.mem_cons_self)) (strs_rsM fun x hx => h x (List.mem_cons_of_mem _ hx))
theorem sortedS_pw : ∀ {l : List Str}, sortedS l = true → l.Pairwise fun a b => leS a b = true := by
  have tr : ∀ a b c : Str, leS a b = true → leS b c = true → leS a c = true := fun a b c h1 h2 => by
    unfold leS at *
    rw [PyProof.Rows.ltCps_eq] at *
    simp only [Bool.not_eq_true', decide_eq_false_iff_not] at *
    exact List.not_lt.mpr (List.le_trans (List.not_lt.mp h1) (List.not_lt.mp h2))
  have main : ∀ (l : List Str) (p : Str), risingS p l = true → (p :: l).Pairwise fun a b => leS a b = true := by
    intro l
    induction l with
    | nil => intro p _; exact List.pairwise_singleton _ _
    | cons x r ih =>
      intro p h
      have h : (!PySem.Spec.ltCps x.cps.toList p.cps.toList && risingS x r) = true := h
      rw [Bool.and_eq_true] at h
      have t := ih x h.2
      refine List.pairwise_cons.mpr ⟨fun y hy => ?_, t⟩
      rcases List.mem_cons.mp hy with rfl | hy
      · exact h.1
      · exact tr _ _ _ h.1 (List.rel_of_pairwise_cons t hy)
  intro l h
  cases l with
  | nil => exact .nil
  | cons x r => exact main r x h
theorem leS_anti {a b : Str} (h1 : leS a b = true) (h2 : leS b a = true) : a = b := by
  unfold leS at *
  rw [PyProof.Rows.ltCps_eq] at *
  simp only [Bool.not_eq_true', decide_eq_false_iff_not] at *
  exact PySem.W.str_of_cps (List.le_antisymm (List.not_lt.mp h1) (List.not_lt.mp h2))
theorem srt_uniq {ys ss : List Str} (hp : ys.Perm ss) (hs : sortedS ys = true) : ys = ss.mergeSort leS := by
  refine List.Perm.eq_of_pairwise (le := fun a b => leS a b = true) (fun a b _ _ => leS_anti) (sortedS_pw hs) ?_ (hp.trans (List.mergeSort_perm ss leS).symm)
  refine List.pairwise_mergeSort (fun a b c h1 h2 => ?_) (fun a b => ?_) ss
  · unfold leS at *
    rw [PyProof.Rows.ltCps_eq] at *
    simp only [Bool.not_eq_true', decide_eq_false_iff_not] at *
    exact List.not_lt.mpr (List.le_trans (List.not_lt.mp h1) (List.not_lt.mp h2))
  · unfold leS
    rw [PyProof.Rows.ltCps_eq, PyProof.Rows.ltCps_eq]
    simp only [Bool.or_eq_true, Bool.not_eq_true', decide_eq_false_iff_not]
    rcases List.le_total a.cps.toList b.cps.toList with h | h
    · exact .inl (List.not_lt.mpr h)
    · exact .inr (List.not_lt.mpr h)
theorem snd_srt {k : Nat} {x : Str} {e : Expr} {ia : IE} {p pos : Pos} (hx : x = "sorted") (hcalm : X.calm = true) (hK : X.K = B.K) (hr : X.A.units + 65 < cLine) (hg : Gl X x) (hm : X.mg x = none) (ha : SndA B X W [e] ia) (hs : [e].all noStar = true) : SndE B X W (.Call (.Name x p) [e] [] pos) (.bi .srt ia) := by
  subst hx
  refine bi_node ((cr_srtD hr).or (call_sortedD hcalm)) hg hm (by decide +kernel) (by decide) (by decide) ha hs fun S l xs Q E v ok hl out => ?_
  refine l1 hl (fun e => by subst e; exact out.elim) (fun d y e e2 hy => ?_) fun d d' r e => by subst e; cases d <;> exact out.elim
  subst e e2
  cases d <;> first | exact out.elim | skip
  rotate_left
  · rename_i ks vs
    have out : Outs B S true (RV B v) E (okO (srtK ks) S.ah) Q := out
    obtain ⟨ss, h1, h2, h3⟩ := srtK_of out
    obtain ⟨a, rfl⟩ := view_ref hy trivial
    obtain ⟨kvs, k1, k2, k3⟩ := dget_k hy (.inl 0)
    obtain ⟨hk, hok⟩ := strKs_of h1
    refine .inr ⟨a, kvs, ss, rfl, k1, k2.trans hk, h2, fun ys p hp hs hn => ?_⟩
    have e : ys = ss.mergeSort leS := srt_uniq hp hs
    subst e
    refine fin_lst ok hn ?_ (strs_rsM fun q hq => hok q (List.mem_mergeSort.mp hq)) h3
    rw [List.length_map, List.length_mergeSort]
    exact Nat.le_trans (Nat.le_of_lt h2) (by decide)
  left
  rename_i l
  obtain ⟨m, e, q⟩ := okO_map (o := srtA l) (g := AV.lst) out
  obtain ⟨ds, h1, h2, h3, rfl⟩ := srtA_of e
  obtain ⟨a, ys, rfl, hA, hrs⟩ := hy.lst
  obtain ⟨k1, k2, k3⟩ := dps_of h1 hrs
  rw [hK]
  have hl : ys.length = ds.length := by rw [← hrs.len, k3]
  refine ⟨a, ys, ds, rfl, SqL.of hA, k1, hl, h2, h3, fun d hd => Nat.le_trans (k2 d hd) (by decide), fun p hp => fin_lst ok hp ?_ (srt_rs h1 hrs) q⟩
  rw [List.length_map, List.length_mergeSort, List.length_zip]
  have := ok.szl a ys hA
  omega
end
end Ab

set_option autoImplicit false
set_option maxHeartbeats 4000000
/-! AbX: texts taken apart. -/
namespace Ab
open PySem PySem.Spec PyProof.Rows L2
section
variable {B : Bs} {X : Cx} {W : WX} {D : Ends}
theorem mem_joinL : ∀ (L : List (List Nat)) (s : List Nat) (m : List Nat), m ∈ L → ∀ z ∈ m, z ∈ TL.joinL s L
  | [], _, _, h, _, _ => by cases h
  | [a], s, m, h, z, hz => by
    have h : m = a := by simpa using h
    subst h
    simpa [TL.joinL] using hz
  | a :: b :: r, s, m, h, z, hz => by
    have e : TL.joinL s (a :: b :: r) = a ++ (s ++ TL.joinL s (b :: r)) := by simp [TL.joinL]
    rw [e]
    rcases List.mem_cons.mp h with h | h
    · subst h; exact List.mem_append_left _ hz
    · exact List.mem_append_right _ (List.mem_append_right _ (mem_joinL (b :: r) s m h z hz))
theorem strOk_split {s p : Str} (h : PyData.strOk s = true) : ∀ q ∈ Txt.split s p, PyData.strOk q = true := by
  intro q hq
  rw [strOk_iff]
  intro z hz
  have e := PySem.StrLaws.join_split s p
  have : z ∈ TL.tl (Str.join p (Txt.split s p)) := by
    rw [TL.tl_join]
    exact mem_joinL _ _ (TL.tl q) (List.mem_map.mpr ⟨q, hq, rfl⟩) z hz
  rw [e] at this
  exact strOk_iff.mp h z this
theorem strs_rs {S : WS} : ∀ {l : List Str}, (∀ q ∈ l, PyData.strOk q = true) → S.Rs B (l.map .str) (l.map V.str)
  | [], _ => .nil
  | q :: l, h => .cons (.str _ (h q List.mem_cons_self)) (strs_rs fun x hx => h x (List.mem_cons_of_mem _ hx))
/-- a method of a text with one text -/
theorem snd_str1 {nm : Str} {id : String} {b : Bm} {r : V → List V → Hp → VK → Prop} {o e : Expr} {io ie : IE} {apos cpos : Pos} (slot : Slot "str" nm id) (hty : typeOf (.builtin id) = pure (.type "method_descriptor")) (hm : MtR X id r) (hbase : attributeBase o nm X.env (eval o X.env) = eval o X.env) (hline : (apos.endLine == cpos.line) = true) (ho : SndE B X W o io) (ha : SndA B X W [e] ie) (hs : noStar e = true)
    (hb : ∀ x, bmOk b x = true → ∃ s, x = .str s)
    (hk : ∀ (S : WS) (s t : Str) (Q : VK) (E : Nat → Hp → Prop) v, S.Ok B → PyData.strOk s = true → PyData.strOk t = true → Outs B S true (RV B v) E (doBm b (.str s) [.str t] S.ah) Q → r (.str s) [.str t] S.H Q) (h1n : ∀ s xs h, (∀ t, xs ≠ [.str t]) → doBm b (.str s) xs h = .bad) :
    SndE B X W (.Call (.Attribute o nm apos) [e] [] cpos) (.bm b io ie) := by
  refine .plain (fun v => (pe_bm PySem.F.plainAttrs_str slot hty hm (ho.pe (pureI ie)) (ha.pa true) hbase (by rw [starEach_of hs]; rfl) hline (starEach_of hs) (plainArgs (by rfl))).imp fun σ H Q h => ?_) rfl
  obtain ⟨S, env, rfl, ok, er, out⟩ := h
  refine tE_use (p2 := pureI ie) ok er out (fun z => and2 z) fun T d x ok1 l1 er1 h1 o1 => ?_
  by_cases q : bmOk b d = true
  · obtain ⟨s, rfl⟩ := hb d q
    rw [if_pos q] at o1
    obtain ⟨rfl, hso⟩ := (RV.view h1).str
    refine ⟨rfl, ?_⟩
    refine tA_use (p2 := true) ok1 er1 o1 (fun z => ⟨z, rfl⟩) fun U ds xs ok2 l2 er2 h2 o2 => ?_
    obtain ⟨m, rfl, hl⟩ := h2
    have o2 : Outs B U true (RV B v) (WE B W σ) (doBm b (.str s) m U.ah) Q := o2
    by_cases c : ∃ t, m = [.str t]
    · obtain ⟨t, rfl⟩ := c
      obtain ⟨y, rfl, hy⟩ := fo1 hl
      obtain ⟨rfl, hto⟩ := (RV.view hy).str
      exact hk U s t Q _ v ok2 hso hto o2
    · rw [h1n _ _ _ fun t z => c ⟨t, z⟩] at o2; exact o2.elim
  · rw [if_neg q] at o1; exact o1.elim
theorem snd_split {o e : Expr} {io ie : IE} {apos cpos : Pos} (hbase : attributeBase o "split" X.env (eval o X.env) = eval o X.env) (hline : (apos.endLine == cpos.line) = true) (ho : SndE B X W o io) (ha : SndA B X W [e] ie) (hs : noStar e = true) : SndE B X W (.Call (.Attribute o "split" apos) [e] [] cpos) (.bm .split io ie) := by
  refine snd_str1 PySem.F.slot_str_split PySem.F.type_str_split mt_split hbase hline ho ha hs (fun x q => by cases x <;> first | exact ⟨_, rfl⟩ | cases q) (fun S s t Q E v ok h1 h2 out => ?_) fun s xs h hn => ?_
  · have out : Outs B S true (RV B v) E (if t.length = 1 ∧ s.length + 2 ≤ 16777216 then .ok (.lst ((Txt.split s t).map .str)) S.ah else .bad) Q := out
    by_cases c : t.length = 1 ∧ s.length + 2 ≤ 16777216
    · rw [if_pos c] at out
      refine ⟨s, t, rfl, rfl, by rw [c.1]; rfl, by rw [sizeLine_eq]; exact c.2, fun p hp => fin_lst ok hp ?_ (strs_rs (strOk_split h1)) out⟩
      rw [List.length_map]
      exact Nat.le_trans (PyProof.Rows.split_le s t) (by show s.length + 2 ≤ 16777216; exact c.2)
    · rw [if_neg c] at out; exact out.elim
  · match xs, hn with
    | [], _ => rfl
    | [.str t], hn => exact absurd rfl (hn t)
    | [.non], _ => rfl
    | [.bl _], _ => rfl
    | [.int _], _ => rfl
    | [.tup _], _ => rfl
    | [.lst _], _ => rfl
    | [.dk _ _], _ => rfl
    | [.dt _ _], _ => rfl
    | [.scr _], _ => rfl
    | [.ref _], _ => rfl
    | x :: _ :: _, _ => cases x <;> rfl
end
end Ab

set_option autoImplicit false
set_option maxHeartbeats 4000000
/-! AbY: an exception by its name: the suite, the defs that it is handed to. -/
namespace Ab
open PySem PySem.Spec PyProof.Rows L2

/-- one exception is known -/
def Bs.wx (B : Bs) (a : Addr) (c : Nat) : Bs := { B with xo := fun a' c' => a' = a ∧ c' = c }
section
variable {B : Bs} {S T : WS} {a : Addr} {c : Nat}
theorem or_xo {b : Bs} (hK : b.K = B.K) (hc : b.ca = B.ca) {n : Nat} {q : Addr} {o : AO} (h : OR B S n q o) : OR b S n q o := by
  obtain ⟨K, ca, xa, xo⟩ := B
  obtain ⟨K', ca', xa', xo'⟩ := b
  simp only at hK hc
  subst hK hc
  cases o with
  | gone => exact trivial
  | box c => exact h
  | ins c fs =>
    obtain ⟨dx, fs', h1, h2⟩ := h
    refine ⟨dx, fs', h1, h2.imp fun u v ⟨e1, e2⟩ => ⟨e1, ?_⟩⟩
    cases z : u.2 with
    | val d => rw [z] at e2; exact e2
    | own d => rw [z] at e2; exact e2
    | gone => exact trivial
    | exc d => exact trivial
theorem ok_xo {b : Bs} (hK : b.K = B.K) (hc : b.ca = B.ca) (ok : S.Ok B) : S.Ok b :=
  ⟨fun n o e => let ⟨q, h1, h2⟩ := ok.objs n o e; ⟨q, h1, or_xo hK hc h2⟩, ok.inj, ok.lt, ok.trk, ok.szl, ok.szt⟩
theorem ok_in (ok : S.Ok B) : S.Ok (B.wx a c) := ok_xo (B := B) (b := B.wx a c) rfl rfl ok
theorem ok_out (ok : S.Ok (B.wx a c)) : S.Ok B := ok_xo (B := B.wx a c) (b := B) rfl rfl ok
theorem er_in {e : En} {σ : L2.St} {i : Nat} (h0 : ∀ a c, ¬ B.xo a c) (er : ERep B S e σ) : ERep (B.wx a c) S (e.set i (some (.exc c))) (σ.set i (some (.ref a))) := by
  refine ⟨by rw [List.length_set, List.length_set]; exact er.len, fun j fv q => ?_⟩
  by_cases z : i = j
  · subst z
    have hi : i < e.length := by
      by_cases h : i < e.length
      · exact h
      · rw [List.getElem?_eq_none (by rw [List.length_set]; omega)] at q; cases q
    rw [List.getElem?_set_self hi] at q
    cases q
    exact ⟨.ref a, by rw [List.getElem?_set_self (er.len ▸ hi)], a, rfl, rfl, rfl⟩
  · rw [List.getElem?_set_ne z] at q
    obtain ⟨v, h1, h2⟩ := er.at_ j fv q
    refine ⟨v, by rw [List.getElem?_set_ne z]; exact h1, ?_⟩
    cases fv with
    | val d => exact h2
    | own d => exact h2
    | gone => exact trivial
    | exc d => obtain ⟨q, _, hq⟩ := h2; exact absurd hq (h0 _ _)
theorem er_out {e : En} {σ : L2.St} {i : Nat} (er : ERep (B.wx a c) S e σ) : ERep B S ((e.map noX).set i none) (σ.set i none) := by
  refine ⟨by rw [List.length_set, List.length_set, List.length_map]; exact er.len, fun j fv q => ?_⟩
  by_cases z : i = j
  · subst z
    by_cases hi : i < (e.map noX).length
    · rw [List.getElem?_set_self hi] at q; cases q
    · rw [List.getElem?_eq_none (by rw [List.length_set]; omega)] at q; cases q
  · rw [List.getElem?_set_ne z, List.getElem?_map] at q
    cases e1 : e[j]? with
    | none => rw [e1] at q; cases q
    | some o =>
      rw [e1] at q
      have q : noX o = some fv := Option.some.inj q
      cases o with
      | none => cases q
      | some f =>
        cases f with
        | exc d => cases q
        | val d =>
          cases q
          obtain ⟨v, h1, h2⟩ := er.at_ j _ e1
          exact ⟨v, by rw [List.getElem?_set_ne z]; exact h1, h2⟩
        | own d =>
          cases q
          obtain ⟨v, h1, h2⟩ := er.at_ j _ e1
          exact ⟨v, by rw [List.getElem?_set_ne z]; exact h1, h2⟩
        | gone =>
          cases q
          obtain ⟨v, h1, h2⟩ := er.at_ j _ e1
          exact ⟨v, by rw [List.getElem?_set_ne z]; exact h1, trivial⟩
end

section
variable {B : Bs} {X : Cx} {W : WX} {D : Ends}
/-! ### the suite -/
def tSx (B : Bs) (s : IS) : Addr → Value → Option Addr → TS := fun a cls d D σ H => ∃ c, cls = .ref (B.xa c) ∧ d = none ∧ tS (B.wx a c) W0 s D σ H
theorem tryx_read {b s : IS} {al cs : List Nat} {i : Nat} {c0 : Value} (h0 : ∀ a c, ¬ B.xo a c) (hex : ∀ c ∈ al, ∃ k, PySem.W.exmOne X.K (.ref (B.xa c)) c0 = some k ∧ (k = true ↔ cs.contains c = true)) : ∀ D σ H, tS B W (.tryx b al cs i s) D σ H →
    tS B (wAs X.K c0 i (fun a cls d D σ H => ∃ c ∈ al, cls = .ref (B.xa c) ∧ d = none ∧ tS (B.wx a c) W0 s D σ H) W D) b D σ H := fun D σ H h => by
  obtain ⟨S, env, rfl, ok, er, out⟩ := h
  refine ⟨S, env, rfl, ok, er, ?_⟩
  have out : OutS B W S D (match ex b env S.ah with
    | .exc c e' h' => if al.contains c = true then (if cs.contains c = true then unx i (ex s (e'.set i (some (.exc c))) h') else .exc c e' h') else .bad
    | q => q) := out
  cases q : ex b env S.ah with
  | nx e h => rw [q] at out; exact out
  | brk e h => rw [q] at out; exact out
  | cnt e h => rw [q] at out; exact out
  | ret e h => rw [q] at out; exact out
  | bad => rw [q] at out; exact out
  | exc c e h =>
    rw [q] at out
    simp only at out
    by_cases ca : al.contains c = true
    · rw [if_pos ca] at out
      intro T τ okT eT l erT
      have hm : c ∈ al := by simpa using ca
      obtain ⟨k, h1, h2⟩ := hex c hm
      refine ⟨k, h1, fun hk a ha => ?_, fun hk => ?_⟩
      · rw [if_pos (h2.mp hk)] at out
        subst eT
        refine ⟨c, hm, rfl, rfl, T, _, rfl, ok_in okT, er_in h0 erT, ?_⟩
        have out := out.mono l
        cases qs : ex s (e.set i (some (.exc c))) T.ah with
        | nx e2 h2 => rw [qs] at out; exact fun U υ okU eU lU erU => out U _ (ok_out okU) eU lU (er_out erU)
        | brk e2 h2 => rw [qs] at out; exact fun U υ okU eU lU erU => out U _ (ok_out okU) eU lU (er_out erU)
        | cnt e2 h2 => rw [qs] at out; exact fun U υ okU eU lU erU => out U _ (ok_out okU) eU lU (er_out erU)
        | ret d h2 => rw [qs] at out; exact fun U x okU eU lU rU => out U x (ok_out okU) eU lU rU
        | exc c2 e2 h2 => rw [qs] at out; exact out.elim
        | bad => rw [qs] at out; exact out.elim
      · have : ¬ cs.contains c = true := fun z => by rw [h2.mpr z] at hk; cases hk
        rw [if_neg this] at out
        exact out T τ okT eT l erT
    · rw [if_neg ca] at out; exact out.elim
theorem sns_tryx {body suite : List Stmt} {b0 : Stmt} {x n : Str} {c0 : Value} {b s : IS} {al cs : List Nat} {i : Nat} {np pos pos' : Pos} (h0 : ∀ a c, ¬ B.xo a c) (hs : X.stack = X.env :: X.outer) (hf : X.env.frame = some X.env.locals) (hN : X.N.Nodup) (hi : X.N[i]? = some n) (hln : X.env.kindOf n = some .local) (hc : Names X x c0) (tk : Takes X W)
    (hex : ∀ c ∈ al, ∃ k, PySem.W.exmOne X.K (.ref (B.xa c)) c0 = some k ∧ (k = true ↔ cs.contains c = true))
    (hb : ∀ (W' : WX) (pn : List (Addr × Obj)) (xe : Value → Shared → Prop), Takes (X.tr pn xe) W' → PassesOwn (model X.prog X.w) X.A X.env xe → SndSs B (X.tr pn xe) W' body b)
    (hsu : ∀ (a : Addr) (oe : Obj) (c : Nat) (pn : List (Addr × Obj)), c ∈ al → Zc (.ref (B.xa c)) none oe → (∃ vs, oe.data = .fields vs) → SndSs (B.wx a c) (X.suite a ((a, oe) :: pn)) W0 (b0 :: suite) s) :
    SndS B X W (.Try body [.ExceptHandler (some (.Name x np)) (some n) (b0 :: suite) pos'] [] [] pos) (.tryx b al cs i s) :=
  (ps_try_as (tb := fun W' => tS B W' b) (ts := fun a cls d D σ H => ∃ c ∈ al, cls = .ref (B.xa c) ∧ d = none ∧ tS (B.wx a c) W0 s D σ H) (Wout := W) hs hf hN hi hln hc tk hb (fun a oe cls d pn hz hd => ⟨fun pins s' σ H D I z => by
    obtain ⟨c, hm, rfl, rfl, z⟩ := z
    exact (hsu a oe c pn hm hz hd).run pins s' σ H D I z⟩)).imp (tryx_read h0 hex)
/-! ### isinstance of the exception -/
/-- what is known of the exceptions that stand in names -/
def XoOk (B : Bs) (X : Cx) (al : List Nat) : Prop := ∀ a c, B.xo a c → c ∈ al ∧ ∃ oe, (a, oe) ∈ X.pn ∧ Zc (.ref (B.xa c)) none oe ∧ ∃ vs, oe.data = .fields vs
/-- a class that isinstance is asked with -/
structure XisOk (B : Bs) (K : PySem.W.Frag) (mg : Str → Option Value) (al : List Nat) (y : Str) (cs : List Nat) : Prop where
  cls : ∀ c ∈ al, ExcC K (B.xa c)
  ex : ∃ cv : Value, ((mg y = some cv ∧ ∃ d, cv = .ref d) ∨ (mg y = none ∧ ∃ t : String, cv = .type t ∧ bootBuiltins y = some (.type t) ∧ y ≠ "__name__")) ∧ ∀ c ∈ al, ∃ b, PySem.W.kitOne K (.ref (B.xa c)) cv = some b ∧ (b = true ↔ cs.contains c = true)
theorem isx_call {al : List Nat} (hx : XoOk B X al) (hC : ∀ c ∈ al, ExcC X.K (B.xa c)) : CallR X (.builtin "isinstance") (fun xs H Q => ∃ a c, B.xo a c ∧ rIsE X.K (B.xa c) a xs H Q) := by
  rintro pins s σ H xs us Q I r ⟨a, c, ho, h⟩
  obtain ⟨y, cv, b, rfl, hcv, e, q⟩ := h
  obtain ⟨hm, oe, hp, hz, fs, hd⟩ := hx a c ho
  have C := hC c hm
  cases r with
  | cons r1 rr =>
    cases rr with
    | cons r2 rr =>
      cases rr
      cases r1
      have ec := hcv _ r2
      subst ec
      have hget : s.heap.get? a = some oe := (I.pin (a, oe) (List.mem_append.mpr (.inl hp))).1
      have J : PySem.W.InstAt s.heap a oe (B.xa c) none := by
        obtain ⟨o1, o2, o3, o4⟩ := oe
        obtain ⟨z1, z2⟩ := hz
        dsimp only at z1 z2 hd
        subst z1 z2 hd
        exact ⟨hget, rfl, rfl, trivial⟩
      refine PySem.W.kia_one (PySem.W.handS_kitx_exc C.hg C.hk C.hs C.hd C.ha C.hn C.ht C.hm) I.kIn J e (fun z => nomatch z) fun tk => ?_
      exact ⟨.bl b, H, I.kept (t' := tk) fun _ _ z => z, rfl, q⟩
theorem snd_isx {x y : Str} {al cs : List Nat} {i : Nat} {p pe p2 pos : Pos} {e : Str} (hx : x = "isinstance") (hX : XoOk B X al) (hy : XisOk B X.K X.mg al y cs) (hg : Gl X x) (hm : X.mg x = none) (hN : X.N[i]? = some e) (hv : Vis X.env.scope e) (hd : (e == ("__debug__" : Str)) = false) (hcd : (e == ("__classdict__" : Str)) = false) (hg2 : Gl X y) (hd2 : (y == ("__debug__" : Str)) = false) :
    SndE B X W (.Call (.Name x p) [.Name e pe, .Name y p2] [] pos) (.isx i cs) := by
  subst hx
  obtain ⟨cv, hcv, hk⟩ := hy.ex
  obtain ⟨c0, hc0, hrel⟩ : ∃ c0 : V, PE X (.Name y p2) (tC c0) ∧ ∀ u, RelV c0 u → u = cv := by
    rcases hcv with ⟨h1, d, rfl⟩ | ⟨h1, t, rfl, h2, h3⟩
    · exact ⟨.ref d, pe_glob hg2 h1 rfl hd2, fun u r => r⟩
    · exact ⟨.ty t, pe_bltn hg2 h1 h2 rfl h3 hd2, fun u r => r⟩
  have hargs : PA X [.Name e pe, .Name y p2] (tCons (tVar i) (tCons (tC c0) tNil)) := pa_cons (pe_var hN hv hd hcd) (pa_cons hc0 pa_nil rfl) rfl
  refine .plain (fun v => (pe_callB (isx_call hX hy.cls) hg hm PyProof.Rows.boot_isinstance hargs (by decide) (by decide) rfl (plainArgs (by rfl))).imp fun σ H Q h => ?_) rfl
  obtain ⟨S, env, rfl, ok, er, out⟩ := h
  have out : Outs B S true (RV B v) (WE B W σ) (match env[i]? with | some (some (.exc c)) => .ok (.bl (cs.contains c)) S.ah | _ => .bad) Q := out
  cases q : env[i]? with
  | none => rw [q] at out; exact out.elim
  | some o =>
    cases o with
    | none => rw [q] at out; exact out.elim
    | some fv =>
      obtain ⟨z, h1, h2⟩ := er.at_ i fv q
      rw [q] at out
      cases fv with
      | val d => exact out.elim
      | own d => exact out.elim
      | gone => exact out.elim
      | exc c =>
        obtain ⟨a, rfl, ho⟩ := h2
        refine ⟨.ref a, h1, a, c, ho, c0, cv, cs.contains c, rfl, hrel, ?_, fin_rv ok (.bl _) out⟩
        obtain ⟨b, hb1, hb2⟩ := hk c (hX a c ho).1
        rw [hb1]
        congr 1
        cases b with
        | true => exact (hb2.mp rfl).symm
        | false =>
          cases w : cs.contains c with
          | false => rfl
          | true => have := hb2.mpr w; cases this
/-! ### a def that an exception is handed to -/
def Bs.nx (B : Bs) : Bs := { B with xo := fun _ _ => False }
abbrev SpX := Addr × Obj → Sp
def spX (B : Bs) (al : List Nat) (F : Nat → AH → Ab.R AV) : SpX := fun p vs H Q _ => vs = [.ref p.1] ∧ ∃ c ∈ al, Zc (.ref (B.xa c)) none p.2 ∧ (∃ fs, p.2.data = .fields fs) ∧
  ∃ S : WS, S.H = H ∧ S.Ok B.nx ∧ (∀ b i, S.w b ≠ some (.slot i)) ∧ Outs B.nx S false (fun T d x => T.R B d x) (fun _ _ => False) (F c S.ah) Q
structure FnX (P : Program) (w : World) (K : PySem.W.Frag) (mg : Str → Option Value) (base : Heap) (k : Nat) (f : Addr) (fd : FuncData) (ps : List Str) (sp : SpX) : Prop where
  len : ∀ p vs H Q E, sp p vs H Q E → vs.length = ps.length
  run : ∀ (A : Around) (l : List Env) (s : Shared) (H : Hp) (args : Args) (us : List Value) (vs : List V) (Q : VK) (E : XK) (p : Addr × Obj), L2H.RoomH k A → L2H.PinOk l H s p → Env0 P w K mg base A l s H → BindsTo s fd args (ps.zip us) → Vals vs us → sp p vs H Q E →
    codeAny (model P w) A (.call (.ref f) args) (CR (L2.CX P w) l P w H s Q E) s
theorem FnX.of {P : Program} {w : World} {K : PySem.W.Frag} {mg : Str → Option Value} {base : Heap} {x qual : Str} {st : Stmt} {f : Addr} {fd : FuncData} {N ps : List Str} {k : Nat} {sp : SpX} (F : Fun K x qual st f fd) (Sc : FnScope N ps (defScope st)) (len : ∀ p vs H Q E, sp p vs H Q E → vs.length = ps.length)
    (body : ∀ (cdv : Value) (A : Around) (l : List Env) (s : Shared) (H : Hp) (vs : List V) (Q : VK) (E : XK) (p : Addr × Obj), L2H.RoomH k (A.deeper (envOfC qual (defScope st) s.heap.objs.size f cdv)) → sp p vs H Q E →
      ∃ t, PSs (L2H.cxH (L2.CX P w) P w K mg base N qual (defScope st) f cdv A l s H E p) (defBody st) t ∧ t { nx := fun _ H' => Q .non H', rt := Q } (L2.start N vs) H) : FnX P w K mg base (k + 1) f fd ps sp := by
  obtain ⟨oc, od, kV, doc, pm, an, cdv, ct, osl, rfl, lk, hcd⟩ := F.ex
  refine ⟨len, fun A l s H args us vs Q E p room pin e0 bd rel hsp => ?_⟩
  have hln := len _ _ _ _ _ hsp
  have KI : K.In s.heap := e0.mod.kin.keeps fun b o e => (e0.bs b o e).1
  have NL : s.heap.NoLimit := e0.mod.nolimit.keeps fun b o e => (e0.bs b o e).1
  have kinds : ∀ y ∈ ps.zip us, (defScope st).names.lookup y.1 = some .local ∨ ((defScope st).names.lookup y.1 = some .cell ∧ ((cellsFrom (s.heap.objs.size + 1) (defScope st).names []).lookup y.1).isSome = true) := by
    rintro ⟨n, v⟩ hy
    rcases Sc.par n (List.of_mem_zip hy).1 with q | q
    · exact .inl q
    · exact .inr ⟨q, PySem.W.cellsFrom_some _ _ _ (.inl q)⟩
  refine codeAny_call_function room.depth (KI _ _ lk) rfl Sc.co Sc.gen rfl (PySem.W.codeRec_of KI hcd) (bd _ _ _ _ ?_)
  refine wpAny_newFunctionEnv_cells Sc.kind kinds fun env he s1 inn => ?_
  subst he
  refine ⟨NL.keeps inn.toInCall.keep, codeAny_func ?_⟩
  obtain ⟨t, ht, hq⟩ := body cdv A l s H vs Q E p (room.deeper _) hsp
  have I : Inv (L2H.cxH (L2.CX P w) P w K mg base N qual (defScope st) f cdv A l s H E p) [] (L2.start N vs) H s1 := L2H.inv_startH Sc pin e0 hln rel inn
  have fin : ∀ {s' : Shared} {σ' : L2.St} {H' : Hp} {v : V} {u : Value}, Inv (L2H.cxH (L2.CX P w) P w K mg base N qual (defScope st) f cdv A l s H E p) [] σ' H' s' → RelV v u → Q v H' → CE l P w H s Q u s' :=
    fun {s' σ' H' v u} J rv q => ⟨v, H', J.os, J.bare, J.base, J.hok, rv, q⟩
  refine wpAny_mono (ht.run [] s1 (L2.start N vs) H _ I hq) (fun fl s' hs => ?_) fun e s' hs => hs
  cases fl with
  | next =>
    obtain ⟨σ', H', J, q⟩ := hs
    exact fin (v := V.non) (u := Value.none) J rfl q
  | ret u =>
    obtain ⟨v, σ', H', J, rv, q⟩ := hs
    exact fin J rv q
  | brk => exact (let ⟨_, _, _, q⟩ := hs; q : False).elim
  | cont => exact (let ⟨_, _, _, q⟩ := hs; q : False).elim
/-- the call, where the exception is handled -/
theorem pe_callX {k : Nat} {f : Addr} {fd : FuncData} {ps : List Str} {sp : SpX} {x : Str} {q pos : Pos} {e : Expr} {es : List Expr} {t : TA} (F : FnX X.prog X.w X.K X.mg X.base k f fd ps sp) (hr : L2H.RoomH k X.A) (hg : Gl X x) (hm : X.mg x = some (.ref f)) (hk : PySem.W.keepIn X.K (.ref f) = true) (hb : Binds X.K fd ps [])
    (ha : PA X (e :: es) t) (hdb : (x == ("__debug__" : Str)) = false) (he : starEach (e :: es) X.env = (false, eval e X.env) :: starEach es X.env) (hpl : (backTo pos (starEach es X.env)).any (·.1) = false) :
    PE X (.Call (.Name x q) (e :: es) [] pos) (fun σ H Q => t σ H fun vs H2 => ∃ p ∈ X.pn, sp p vs H2 Q fun _ _ _ => False) := by
  refine ⟨fun pins s σ H Q I h => ?_⟩
  refine wpAny_Call_Name_kw (ld_glob I hg hm ?_ hdb)
  refine PySem.W.callWith_K (h₀ := X.base) I.ok.mod.kin hk (thn (ha.run pos pins s σ H _ I h) ?_) he hpl
  rintro us s1 ⟨vs, H1, I1, r, p, hp, z⟩
  refine ⟨I1.kIn, ?_⟩
  have n1 : us.length = ps.length := by rw [← r.length]; exact F.len _ _ _ _ _ z
  have b := hb s1 us I1.kIn (by rw [List.append_nil]; exact n1)
  rw [List.append_nil] at b
  have P1 := I1.pin p (List.mem_append_left _ hp)
  have pin : L2H.PinOk X.stack H1 s1 p := ⟨P1.1, P1.2.1, fun hm => (List.mem_cons.mp (I1.stkSub p.1 hm)).elim P1.2.2.1 P1.2.2.2.1, P1.2.2.2.2⟩
  refine wpAny_call (codeAny_mono (F.run X.A X.stack s1 H1 ⟨us, []⟩ us vs Q (fun _ _ _ => False) p hr pin I1.env0 b r z) fun r s' hq => ?_)
  cases r with
  | error e =>
    obtain ⟨_, _, _, _, _, _, _, _, _, _, _, _, z⟩ := hq
    exact z.elim
  | ok fl =>
    cases fl with
    | ret u => exact I1.after hq
    | next => exact False.elim hq
    | brk => exact False.elim hq
    | cont => exact False.elim hq
theorem ok_nx {S : WS} (ok : S.Ok B) : S.Ok B.nx := ok_xo (B := B) (b := B.nx) rfl rfl ok
theorem ok_ofnx {S : WS} (ok : S.Ok B.nx) : S.Ok B := ok_xo (B := B.nx) (b := B) rfl rfl ok
theorem snd_callx {F : Nat → AH → Ab.R AV} {al : List Nat} {i k : Nat} {f : Addr} {fd : FuncData} {ps : List Str} {x e : Str} {q pe pos : Pos} (FX : FnX X.prog X.w X.K X.mg X.base k f fd ps (spX B al F)) (hF : ∀ c h c' h', F c h ≠ .exc c' h') (hX : XoOk B X al) (hr : L2H.RoomH k X.A) (hg : Gl X x) (hm : X.mg x = some (.ref f)) (hk : PySem.W.keepIn X.K (.ref f) = true) (hb : Binds X.K fd ps [])
    (hdb : (x == ("__debug__" : Str)) = false) (hN : X.N[i]? = some e) (hv : Vis X.env.scope e) (hd : (e == ("__debug__" : Str)) = false) (hcd : (e == ("__classdict__" : Str)) = false) : SndE B X W (.Call (.Name x q) [.Name e pe] [] pos) (.callx F i) := by
  have hargs : PA X [.Name e pe] (tCons (tVar i) tNil) := pa_cons (pe_var hN hv hd hcd) pa_nil rfl
  refine .plain (fun v => (pe_callX FX hr hg hm hk hb hargs hdb rfl (plainArgs (by rfl))).imp fun σ H Q h => ?_) rfl
  obtain ⟨S, env, rfl, ok, er, out⟩ := h
  have out : Outs B S false (RV B v) (WE B W σ) (match env[i]? with | some (some (.exc c)) => (F c S.ah).bind fun d h2 => fresh v d h2 | _ => .bad) Q := out
  cases q : env[i]? with
  | none => rw [q] at out; exact out.elim
  | some o =>
    cases o with
    | none => rw [q] at out; exact out.elim
    | some fv =>
      obtain ⟨z, h1, h2⟩ := er.at_ i fv q
      rw [q] at out
      cases fv with
      | val d => exact out.elim
      | own d => exact out.elim
      | gone => exact out.elim
      | exc c =>
        obtain ⟨a, rfl, ho⟩ := h2
        obtain ⟨hm, oe, hp, hz, fs, hd⟩ := hX a c ho
        refine ⟨.ref a, h1, (a, oe), hp, rfl, c, hm, hz, ⟨fs, hd⟩, S.down, rfl, ok_nx (down_ok ok), fun b i e => dnw_slot e, ?_⟩
        have out : Outs B S false (RV B v) (WE B W σ) ((F c S.ah).bind fun d h2 => fresh v d h2) Q := out
        show Outs B.nx S.down false _ _ (F c S.ah) Q
        cases q2 : F c S.ah with
        | bad => rw [q2] at out; exact out
        | exc c' h' => exact absurd q2 (hF _ _ _ _)
        | ok d ah =>
          rw [q2] at out
          intro T okT eT l x hx
          have okT := ok_ofnx okT
          have out : Outs B S false (RV B v) (WE B W σ) (fresh v d ah) Q := out
          refine out (S.up T) (up_ok l okT) eT (up_le l) x ?_
          have hx : T.R B d x := hx
          cases v with
          | false => exact up_rep l hx
          | true =>
            have z := vw_view (up_ok l okT) (up_rep l hx)
            have e' : (S.up T).ah = ah := eT
            rw [e'] at z
            exact z
theorem runX_noexc {n : Nat} {b : IS} (c : Nat) (h : AH) (c' : Nat) (h' : AH) : runX n b c h ≠ .exc c' h' := by
  unfold runX
  cases ex b (some (.exc c) :: List.replicate (n - 1) none) h <;> (intro z; cases z)
end
theorem kit_ref {K : PySem.W.Frag} {D C : Addr} {b : Bool} (ht : PySem.W.typeIn K (.ref C) = some (.type "type")) (hd : PySem.W.hasDictIn K C = true) (hs : PySem.W.subIn K (.ref D) (.ref C) = some b) (self : PySem.W.subIn K (.ref D) (.ref D) = some true) : PySem.W.kitOne K (.ref D) (.ref C) = some b := by
  unfold PySem.W.kitOne
  by_cases c : (Value.ref D == Value.ref C) = true
  · rw [if_pos c]
    have e : D = C := Value.ref.inj (beq_iff_eq.mp c)
    subst e
    rw [self] at hs
    exact hs
  · rw [if_neg c]
    obtain ⟨cd, hc, _⟩ := PySem.W.any_some hd
    show (if ((PySem.W.clsIn K C).isSome && PySem.W.typeIn K (.ref C) == some (.type "type")) = true then PySem.W.subIn K (.ref D) (.ref C) else none) = some b
    rw [if_pos (by rw [hc, ht]; rfl)]
    exact hs
theorem kit_ty {K : PySem.W.Frag} {D : Addr} {t : String} {b : Bool} (hm : PySem.W.kitMeta t = true) (hs : PySem.W.subIn K (.ref D) (.type t) = some b) : PySem.W.kitOne K (.ref D) (.type t) = some b := by
  unfold PySem.W.kitOne
  rw [if_neg (by simp)]
  show (if PySem.W.kitMeta t = true then PySem.W.subIn K (.ref D) (.type t) else none) = some b
  rw [if_pos hm]
  exact hs
section
variable {B : Bs} {X : Cx} {W : WX}
/-- a def without parameters called -/
theorem snd_call0 {f : Addr} {fd : FuncData} {ps : List Str} {F : Sem} {k : Nat} {x : Str} {p pos : Pos} (FO : FnOk X.prog X.w X.K X.mg X.base (L2.CX X.prog X.w) k f fd ps (spOf B F ps.length)) (hl : ps.length = 0) (hr : Room k X.A) (hg : Gl X x) (hm : X.mg x = some (.ref f)) (hk : PySem.W.keepIn X.K (.ref f) = true) (hb : Binds X.K fd ps [])
    (hx : ∀ σ, PassesAt (L2.CX X.prog X.w) X σ (fun c d H => W c d σ H)) (hdb : (x == ("__debug__" : Str)) = false) : SndE B X W (.Call (.Name x p) [] [] pos) (.call F .nil) := by
  have pe : PE X (.Call (.Name x p) [] [] pos) (fun σ H Q => spOf B F ps.length [] H Q (fun c d H => W c d σ H)) :=
    ⟨fun pins s σ H Q I h => wpAny_Call_Name_kw (ld_glob I hg hm (PySem.W.callWith_K0 I.kIn hk (run_fnS (us := []) (E := fun σ c d H => W c d σ H) FO hr hb (hx σ) I .nil h)) hdb)⟩
  refine .plain (fun v => pe.imp fun σ H Q h => ?_) rfl
  obtain ⟨S, env, rfl, ok, er, out⟩ := h
  have out : Outs B S false (RV B v) (WE B W σ) ((F [] S.ah).bind fun d h2 => fresh v d h2) Q := out
  rw [hl]
  exact call_sp ok .nil out rfl
end
end Ab

set_option autoImplicit false
set_option maxHeartbeats 4000000
/-! AbZ: dicts: made, asked, a key taken out. -/
namespace Ab
open PySem PySem.Spec PyProof.Rows L2
section
variable {B : Bs} {X : Cx} {W : WX} {D : Ends}
theorem snd_dnewK {pos : Pos} : SndE B X W (.Dict [] [] pos) (.con (.dk [] [])) := by
  refine .plain (fun v => pe_dnewK.imp fun σ H Q h => ?_) rfl
  obtain ⟨S, env, rfl, ok, er, out⟩ := h
  intro p hp
  refine fin_new ok hp (fun ys e => by cases e) (fun _ e => by cases e) (fun _ _ e => by cases e) ?_ out
  exact .dk (.inl (put_at ok hp)) rfl .nil
theorem snd_dnewT {pos : Pos} : SndE B X W (.Dict [] [] pos) (.con (.dt [] [])) := by
  refine .plain (fun v => pe_dnewT.imp fun σ H Q h => ?_) rfl
  obtain ⟨S, env, rfl, ok, er, out⟩ := h
  intro p hp
  refine fin_new ok hp (fun ys e => by cases e) (fun _ e => by cases e) (fun _ _ e => by cases e) ?_ out
  exact .dt (.inl (put_at ok hp)) rfl .nil
theorem snn_dnewK {pos : Pos} : SndN B X W (.Dict [] [] pos) (.con (.dk [] [])) := by
  refine ⟨pe_dnewK.imp fun σ H Q h => ?_⟩
  obtain ⟨S, env, rfl, ok, er, o⟩ := h
  intro a ha
  refine o (S.add a (.dK []) .out) (add_ok ok ha (fun ys e => by cases e) (fun _ e => by cases e) (fun _ _ e => by cases e) fun _ e => by cases e) rfl (add_le ok ha _) (.ref a) ⟨a, rfl, fun z => ?_, add_at, .dk upd_same rfl .nil⟩
  have z1 := ok.trk a _ z
  rw [ha] at z1
  obtain ⟨_, z1⟩ := z1
  cases z1
theorem snn_dnewT {pos : Pos} : SndN B X W (.Dict [] [] pos) (.con (.dt [] [])) := by
  refine ⟨pe_dnewT.imp fun σ H Q h => ?_⟩
  obtain ⟨S, env, rfl, ok, er, o⟩ := h
  intro a ha
  refine o (S.add a (.dT []) .out) (add_ok ok ha (fun ys e => by cases e) (fun _ e => by cases e) (fun _ _ e => by cases e) fun _ e => by cases e) rfl (add_le ok ha _) (.ref a) ⟨a, rfl, fun z => ?_, add_at, .dt upd_same rfl .nil⟩
  have z1 := ok.trk a _ z
  rw [ha] at z1
  obtain ⟨_, z1⟩ := z1
  cases z1
theorem m1_of {o e : Expr} {m : Str} {apos cpos : Pos} (hb : attributeBase o m X.env (eval o X.env) = eval o X.env) (hl : (apos.endLine == cpos.line) = true) (hs : noStar e = true) : M1 X o m apos e cpos :=
  ⟨hb, by rw [starEach_of hs]; rfl, hl, by rw [starEach_of hs]; rfl⟩
theorem m2_of {o e f : Expr} {m : Str} {apos cpos : Pos} (hb : attributeBase o m X.env (eval o X.env) = eval o X.env) (hl : (apos.endLine == cpos.line) = true) (hs : noStar e = true) (hf : noStar f = true) : M2 X o m apos e f cpos :=
  ⟨hb, by rw [starEach_of hs, starEach_of hf]; rfl, hl, by rw [starEach_of hs, starEach_of hf]; rfl⟩
/-! ### a key taken out -/
theorem isOwnD_own {cs : List Nat} {d : AV} {f : Str} {h : AH} (q : isOwnD cs d f h = true) : isOwnF cs d f h = true ∧ ∃ n c fs ks vs, d = .ref n ∧ h[n]? = some (.ins c fs) ∧ lookF f fs = some (.own (.dk ks vs)) := by
  unfold isOwnD at q
  cases d <;> first | (cases q; done) | skip
  rename_i n
  simp only at q
  cases e : h[n]? with
  | none => rw [e] at q; cases q
  | some ob =>
    rw [e] at q
    cases ob with
    | gone => cases q
    | box c => cases q
    | ins c fs =>
      simp only [Bool.and_eq_true] at q
      obtain ⟨q1, q2⟩ := q
      cases e2 : lookF f fs with
      | none => rw [e2] at q2; cases q2
      | some fv =>
        rw [e2] at q2
        cases fv with
        | val _ => cases q2
        | gone => cases q2
        | exc _ => cases q2
        | own cc =>
          cases cc <;> first | (cases q2; done) | skip
          rename_i ks vs
          refine ⟨?_, n, c, fs, ks, vs, rfl, e, e2⟩
          unfold isOwnF
          simp only [e, e2, q1, Bool.and_self]
theorem popFO_of {cs : List Nat} {n : Nat} {f : Str} {kd : AV} {h h' : AH} (q : popFO cs (.ref n) f kd h = some h') : ∃ c fs cc cc', h[n]? = some (.ins c fs) ∧ uniqF f fs = true ∧ lookF f fs = some (.own cc) ∧ popA cc kd = some cc' ∧ h' = h.set n (.ins c (putFA f (.own cc') fs)) := by
  unfold popFO at q
  simp only at q
  cases e : h[n]? with
  | none => rw [e] at q; cases q
  | some ob =>
    rw [e] at q
    cases ob with
    | gone => cases q
    | box c => cases q
    | ins c fs =>
      simp only at q
      by_cases cc : cs.contains c = true ∧ uniqF f fs = true
      · rw [if_pos cc] at q
        cases e2 : lookF f fs with
        | none => rw [e2] at q; cases q
        | some fv =>
          rw [e2] at q
          cases fv with
          | val _ => cases q
          | gone => cases q
          | exc _ => cases q
          | own c0 =>
            simp only at q
            cases e3 : popA c0 kd with
            | none => rw [e3] at q; cases q
            | some c1 => rw [e3] at q; cases q; exact ⟨c, fs, c0, c1, rfl, cc.2, e2, e3, rfl⟩
      · rw [if_neg cc] at q; cases q
theorem drop_fst {κ : Type} [DecidableEq κ] (kvs : List (κ × V)) (k : κ) : (dropK kvs k).map (·.1) = (kvs.map (·.1)).filter fun x => decide (x ≠ k) := by
  unfold dropK
  rw [List.filter_map]; rfl
theorem drop_snd {κ : Type} [DecidableEq κ] {r : AV → V → Prop} {k : κ} : ∀ {kvs : List (κ × V)} {vs : List AV}, Fo r vs (kvs.map (·.2)) → Fo r ((((kvs.map (·.1)).zip vs).filter fun p => decide (p.1 ≠ k)).map (·.2)) ((dropK kvs k).map (·.2))
  | [], vs, h => by cases h; exact .nil
  | p :: kvs, vs, h => by
    cases h with
    | cons h1 h2 =>
      rename_i d vs
      have ih := drop_snd (k := k) h2
      unfold dropK at *
      rw [List.map_cons, List.zip_cons_cons, List.filter_cons, List.filter_cons]
      by_cases c : p.1 = k
      · rw [if_neg (by simpa using c), if_neg (by simpa using c)]; exact ih
      · rw [if_pos (by simpa using c), if_pos (by simpa using c), List.map_cons, List.map_cons]; exact .cons h1 ih
theorem pop_d {T : WS} {b : Addr} {ow : Ow} {c kd c' : AV} {y : V} (hw : T.w b = some ow) (hc : T.C B c b) (hy : T.R B kd y) (hp : popA c kd = some c') :
    ∃ kvs k v, T.H b = some (.dK kvs) ∧ y = kV k ∧ valV kvs k = some v ∧ (T.put b (.dK (dropK kvs k))).C B c' b := by
  cases hc with
  | lst q t => cases hp
  | dt q k t => cases hp
  | dk q k t =>
    rename_i ks vs kvs
    have hp : ((keyOf kd).bind fun z => (popK ks vs z).map fun p => AV.dk p.1 p.2) = some c' := hp
    cases e : keyOf kd with
    | none => rw [e] at hp; cases hp
    | some z =>
      rw [e] at hp
      have hp : (popK ks vs z).map (fun p => AV.dk p.1 p.2) = some c' := hp
      unfold popK at hp
      by_cases m : z ∈ ks
      · rw [if_pos m] at hp
        cases hp
        have ey := key_v e (.inl hy)
        subst ey k
        have hv : (valV kvs z).isSome = true := by
          rw [← valV_any, List.any_eq_true]
          obtain ⟨p, hp, h⟩ := List.mem_map.mp m
          exact ⟨p, hp, by simpa using h⟩
        obtain ⟨v, hv⟩ := Option.isSome_iff_exists.mp hv
        exact ⟨kvs, z, v, q, rfl, hv, .dk upd_same (drop_fst kvs z) (fo_reps (drop_snd ((reps_fo t).imp fun _ _ u => chg_rep hw u)))⟩
      · rw [if_neg m] at hp; cases hp
theorem fpop_fin {cs : List Nat} {f : Str} {T U : WS} {n c : Nat} {a b dx : Addr} {fs' : List (Str × V)} {kd : AV} {z : V} {env : En} {σ : L2.St} (ok2 : U.Ok B) (l : T.le true U) (er2 : ERep B U env σ) (hw : T.w a = some (.obj n)) (ha : T.H a = some (.ins (B.ca c) dx fs')) (hl : fs'.lookup f = some (.ref b)) (hb : T.w b = some (.fld n f)) (hz : U.R B kd z)
    (o2 : OutS B W U D (match popFO cs (.ref n) f kd U.ah with | some h4 => .nx env h4 | none => .bad)) :
    ∃ kvs k v, U.H b = some (.dK kvs) ∧ z = kV k ∧ valV kvs k = some v ∧ D.nx σ (upd U.H b (.dK (dropK kvs k))) := by
  cases qp : popFO cs (.ref n) f kd U.ah with
  | none => rw [qp] at o2; exact o2.elim
  | some h4 =>
    rw [qp] at o2
    obtain ⟨c2, fs2, cc, cc', e1, hu, e2, e3, rfl⟩ := popFO_of qp
    obtain ⟨k1, k2⟩ := l.keep rfl a _ hw
    obtain ⟨k3, k4⟩ := l.keep rfl b _ hb
    obtain ⟨a2, hw2, dx2, fs2', hA2, hf2⟩ := ok2.objs n _ e1
    have := ok2.inj _ _ n hw2 k1
    subst this
    have hA : U.H a2 = some (.ins (B.ca c) dx fs') := k2.trans ha
    rw [hA2] at hA
    obtain ⟨z1, z2, z3⟩ := HO.ins.inj (Option.some.inj hA)
    subst z3
    obtain ⟨v, hv, b2, rfl, hb2, hcc⟩ := frs_look hf2 e2
    rw [hl] at hv
    cases hv
    obtain ⟨kvs, k, v, h1, h2, h3, hC⟩ := pop_d hb2 hcc hz e3
    refine ⟨kvs, k, v, h1, h2, h3, ?_⟩
    exact o2 (U.obj b (.dK (dropK kvs k)) n (.ins c2 (putFA f (.own cc') fs2))) σ (fob_ok ok2 hb2 hw2 hA2 hf2 hu hl rfl hC (fun _ e => by cases e) (fun _ e => by cases e) (fun _ _ e => by cases e)) rfl (fob_leS hb2) (fob_erep hb2 er2)
theorem sns_fpop {cs : List Nat} {o k : Expr} {f : Str} {io ik : IE} {p apos cpos pos : Pos} (hbo : attributeBase o f X.env (eval o X.env) = eval o X.env) (hbp : attributeBase (.Attribute o f p) "pop" X.env (eval (.Attribute o f p) X.env) = eval (.Attribute o f p) X.env) (hline : (apos.endLine == cpos.line) = true) (hc : ∀ c ∈ cs, Cls X.K (B.ca c) ∧ NoAttr X.K (B.ca c) f) (hs : noStar k = true) (hpk : pureI ik = true) (ho : SndE B X W o io) (hk : SndE B X W k ik)
    (hsw : swapsWith (.Call (.Attribute (.Attribute o f p) "pop" apos) [k] [] cpos) none pos.line X.env = pure false) :
    SndS B X W (.Expr (.Call (.Attribute (.Attribute o f p) "pop" apos) [k] [] cpos) pos) (.fpop cs io f ik) := by
  have hb : PE X (.Attribute o f p) (tFld X.K (tE B W false io) f) := pe_fld (ho.pe false) hbo
  refine (ps_expr (pe_dpop1 hb (hk.pe false) (m1_of hbp hline hs)) hsw).imp fun D σ H h => ?_
  obtain ⟨S, env, rfl, ok, er, out⟩ := h
  have out : OutS B W S D ((ev false io env S.ah).thn env fun x h1 => if isOwnD cs x f h1 = true then ((ev false ik env h1).thn env fun y h2 => match popFO cs x f y h2 with
      | some h3 => .nx env h3
      | none => .bad) else .bad) := out
  refine tE_sE ok er out fun U x xv ok2 l2 er2 h2 e2 o2 => ?_
  by_cases qo : isOwnD cs x f U.ah = true
  · rw [if_pos qo] at o2
    obtain ⟨qf, n0, c0, fs0, ks, vs, e0, en0, el0⟩ := isOwnD_own qo
    obtain ⟨n, c, fs, a, dx, fs', b, rfl, rfl, en, hcs, hw, hA, hf, hl, hbw⟩ := ownF_at ok2 h2 qf
    cases e0
    rw [en] at en0
    cases en0
    obtain ⟨v, hv, b2, rfl, hb2, hcc⟩ := frs_look hf el0
    rw [hl] at hv
    cases hv
    obtain ⟨k1, k2⟩ := hc _ hcs
    refine ⟨a, B.ca _, dx, fs', .ref b, rfl, hA, k1, k2, hl, b, rfl, ?_, ?_⟩
    · cases hcc with
      | dk q k t => exact .inl ⟨_, .inl q⟩
    · refine tE_sE ok2 er2 o2 fun Y kd z ok3 l3 er3 h3 e3 o3 => ?_
      rw [hpk] at l3
      exact fpop_fin ok3 l3 er3 hw hA hl hbw h3 o3
  · rw [if_neg qo] at o2; exact o2.elim
/-! ### d.get(k), d.get(k, x) -/
theorem view_flat {S : WS} {d : AV} {x : V} (h : S.View B d x) (c : match d with | .lst _ | .dk _ _ | .dt _ _ => False | _ => True) : S.R B d x := by
  rcases h with h | ⟨b, rfl, h⟩
  · exact h
  · cases h <;> exact c.elim
theorem bm_isD {S : WS} {d : AV} {x : V} (q : bmOk .get1 d = true) (h : S.View B d x) : ∃ a, x = .ref a ∧ IsD S.H a := by
  cases d <;> first | (cases q; done) | skip
  · obtain ⟨a, rfl⟩ := view_ref h trivial
    obtain ⟨kvs, h1, _⟩ := dget_k h (.inl 0)
    exact ⟨a, rfl, .inl ⟨_, h1⟩⟩
  · obtain ⟨a, rfl⟩ := view_ref h trivial
    obtain ⟨kvs, h1, _⟩ := dget_t h
    exact ⟨a, rfl, .inr ⟨_, h1⟩⟩
theorem ev_one (v : Bool) (ie : IE) (e : En) (h : AH) : ev v (.cons ie .nil) e h = (ev v ie e h).bind fun d h1 => .ok (.tup [d]) h1 := by
  show R.bind (ev (v && true) ie e h) _ = _
  rw [Bool.and_true]
  rfl
theorem snd_get1 {o e : Expr} {io ie : IE} {apos cpos : Pos} (hr : X.A.units + 1 < cLine) (hbase : attributeBase o "get" X.env (eval o X.env) = eval o X.env) (hline : (apos.endLine == cpos.line) = true) (ho : SndE B X W o io) (he : SndE B X W e ie) (hs : noStar e = true) : SndE B X W (.Call (.Attribute o "get" apos) [e] [] cpos) (.bm .get1 io (.cons ie .nil)) := by
  refine .plain (fun v => (pe_dget1 hr (ho.pe (pureI ie)) (he.pe true) (m1_of hbase hline hs)).imp fun σ H Q h => ?_) rfl
  obtain ⟨S, env, rfl, ok, er, out⟩ := h
  have hp : pureI (.cons ie .nil) = pureI ie := by show (pureI ie && true) = _; rw [Bool.and_true]
  have out : Outs B S (pureI io && pureI (.cons ie .nil)) (RV B v) (WE B W σ) ((ev (pureI (.cons ie .nil)) io env S.ah).bind fun x h1 => if bmOk .get1 x = true then ((ev true (.cons ie .nil) env h1).bind fun ds h2 => match ds with
    | .tup l => doBm .get1 x l h2
    | _ => .bad) else .bad) Q := out
  rw [hp] at out
  refine tE_use (p2 := pureI ie) ok er out (fun z => and2 z) fun T d x ok1 l1 er1 h1 o1 => ?_
  by_cases q : bmOk .get1 d = true
  · rw [if_pos q, ev_one] at o1
    obtain ⟨a, rfl, hD⟩ := bm_isD q (RV.view h1)
    refine ⟨a, rfl, hD, ?_⟩
    have o1 : Outs B T (pureI ie) (RV B v) (WE B W σ) ((ev true ie env T.ah).bind fun k h2 => doBm .get1 d [k] h2) Q := by
      revert o1
      cases ev true ie env T.ah <;> exact id
    refine tE_use (p2 := true) ok1 er1 o1 (fun z => ⟨z, rfl⟩) fun U kd y ok2 l2 er2 h2 o2 => ?_
    have hd : U.View B d (.ref a) := by
      cases z : pureI ie with
      | true => rw [z] at h1 l2; exact l2.view h1
      | false => rw [z] at h1; exact .inl (l2.rep h1)
    have o2 : Outs B U true (RV B v) (WE B W σ) (okO ((dGet d kd).map fun o => o.getD .non) U.ah) Q := by
      cases d <;> first | (cases q; done) | exact o2
    obtain ⟨o, e1, q2⟩ := okO_map (o := dGet d kd) (g := fun o => o.getD .non) o2
    obtain ⟨a2, ov, e2, g1, g2, g3⟩ := dget e1 hd (RV.view h2)
    cases e2
    refine ⟨ov, g1, fin_rv ok2 ?_ q2⟩
    cases g3 with
    | none => exact .non
    | some g => exact g
  · rw [if_neg q] at o1; exact o1.elim
/-! ### dict(d): a copy -/
theorem dict_rd {S : WS} {ks : List Key} {vs : List AV} {y : V} (h : S.View B (.dk ks vs) y) : ∃ a kvs, y = .ref a ∧ Rd S.H a (.dK kvs) ∧ kvs.map (·.1) = ks ∧ S.Rs B vs (kvs.map (·.2)) := by
  obtain ⟨a, rfl⟩ := view_ref h trivial
  obtain ⟨kvs, h1, h2, h3⟩ := dget_k h (.inl 0)
  exact ⟨a, kvs, rfl, h1, h2, h3⟩
theorem prs_rs {S : WS} : ∀ {l : List AV} {ps : List (Key × AV)} {xs : List V}, prsK l = some ps → S.Rs B l xs → ∃ (as : List Addr) (kvs : List (Key × V)), xs = as.map V.ref ∧ Paired (fun p kv => SqT B.K S.H p [kV kv.1, kv.2]) as kvs ∧ kvs.map (·.1) = ps.map (·.1) ∧ Fo (S.R B) (ps.map (·.2)) (kvs.map (·.2))
  | [], _, _, h, r => by cases h; cases r; exact ⟨[], [], rfl, .nil, rfl, .nil⟩
  | x :: l, ps, xs, h, r => by
    cases r with
    | cons r1 rs =>
      unfold prsK at h
      split at h
      · rename_i e; cases e
      · rename_i k v r' e
        cases e
        cases q : keyOf k with
        | none => rw [q] at h; cases h
        | some z =>
          rw [q] at h
          cases q2 : prsK l with
          | none => simp only [Option.bind_some, q2] at h; cases h
          | some m =>
            simp only [Option.bind_some, q2] at h
            cases h
            obtain ⟨as, kvs, h1, h2, h3, h4⟩ := prs_rs q2 rs
            have r1 : S.View B (.tup [k, v]) _ := .inl r1
            obtain ⟨a, ys, rfl, hA, hr⟩ := r1.tup
            cases hr with
            | cons p1 t1 =>
              cases t1 with
              | cons p2 t2 =>
                cases t2
                have e1 := key_v q (.inl p1)
                subst e1
                refine ⟨a :: as, (z, _) :: kvs, by rw [List.map_cons, h1], .cons (SqT.of hA) h2, by rw [List.map_cons, List.map_cons, h3], ?_⟩
                rw [List.map_cons, List.map_cons]
                exact .cons p2 h4
      · cases h
theorem merge_rs {r : AV → V → Prop} : ∀ {ps : List (Key × AV)} {kvs : List (Key × V)} {ks : List Key} {vs : List AV} {acc : List (Key × V)}, kvs.map (·.1) = ps.map (·.1) → Fo r (ps.map (·.2)) (kvs.map (·.2)) → acc.map (·.1) = ks → Fo r vs (acc.map (·.2)) →
    (mergeK acc kvs).map (·.1) = (ps.foldl (fun a p => putK1 a.1 a.2 p.1 p.2) (ks, vs)).1 ∧ Fo r (ps.foldl (fun a p => putK1 a.1 a.2 p.1 p.2) (ks, vs)).2 ((mergeK acc kvs).map (·.2))
  | [], [], ks, vs, acc, _, _, h3, h4 => ⟨h3, h4⟩
  | [], _ :: _, _, _, _, h1, _, _, _ => by cases h1
  | _ :: _, [], _, _, _, h1, _, _, _ => by cases h1
  | p :: ps, kv :: kvs, ks, vs, acc, h1, h2, h3, h4 => by
    rw [List.map_cons, List.map_cons] at h1 h2
    obtain ⟨e1, e2⟩ := List.cons.inj h1
    cases h2 with
    | cons r1 rs =>
      subst h3
      have a1 := put_fst acc kv.1 kv.2
      have a2 := put_snd (k := kv.1) r1 h4
      have := merge_rs (r := r) e2 rs (ks := (putK1 (acc.map (·.1)) vs p.1 p.2).1) (vs := (putK1 (acc.map (·.1)) vs p.1 p.2).2) (acc := putK acc kv.1 kv.2) (by rw [a1, put1_fst, e1]) (by rw [← e1]; exact a2)
      exact this
theorem snd_dictC {x : Str} {e : Expr} {ia : IE} {p pos : Pos} (hx : x = "dict") (hK : X.K = B.K) (hcalm : X.calm = true) (hg : Gl X x) (hm : X.mg x = none) (ha : SndA B X W [e] ia) (hs : [e].all noStar = true) : SndE B X W (.Call (.Name x p) [e] [] pos) (.bi .dict ia) := by
  subst hx
  refine bt_node (call_dictD.or (call_dictP hcalm)) hg hm (by decide +kernel) (by decide) (by decide) ha hs fun S l xs Q E v ok hl out => ?_
  refine l1 hl (fun e => by subst e; exact out.elim) (fun d y e e2 hy => ?_) fun d d' r e => by subst e; cases d <;> exact out.elim
  subst e e2
  cases d <;> first | exact out.elim | skip
  · rename_i l
    have out : Outs B S true (RV B v) E (match prsK l with | some ps => .ok (.dk (ps.foldl (fun a p => putK1 a.1 a.2 p.1 p.2) ([], [])).1 (ps.foldl (fun a p => putK1 a.1 a.2 p.1 p.2) ([], [])).2) S.ah | none => .bad) Q := out
    cases q : prsK l with
    | none => rw [q] at out; exact out.elim
    | some ps =>
      rw [q] at out
      obtain ⟨a, ys, rfl, hA, hrs⟩ := hy.lst
      obtain ⟨as, kvs, rfl, h2, h3, h4⟩ := prs_rs q hrs
      obtain ⟨m1, m2⟩ := merge_rs (r := S.R B) (ks := []) (vs := []) (acc := []) h3 h4 rfl .nil
      rw [hK]
      refine .inr ⟨a, as, kvs, rfl, SqL.of hA, h2, fun p hp => fin_new ok hp (fun ys e => by cases e) (fun _ e => by cases e) (fun _ _ e => by cases e) ?_ out⟩
      exact .dk (.inl (put_at ok hp)) m1 ((put_le (o := .dK (mergeK [] kvs)) ok hp true).repsI (fo_reps m2))
  left
  rename_i ks vs
  obtain ⟨a, kvs, rfl, h1, rfl, h3⟩ := dict_rd hy
  refine ⟨a, kvs, rfl, h1, fun p hp => fin_new ok hp (fun ys e => by cases e) (fun _ e => by cases e) (fun _ _ e => by cases e) ?_ out⟩
  exact .dk (.inl (put_at ok hp)) rfl ((put_le (o := .dK kvs) ok hp true).repsI (fo_reps h3))
theorem snn_dictC {x : Str} {e : Expr} {ia : IE} {p pos : Pos} (hx : x = "dict") (hK : X.K = B.K) (hcalm : X.calm = true) (hg : Gl X x) (hm : X.mg x = none) (ha : SndA B X W [e] ia) (hs : [e].all noStar = true) : SndN B X W (.Call (.Name x p) [e] [] pos) (.bi .dict ia) := by
  subst hx
  have hs' : noStar e = true := by simpa using hs
  refine ⟨(pe_callTy (call_dictD.or (call_dictP hcalm)) hg hm (by decide +kernel) (ha.pa true) (by decide) (by decide) (starEach_of hs') (plainArgs (by rfl))).imp fun σ H Q h => ?_⟩
  obtain ⟨S, env, rfl, ok, er, out⟩ := h
  have e1 : (ev false (.bi .dict ia) env S.ah).bind ownR = (ev true ia env S.ah).bind fun ds h1 => (match ds with | .tup l => doBi .dict l h1 | _ => .bad : Ab.R AV).bind ownR := by
    show R.bind (R.bind (ev true ia env S.ah) _) _ = _
    cases ev true ia env S.ah <;> rfl
  rw [e1] at out
  refine tA_use (p2 := true) ok er out (fun z => ⟨z, rfl⟩) fun T ds xs ok1 l1 er1 h1 o1 => ?_
  obtain ⟨l, rfl, hl⟩ := h1
  refine Ab.l1 hl (fun e => by subst e; exact o1.elim) (fun d y e e2 hy => ?_) fun d d' r e => by subst e; cases d <;> exact o1.elim
  subst e e2
  have hy := RV.view hy
  cases d <;> first | exact o1.elim | skip
  · rename_i l _
    have o1 : Outs B T true (RN B S) (WE B W σ) ((match prsK l with | some ps => .ok (.dk (ps.foldl (fun a p => putK1 a.1 a.2 p.1 p.2) ([], [])).1 (ps.foldl (fun a p => putK1 a.1 a.2 p.1 p.2) ([], [])).2) T.ah | none => .bad : Ab.R AV).bind ownR) Q := o1
    cases q : prsK l with
    | none => rw [q] at o1; exact o1.elim
    | some ps =>
      rw [q] at o1
      obtain ⟨a, ys, rfl, hA, hrs⟩ := hy.lst
      obtain ⟨as, kvs, rfl, h2, h3, h4⟩ := prs_rs q hrs
      obtain ⟨m1, m2⟩ := merge_rs (r := T.R B) (ks := []) (vs := []) (acc := []) h3 h4 rfl .nil
      rw [hK]
      refine .inr ⟨a, as, kvs, rfl, SqL.of hA, h2, fun p hp => ?_⟩
      refine o1 (T.add p (.dK (mergeK [] kvs)) .out) (add_ok ok1 hp (fun ys e => by cases e) (fun _ e => by cases e) (fun _ _ e => by cases e) fun _ e => by cases e) rfl (add_le ok1 hp _) (.ref p) ⟨p, rfl, fun z => ?_, add_at, .dk upd_same m1 (fo_reps (m2.imp fun _ _ z => add_rep ok1 hp z))⟩
      have z1 := (l1.outs p z).1
      rw [ok1.free hp] at z1
      cases z1
  left
  rename_i ks vs _
  obtain ⟨a, kvs, rfl, k1, rfl, k3⟩ := dict_rd hy
  refine ⟨a, kvs, rfl, k1, fun p hp => ?_⟩
  refine o1 (T.add p (.dK kvs) .out) (add_ok ok1 hp (fun ys e => by cases e) (fun _ e => by cases e) (fun _ _ e => by cases e) fun _ e => by cases e) rfl (add_le ok1 hp _) (.ref p) ⟨p, rfl, fun z => ?_, add_at, .dk upd_same rfl (fo_reps (k3.imp fun _ _ z => add_rep ok1 hp z))⟩
  have z1 := (l1.outs p z).1
  rw [ok1.free hp] at z1
  cases z1
theorem flat_R {S : WS} {d : AV} {x : V} (c : flatA d = true) (h : S.View B d x) : S.R B d x := by
  refine view_flat h ?_
  cases d <;> first | trivial | cases c
theorem snd_get2 {o e f : Expr} {io ie ix : IE} {apos cpos : Pos} (hr : X.A.units + 1 < cLine) (hbase : attributeBase o "get" X.env (eval o X.env) = eval o X.env) (hline : (apos.endLine == cpos.line) = true) (ho : SndE B X W o io) (he : SndE B X W e ie) (hf : SndE B X W f ix) (hs : noStar e = true) (hsf : noStar f = true) (hpx : pureI ix = true) : SndE B X W (.Call (.Attribute o "get" apos) [e, f] [] cpos) (.bm .get2 io (.cons ie (.cons ix .nil))) := by
  refine .plain (fun v => (pe_dget2 hr (ho.pe (pureI ie)) (he.pe true) (hf.pe true) (m2_of hbase hline hs hsf)).imp fun σ H Q h => ?_) rfl
  obtain ⟨S, env, rfl, ok, er, out⟩ := h
  have hp : pureI (.cons ie (.cons ix .nil)) = pureI ie := by show (pureI ie && (pureI ix && true)) = _; rw [hpx, Bool.and_true, Bool.and_true]
  have e2 : ∀ h, ev true (.cons ie (.cons ix .nil)) env h = (ev true ie env h).bind fun d h1 => (ev true ix env h1).bind fun d2 h2 => .ok (.tup [d, d2]) h2 := fun h => by
    show R.bind (ev (true && pureI (.cons ix .nil)) ie env h) _ = _
    rw [show (true && pureI (.cons ix .nil)) = true by show (true && (pureI ix && true)) = true; rw [hpx]; rfl]
    congr 1
    funext d h1
    rw [ev_one]
    cases ev true ix env h1 <;> rfl
  have out : Outs B S (pureI io && pureI (.cons ie (.cons ix .nil))) (RV B v) (WE B W σ) ((ev (pureI (.cons ie (.cons ix .nil))) io env S.ah).bind fun x h1 => if bmOk .get2 x = true then ((ev true (.cons ie (.cons ix .nil)) env h1).bind fun ds h2 => match ds with
    | .tup l => doBm .get2 x l h2
    | _ => .bad) else .bad) Q := out
  rw [hp] at out
  refine tE_use (p2 := pureI ie) ok er out (fun z => and2 z) fun T d x ok1 l1 er1 h1 o1 => ?_
  by_cases q : bmOk .get2 d = true
  · rw [if_pos q, e2] at o1
    have q' : bmOk .get1 d = true := by cases d <;> first | rfl | cases q
    obtain ⟨a, rfl, hD⟩ := bm_isD q' (RV.view h1)
    refine ⟨a, rfl, hD, ?_⟩
    have o1 : Outs B T (pureI ie) (RV B v) (WE B W σ) ((ev true ie env T.ah).bind fun k h2 => (ev true ix env h2).bind fun k2 h3 => doBm .get2 d [k, k2] h3) Q := by
      revert o1
      cases ev true ie env T.ah with
      | ok k h2 =>
        show Outs B T (pureI ie) (RV B v) (WE B W σ) (R.bind (R.bind (ev true ix env h2) _) _) Q → Outs B T (pureI ie) (RV B v) (WE B W σ) (R.bind (ev true ix env h2) _) Q
        cases ev true ix env h2 <;> exact id
      | _ => exact id
    refine tE_use (p2 := true) ok1 er1 o1 (fun z => ⟨z, rfl⟩) fun U kd y ok2 l2 er2 h2 o2 => ?_
    have hd : U.View B d (.ref a) := by
      cases z : pureI ie with
      | true => rw [z] at h1 l2; exact l2.view h1
      | false => rw [z] at h1; exact .inl (l2.rep h1)
    refine tE_use (p2 := true) ok2 er2 o2 (fun z => ⟨hpx, rfl⟩) fun Y xd z ok3 l3 er3 h3 o3 => ?_
    rw [hpx] at l3
    have hd3 : Y.View B d (.ref a) := l3.view hd
    have hk3 : Y.View B kd y := l3.view (RV.view h2)
    have o3 : Outs B Y true (RV B v) (WE B W σ) (if flatA xd = true then okO ((dGet d kd).map fun o => o.getD xd) Y.ah else .bad) Q := by
      cases d <;> first | (cases q; done) | exact o3
    by_cases c : flatA xd = true
    · rw [if_pos c] at o3
      obtain ⟨o, e1, q2⟩ := okO_map (o := dGet d kd) (g := fun o => o.getD xd) o3
      obtain ⟨a2, ov, e2, g1, g2, g3⟩ := dget e1 hd3 hk3
      cases e2
      refine ⟨ov, g1, fin_rv ok3 ?_ q2⟩
      cases g3 with
      | none => exact flat_R c (RV.view h3)
      | some g => exact g
    · rw [if_neg c] at o3; exact o3.elim
  · rw [if_neg q] at o1; exact o1.elim
/-! ### max of a list of whole numbers -/
theorem ints_rs {S : WS} : ∀ {l : List AV} {ns : List Int} {xs : List V}, allInt l = some ns → S.Rs B l xs → xs = ns.map V.int
  | [], _, _, h, r => by cases h; cases r; rfl
  | x :: l, ns, xs, h, r => by
    cases r with
    | cons r1 rs =>
      cases x <;> first | (cases h; done) | skip
      rename_i i
      have h : (allInt l).map (i :: ·) = some ns := h
      cases q : allInt l with
      | none => rw [q] at h; cases h
      | some m =>
        rw [q] at h
        cases h
        have r1 : S.View B (.int i) _ := .inl r1
        cases r1.int
        rw [List.map_cons, ints_rs q rs]
theorem fold_max (r : List Int) : ∀ i : Int, (r.foldl max i = i ∨ r.foldl max i ∈ r) ∧ i ≤ r.foldl max i ∧ ∀ y ∈ r, y ≤ r.foldl max i := by
  induction r with
  | nil => intro i; exact ⟨.inl rfl, Int.le_refl _, fun y z => (nomatch z)⟩
  | cons a r ih =>
    intro i
    obtain ⟨h1, h2, h3⟩ := ih (max i a)
    show ((r.foldl max (max i a) = i ∨ r.foldl max (max i a) ∈ a :: r) ∧ i ≤ r.foldl max (max i a) ∧ ∀ y ∈ a :: r, y ≤ r.foldl max (max i a))
    refine ⟨?_, Int.le_trans (Int.le_max_left _ _) h2, fun y hy => ?_⟩
    · rcases h1 with e | e
      · rw [e]
        rcases Int.le_total i a with z | z
        · rw [Int.max_eq_right z]; exact .inr List.mem_cons_self
        · rw [Int.max_eq_left z]; exact .inl rfl
      · exact .inr (List.mem_cons_of_mem _ e)
    · rcases List.mem_cons.mp hy with rfl | hy
      · exact Int.le_trans (Int.le_max_right _ _) h2
      · exact h3 y hy
theorem snd_maxL {x : Str} {e : Expr} {ia : IE} {p pos : Pos} (hx : x = "max") (hK : X.K = B.K) (hc : X.calm = true) (hg : Gl X x) (hm : X.mg x = none) (ha : SndA B X W [e] ia) (hs : [e].all noStar = true) : SndE B X W (.Call (.Name x p) [e] [] pos) (.bi .maxL ia) := by
  subst hx
  refine bi_node (cr_max hc) hg hm (by decide +kernel) (by decide) (by decide) ha hs fun S l xs Q E v ok hl out => ?_
  refine l1 hl (fun e => by subst e; exact out.elim) (fun d y e e2 hy => ?_) fun d d' r e => by subst e; cases d <;> exact out.elim
  subst e e2
  cases d <;> first | exact out.elim | skip
  rename_i l
  have out2 : Outs B S true (RV B v) E (match allInt l with | some (i :: r) => .ok (.int (r.foldl max i)) S.ah | _ => .bad) Q := out
  cases e : allInt l with
  | none => rw [e] at out2; exact out2.elim
  | some ns =>
    cases ns with
    | nil => rw [e] at out2; exact out2.elim
    | cons i r =>
      rw [e] at out2
      obtain ⟨a, ys, rfl, hA, hrs⟩ := hy.lst
      have := ints_rs e hrs
      subst this
      rw [hK]
      refine ⟨a, i :: r, rfl, SqL.of hA, Nat.succ_pos _, fun m hm1 hm2 => ?_⟩
      obtain ⟨h1, h2, h3⟩ := fold_max r i
      have e1 : m = r.foldl max i := by
        refine Int.le_antisymm ?_ ?_
        · rcases List.mem_cons.mp hm1 with rfl | z
          · exact h2
          · exact h3 m z
        · rcases h1 with z | z
          · rw [z]; exact hm2 i List.mem_cons_self
          · exact hm2 _ (List.mem_cons_of_mem _ z)
      subst e1
      exact fin_rv ok (.int _) out2
end
end Ab

set_option autoImplicit false
set_option maxHeartbeats 4000000
/-! AbR: a dict locked for a while. -/
namespace Ab
open PySem PySem.Spec PyProof.Rows L2
def isDK : HO → Prop
  | .dK _ => True
  | .dT _ => True
  | _ => False
/-- one heap, seen with a dict locked or unlocked -/
def LkR (G G' : Hp) : Prop := ∀ a u, G a = some u → G' a = some u ∨ (∃ o, isDK u ∧ G' a = some (.frz o u)) ∨ ∃ o u', u = .frz o u' ∧ isDK u' ∧ G' a = some u'
theorem lk_eq {G G' : Hp} (h : LkR G G') {a : Addr} {u : HO} (n1 : ¬ isDK u) (n2 : ∀ o u', u = .frz o u' → ¬ isDK u') (e : G a = some u) : G' a = some u := by
  rcases h a u e with q | ⟨o, q, _⟩ | ⟨o, u', e1, q, _⟩
  · exact q
  · exact absurd q n1
  · exact absurd q (n2 o u' e1)
theorem lk_rd {G G' : Hp} (h : LkR G G') {a : Addr} {u : HO} (c : isDK u) (q : Rd G a u) : Rd G' a u := by
  rcases q with q | ⟨o, q⟩
  · rcases h a u q with z | ⟨o, _, z⟩ | ⟨o, u', e1, _, _⟩
    · exact .inl z
    · exact .inr ⟨o, z⟩
    · subst e1; exact c.elim
  · rcases h a _ q with z | ⟨o', z, _⟩ | ⟨o', u', e1, _, z⟩
    · exact .inr ⟨o, z⟩
    · exact z.elim
    · cases e1; exact .inl z
theorem lk_rdl {G G' : Hp} (h : LkR G G') {a : Addr} {xs : List V} (q : Rd G a (.lst xs)) : Rd G' a (.lst xs) := by
  rcases q with q | ⟨o, q⟩
  · exact .inl (lk_eq h (fun z => z) (fun _ _ z => nomatch z) q)
  · exact .inr ⟨o, lk_eq h (fun z => z) (fun _ _ z => by cases z; exact fun z => z) q⟩
theorem lk_tup {G G' : Hp} (hL : LkR G G') {a : Addr} {xs : List V} (e : G a = some (.tup xs)) : G' a = some (.tup xs) := lk_eq hL (fun z => z) (fun _ _ z => nomatch z) e
theorem lk_lst {G G' : Hp} (hL : LkR G G') {a : Addr} {xs : List V} (e : G a = some (.lst xs)) : G' a = some (.lst xs) := lk_eq hL (fun z => z) (fun _ _ z => nomatch z) e
theorem lk_dk {G G' : Hp} (hL : LkR G G') {a : Addr} {xs : List (Key × V)} (e : Rd G a (.dK xs)) : Rd G' a (.dK xs) := lk_rd hL trivial e
theorem lk_dt {G G' : Hp} (hL : LkR G G') {a : Addr} {xs : List (List Key × V)} (e : Rd G a (.dT xs)) : Rd G' a (.dT xs) := lk_rd hL trivial e
theorem lk_sql {K : PySem.W.Frag} {G G' : Hp} (hL : LkR G G') {a : Addr} {xs : List V} (e : SqL K G a xs) : SqL K G' a xs := e.imp (fun q => lk_rdl hL q) fun q => q
mutual
theorem Rep.lk {K : PySem.W.Frag} {w w' : Addr → Option Ow} {G G' : Hp} (hw : ∀ a n, w a = some (.obj n) → w' a = some (.obj n)) (hG : LkR G G') : ∀ {d : AV} {v : V}, Rep K w G d v → Rep K w' G' d v
  | _, _, .non => .non
  | _, _, .bl b => .bl b
  | _, _, .int b => .int b
  | _, _, .str b h => .str b h
  | _, _, .tup e t => .tup (lk_tup hG e) (Reps.lk hw hG t)
  | _, _, .lst e t => .lst (lk_lst hG e) (Reps.lk hw hG t)
  | _, _, .dk e k t => .dk (lk_dk hG e) k (Reps.lk hw hG t)
  | _, _, .dt e k t => .dt (lk_dt hG e) k (Reps.lk hw hG t)
  | _, _, .scr z e => .scr z (lk_sql hG e)
  | _, _, .ref e => .ref (hw _ _ e)
theorem Reps.lk {K : PySem.W.Frag} {w w' : Addr → Option Ow} {G G' : Hp} (hw : ∀ a n, w a = some (.obj n) → w' a = some (.obj n)) (hG : LkR G G') : ∀ {d : List AV} {v : List V}, Reps K w G d v → Reps K w' G' d v
  | _, _, .nil => .nil
  | _, _, .cons p t => .cons (Rep.lk hw hG p) (Reps.lk hw hG t)
end
/-! ### a state locked, unlocked -/
def WS.lock (S : WS) (d : Addr) (o : Obj) (u : HO) : WS := { S with H := upd S.H d (.frz o u) }
section
variable {B : Bs} {S T : WS} {d : Addr} {o : Obj} {u : HO}
theorem lock_G (hw : S.w d = none) (hd : S.H d = some u) (c : isDK u) : LkR S.G (S.lock d o u).G := by
  intro a x e
  obtain ⟨e1, e2⟩ := WS.G_some e
  by_cases z : a = d
  · subst z
    rw [hd] at e2
    cases e2
    refine .inr (.inl ⟨o, c, ?_⟩)
    rw [WS.G_none (S := S.lock a o u) hw]
    exact upd_same
  · refine .inl ?_
    rw [WS.G_none (S := S.lock d o u) e1]
    exact (upd_ne z).trans e2
theorem unlock_G (hw : S.w d = none) (hd : S.H d = some (.frz o u)) (c : isDK u) : LkR S.G (S.put d u).G := by
  intro a x e
  obtain ⟨e1, e2⟩ := WS.G_some e
  by_cases z : a = d
  · subst z
    rw [hd] at e2
    cases e2
    refine .inr (.inr ⟨o, u, rfl, c, ?_⟩)
    rw [WS.G_none (S := S.put a u) hw]
    exact upd_same
  · refine .inl ?_
    rw [WS.G_none (S := S.put d u) e1]
    exact (upd_ne z).trans e2
/-- a heap changed at one frozen place, seen alike -/
theorem lk_ok {x : HO} (ok : S.Ok B) (hw : S.w d = none) (hL : LkR S.G (S.put d x).G) (n1 : ∀ xs, x ≠ .lst xs) (n2 : ∀ xs, x ≠ .tup xs) : (S.put d x).Ok B := by
  have ne : ∀ a y, S.w a = some y → a ≠ d := fun a y e z => by rw [z, hw] at e; cases e
  have cont : ∀ {c : AV} {b : Addr}, b ≠ d → S.C B c b → (S.put d x).C B c b := fun {c b} nb h => by
    cases h with
    | lst q t => exact .lst ((upd_ne nb).trans q) (Reps.lk (fun _ _ e => e) hL t)
    | dk q k t => exact .dk ((upd_ne nb).trans q) k (Reps.lk (fun _ _ e => e) hL t)
    | dt q k t => exact .dt ((upd_ne nb).trans q) k (Reps.lk (fun _ _ e => e) hL t)
  refine ⟨fun n ob e => ?_, ok.inj, ok.lt, fun a y e => ?_, fun a xs e => ?_, fun a xs e => ?_⟩
  · obtain ⟨a, h1, h2⟩ := ok.objs n ob e
    have na := ne a _ h1
    refine ⟨a, h1, ?_⟩
    cases ob with
    | gone => exact trivial
    | box c => exact cont na h2
    | ins c fs =>
      obtain ⟨dx, fs', q1, q2⟩ := h2
      refine ⟨dx, fs', (upd_ne na).trans q1, q2.imp fun p q ⟨e1, e2⟩ => ⟨e1, ?_⟩⟩
      cases z : p.2 with
      | val v => rw [z] at e2; exact Rep.lk (fun _ _ e => e) hL e2
      | gone => exact trivial
      | exc _ => exact trivial
      | own v =>
        rw [z] at e2
        obtain ⟨b, e3, e4, e5⟩ := e2
        exact ⟨b, e3, e4, cont (ne b _ e4) e5⟩
  · obtain ⟨y', hy⟩ := ok.trk a y e
    exact ⟨y', (upd_ne (ne a _ e)).trans hy⟩
  · have e : upd S.H d x a = some (.lst xs) := e
    by_cases z : a = d
    · rw [z, upd_same] at e; exact absurd (Option.some.inj e) (n1 xs)
    · rw [upd_ne z] at e; exact ok.szl a xs e
  · have e : upd S.H d x a = some (.tup xs) := e
    by_cases z : a = d
    · rw [z, upd_same] at e; exact absurd (Option.some.inj e) (n2 xs)
    · rw [upd_ne z] at e; exact ok.szt a xs e
/-- what a locked walk leaves, unlocked -/
theorem unlock_le {p : Bool} (hw : S.w d = none) (hd : S.H d = some u) (c : isDK u) (l : (S.lock d o u).le p T) : T.w d = none ∧ T.H d = some (.frz o u) ∧ S.le p (T.put d u) := by
  have g : (S.lock d o u).G d = some (.frz o u) := by rw [WS.G_none (S := S.lock d o u) hw]; exact upd_same
  obtain ⟨e1, e2⟩ := WS.G_some (l.same _ _ g)
  have ne : ∀ a y, S.w a = some y → a ≠ d := fun a y e z => by rw [z, hw] at e; cases e
  have old : ∀ a, a ≠ d → (S.lock d o u).H a = S.H a := fun a z => upd_ne z
  refine ⟨e1, e2, l.objs, fun a x e => ?_, fun b i e => ?_, fun b e => ?_, fun z b y e => ?_⟩
  · obtain ⟨f1, f2⟩ := WS.G_some e
    by_cases z : a = d
    · subst z
      rw [hd] at f2
      cases f2
      show (T.put a u).G a = some u
      rw [WS.G_none (S := T.put a u) e1]
      exact upd_same
    · have f3 : (S.lock d o u).G a = some x := by rw [WS.G_none (S := S.lock d o u) f1]; exact (old a z).trans f2
      obtain ⟨f4, f5⟩ := WS.G_some (l.same _ _ f3)
      show (T.put d u).G a = some x
      rw [WS.G_none (S := T.put d u) f4]
      exact (upd_ne z).trans f5
  · obtain ⟨f1, f2⟩ := l.slots b i e
    exact ⟨f1, (upd_ne (ne b _ e)).trans (f2.trans (old b (ne b _ e)))⟩
  · obtain ⟨f1, f2⟩ := l.outs b e
    exact ⟨f1, (upd_ne (ne b _ e)).trans (f2.trans (old b (ne b _ e)))⟩
  · obtain ⟨f1, f2⟩ := l.keep z b y e
    exact ⟨f1, (upd_ne (ne b _ e)).trans (f2.trans (old b (ne b _ e)))⟩
end
/-! ### a dict's keys walked -/
section
variable {B : Bs} {X : Cx} {W : WX}
theorem keyA_v {S : WS} {k : Key} {x : AV} (h : keyA k = some x) : S.R B x (kV k) := by
  cases k with
  | inl i => cases h; exact .int i
  | inr s =>
    have h : (if PyData.strOk s = true then some (AV.str s) else none) = some x := h
    by_cases c : PyData.strOk s = true
    · rw [if_pos c] at h; cases h; exact .str s c
    · rw [if_neg c] at h; cases h
theorem keyAs_of {ks : List Key} {l : List AV} (h : keyAs ks = some l) : ks.length ≤ LIM ∧ Fo (fun k x => keyA k = some x) ks l := by
  unfold keyAs at h
  by_cases c : ks.length ≤ LIM
  · rw [if_pos c] at h; exact ⟨c, mapM_some h⟩
  · rw [if_neg c] at h; cases h
theorem wk_keys {S : WS} {p : Bool} {ks : List Key} {l : List AV} {d : Addr} {od : Obj} {kvs : List (Key × V)} (hw : S.w d = none) (hd : S.H d = some (.frz od (.dK kvs))) (hk : kvs.map (·.1) = ks) (hl : keyAs ks = some l) : Wk B (Itk d od kvs) S p l := by
  obtain ⟨sz, fo⟩ := keyAs_of hl
  have len : l.length = kvs.length := by rw [← fo.len, ← hk, List.length_map]
  have at_ : ∀ T : WS, S.lk p T → T.H d = some (.frz od (.dK kvs)) := fun T le => (WS.G_some (le.same _ _ ((WS.G_none hw).trans hd))).2
  refine ⟨fun T i ok le x hx => ?_, fun T ok le => ⟨at_ T le, by rw [len]; exact Nat.le_refl _⟩, by rw [← fo.len]; exact sz⟩
  have hi : i < l.length := (List.getElem?_eq_some_iff.mp hx).1
  refine ⟨⟨at_ T le, by rw [← len]; exact hi⟩, fun y H' ⟨e, k, v, q1, q2⟩ => ⟨T, e.symm, ok, .refl _ _, rfl, ?_⟩⟩
  subst q2
  obtain ⟨k', q3, q4⟩ := fo.get' hx
  rw [← hk, List.getElem?_map, q1] at q3
  cases q3
  exact keyA_v q4
/-- where a field's dict stands -/
structure FldD (B : Bs) (S : WS) (env : En) (σ : L2.St) (cs : List Nat) (i : Nat) (f : Str) (ks : List Key) (vs : List AV) (a : Addr) (c : Nat) (dx : Addr) (fs : List (Str × V)) (d : Addr) (kvs : List (Key × V)) : Prop where
  sl : σ[i]? = some (some (.ref a))
  cs : c ∈ cs
  ob : S.H a = some (.ins (B.ca c) dx fs)
  lk : fs.lookup f = some (.ref d)
  w : S.w d = none
  rd : Rd S.H d (.dK kvs)
  ks : kvs.map (·.1) = ks
theorem fldD_of {S : WS} {env : En} {σ : L2.St} {cs : List Nat} {i : Nat} {f : Str} {h : AH} {ks : List Key} {vs : List AV} (ok : S.Ok B) (er : ERep B S env σ) (q : ev false (.fldz cs i f) env S.ah = .ok (.dk ks vs) h) : h = S.ah ∧ ∃ a c dx fs d kvs, FldD B S env σ cs i f ks vs a c dx fs d kvs := by
  have q : (slotV false env i S.ah).bind (fun x h1 => fldV cs false x f h1) = .ok (.dk ks vs) h := q
  unfold slotV at q
  cases e1 : env[i]? with
  | none => rw [e1] at q; cases q
  | some ofv =>
    rw [e1] at q
    cases ofv with
    | none => cases q
    | some fv =>
      cases fv with
      | own c => cases q
      | gone => cases q
      | exc _ => cases q
      | val dv =>
        have q : fldV cs false dv f S.ah = .ok (.dk ks vs) h := q
        obtain ⟨v, hv, hr⟩ := er.at_ i _ e1
        cases dv <;> first | (cases q; done) | skip
        rename_i n _
        have hr : S.R B (.ref n) v := hr
        unfold fldV at q
        simp only at q
        cases e2 : S.ah[n]? with
        | none => rw [e2] at q; cases q
        | some ob =>
          rw [e2] at q
          cases ob with
          | gone => cases q
          | box c => cases q
          | ins c fs0 =>
            simp only at q
            by_cases cc : cs.contains c = true
            · rw [if_pos cc] at q
              obtain ⟨a, dx, fs', rfl, hw, ha, hf⟩ := obj_at ok hr e2
              cases e3 : lookF f fs0 with
              | none => rw [e3] at q; cases q
              | some fv =>
                rw [e3] at q
                cases fv with
                | gone => cases q
                | exc _ => cases q
                | own c0 => cases q
                | val d0 =>
                  have q : R.ok d0 S.ah = .ok (.dk ks vs) h := q
                  cases q
                  obtain ⟨v, hl, hr0⟩ := frs_look hf e3
                  have hr0 : S.R B (.dk ks vs) v := hr0
                  cases hr0 with
                  | dk e k t =>
                    rename_i d kvs
                    have hwd : S.w d = none := by
                      rcases e with e | ⟨o, e⟩ <;> exact (WS.G_some e).1
                    exact ⟨rfl, a, c, dx, fs', d, kvs, hv, by simpa using cc, ha, hl, hwd, rd_G e, k⟩
            · rw [if_neg cc] at q; cases q
theorem fldz_ok {v : Bool} {cs : List Nat} {i : Nat} {f : Str} {env : En} {h : AH} : (∃ d, ev v (.fldz cs i f) env h = .ok d h) ∨ ev v (.fldz cs i f) env h = .bad := by
  show (∃ d, (slotV false env i h).bind (fun x h1 => fldV cs false x f h1) = .ok d h) ∨ (slotV false env i h).bind (fun x h1 => fldV cs false x f h1) = .bad
  have hs : (∃ x, slotV false env i h = .ok x h) ∨ slotV false env i h = .bad := by
    unfold slotV
    cases env[i]? with
    | none => exact .inr rfl
    | some o => cases o with
      | none => exact .inr rfl
      | some fv => cases fv <;> first | exact .inr rfl | exact .inl ⟨_, rfl⟩
  rcases hs with ⟨x, e⟩ | e
  · rw [e]
    show (∃ d, fldV cs false x f h = .ok d h) ∨ fldV cs false x f h = .bad
    unfold fldV
    cases x <;> first | exact .inr rfl | skip
    rename_i n
    simp only
    cases h[n]? with
    | none => exact .inr rfl
    | some ob => cases ob with
      | gone => exact .inr rfl
      | box c => exact .inr rfl
      | ins c fs =>
        simp only
        split
        · cases lookF f fs with
          | none => exact .inr rfl
          | some fv => cases fv <;> first | exact .inr rfl | exact .inl ⟨_, rfl⟩
        · exact .inr rfl
  · rw [e]; exact .inr rfl
/-- the dict of a field is locked -/
def LkH (σ : L2.St) (H : Hp) (i : Nat) (f : Str) : Prop := ∃ (a C dx : Addr) (fs : List (Str × V)) (d : Addr) (od : Obj) (kvs : List (Key × V)), σ[i]? = some (some (.ref a)) ∧ H a = some (.ins C dx fs) ∧ fs.lookup f = some (.ref d) ∧ H d = some (.frz od (.dK kvs))
theorem pi_lk {tg : Expr} {x f : Str} {px pf : Pos} {cs : List Nat} {i : Nat} {p : Bool} (hcl : ∀ c ∈ cs, Cls X.K (B.ca c) ∧ NoAttr X.K (B.ca c) f) (hN : X.N[i]? = some x) (hv : Vis X.env.scope x) (hd : (x == ("__debug__" : Str)) = false) (hcd : (x == ("__classdict__" : Str)) = false) (hb : attributeBase (.Name x px) f X.env (eval (.Name x px) X.env) = eval (.Name x px) X.env) :
    PI X tg (.Attribute (.Name x px) f pf) (fun σ H R => tI B W p .keys (.cons (.fldz cs i f) .nil) σ H R ∧ LkH σ H i f) := (pi_keys (pe_fld (pe_var hN hv hd hcd) hb)).imp fun σ H R ⟨h, a, C, dx, fs, d, od, kvs, s1, s2, s3, s4⟩ => by
  obtain ⟨S, env, rfl, ok, er, out⟩ := h
  rw [it1] at out
  have out : Outs B S (pureI (.cons (.fldz cs i f) .nil)) (fun T l J => Wk B J T p l) (WE B W σ) ((ev false (.fldz cs i f) env S.ah).bind fun d h1 => okO (itemsA .keys [d]) h1) R := out
  rcases fldz_ok (v := false) (cs := cs) (i := i) (f := f) (env := env) (h := S.ah) with ⟨dv, q⟩ | q
  · rw [q] at out
    cases dv <;> first | exact out.elim | skip
    rename_i ks vs
    obtain ⟨_, a', c, dx', fs', d', kvs', F⟩ := fldD_of ok er q
    have e1 := F.sl
    rw [s1] at e1
    cases e1
    have e2 := F.ob
    rw [s2] at e2
    cases e2
    have e3 := F.lk
    rw [s3] at e3
    cases e3
    have e4 : kvs' = kvs := by
      rcases F.rd with e | ⟨o, e⟩
      · rw [s4] at e; cases e
      · rw [s4] at e; cases e; rfl
    subst e4
    obtain ⟨l, e5, q5⟩ := wk_fin ok out
    exact ⟨.ref a, s1, a, B.ca c, dx, fs, .ref d, rfl, s2, (hcl c F.cs).1, (hcl c F.cs).2, s3, d, od, rfl, .inl ⟨kvs', s4, q5 _ (wk_keys F.w s4 F.ks e5)⟩⟩
  · rw [q] at out; exact out.elim
theorem lk_er {S : WS} {d : Addr} {x : HO} {env : En} {σ : L2.St} (er : ERep B S env σ) (hw : S.w d = none) (hL : LkR S.G (S.put d x).G) : ERep B (S.put d x) env σ := by
  refine ⟨er.len, fun i fv q => ?_⟩
  obtain ⟨v, h1, h2⟩ := er.at_ i fv q
  refine ⟨v, h1, ?_⟩
  cases fv with
  | val w => exact Rep.lk (fun _ _ e => e) hL h2
  | gone => exact trivial
  | exc _ => exact h2
  | own c =>
    obtain ⟨b, rfl, hb, hc⟩ := h2
    have nb : b ≠ d := fun z => by rw [z, hw] at hb; cases hb
    refine ⟨b, rfl, hb, ?_⟩
    cases hc with
    | lst q t => exact .lst ((upd_ne nb).trans q) (Reps.lk (fun _ _ e => e) hL t)
    | dk q k t => exact .dk ((upd_ne nb).trans q) k (Reps.lk (fun _ _ e => e) hL t)
    | dt q k t => exact .dt ((upd_ne nb).trans q) k (Reps.lk (fun _ _ e => e) hL t)
theorem lk_rv {T : WS} {d : Addr} {o : Obj} {u : HO} {v : Bool} {c : AV} {x : V} (h1 : T.H d = some (.frz o u)) (hL : LkR T.G (T.put d u).G) (h : RV B v T c x) : RV B v (T.put d u) c x := by
  cases v with
  | false => exact Rep.lk (fun _ _ e => e) hL h
  | true =>
    rcases h with h | ⟨b, rfl, h⟩
    · exact .inl (Rep.lk (fun _ _ e => e) hL h)
    · refine .inr ⟨b, rfl, ?_⟩
      have nb : ∀ {y : HO}, T.H b = some y → (∀ o' u', y ≠ .frz o' u') → b ≠ d := fun e n z => by rw [z, h1] at e; cases e; exact n _ _ rfl
      cases h with
      | lst q t => exact .lst ((upd_ne (nb q fun _ _ z => nomatch z)).trans q) (Reps.lk (fun _ _ e => e) hL t)
      | dk q k t => exact .dk ((upd_ne (nb q fun _ _ z => nomatch z)).trans q) k (Reps.lk (fun _ _ e => e) hL t)
      | dt q k t => exact .dt ((upd_ne (nb q fun _ _ z => nomatch z)).trans q) k (Reps.lk (fun _ _ e => e) hL t)
theorem noExc_ok (r : Ab.R (List AV)) : (∃ l h, noExc r = .ok (.lst l) h) ∨ noExc r = .bad := by
  cases r <;> first | exact .inl ⟨_, _, rfl⟩ | exact .inr rfl
theorem snd_lcK {elt tg : Expr} {ifs : List Expr} {scope : Scope} {own : List (Str × Nat)} {pos px pf : Pos} {t g : IE} {tgi : Tg} {x f : Str} {cs : List Nat} {i : Nat}
    (hK : X.K = B.K) (hcl : ∀ c ∈ cs, Cls X.K (B.ca c) ∧ NoAttr X.K (B.ca c) f) (hNx : X.N[i]? = some x) (hv : Vis X.env.scope x) (hd : (x == ("__debug__" : Str)) = false) (hcd : (x == ("__classdict__" : Str)) = false)
    (hc : X.calm = true) (hN : X.N.Nodup) (bo : BlkOk X.N X.env.scope scope own)
    (hg : ∀ (s : Shared) (H : Hp) (C : Addr) (cl : List (Str × Addr)) (fp : List Addr), PG (X.blk s H scope (compEnvC scope cl C X.env) fp) tg (tgR X.K tgi))
    (ht : ∀ (s : Shared) (H : Hp) (C : Addr) (cl : List (Str × Addr)) (fp : List Addr), SndT B (X.blk s H scope (compEnvC scope cl C X.env) fp) W0 ifs t)
    (he : ∀ (s : Shared) (H : Hp) (C : Addr) (cl : List (Str × Addr)) (fp : List Addr), SndE B (X.blk s H scope (compEnvC scope cl C X.env) fp) W0 elt g)
    (ho : ∀ i ∈ tgIx tgi, i ∈ own.map (·.2)) (hpt : pureI t = true) (hpg : pureI g = true) :
    SndE B X W (.ListComp elt [⟨tg, .Attribute (.Name x px) f pf, ifs, 0⟩] scope pos) (.comp .keys (.cons (.fldz cs i f) .nil) tgi t g (own.map (·.2))) := by
  have base := pe_lc (pos := pos) hc hN (pi_lk (W := W) (tg := tg) (px := px) (pf := pf) (p := pureI t && pureI g) hcl hNx hv hd hcd (base_of rfl)) bo hg (fun s H C cl fp => (ht s H C cl fp).pts) (fun s H C cl fp => (he s H C cl fp).pe false) (fun _ => rfl)
  refine .plain (fun v => (base.or (pe_lock base)).imp fun σ H Q h => ?_) rfl
  have h0 := h
  obtain ⟨S, env, rfl, ok, er, out⟩ := h
  have pu : pureI (.comp .keys (.cons (.fldz cs i f) .nil) tgi t g (own.map (·.2))) = true := by
    show ((true && true) && (pureI t && pureI g)) = true
    rw [hpt, hpg]; rfl
  have ee : ev v (.comp .keys (.cons (.fldz cs i f) .nil) tgi t g (own.map (·.2))) env S.ah = ((ev (pureI t && pureI g) (.cons (.fldz cs i f) .nil) env S.ah).bind (itR .keys)).bind fun l h1 => noExc (compL (fun x => setTg tgi x (wipeE env (own.map (·.2)))) (ev true t) (ev false g) l h1) := rfl
  rw [ee, it1] at out
  have e1 : ev (pureI t && pureI g) (.fldz cs i f) env S.ah = ev false (.fldz cs i f) env S.ah := rfl
  rw [e1] at out
  rcases fldz_ok (v := false) (cs := cs) (i := i) (f := f) (env := env) (h := S.ah) with ⟨dv, q⟩ | q
  · rw [q] at out
    cases dv <;> first | exact out.elim | skip
    rename_i ks vs
    obtain ⟨_, a, c, dx, fs, d, kvs, F⟩ := fldD_of ok er q
    rcases F.rd with e | ⟨o, e⟩
    · right
      refine ⟨d, .dK kvs, e, trivial, fun od => ?_⟩
      have gL := lock_G (o := od) F.w e (show isDK (.dK kvs) from trivial)
      have gL : LkR S.G (S.put d (.frz od (.dK kvs))).G := gL
      have ok' : (S.put d (.frz od (.dK kvs))).Ok B := lk_ok ok F.w gL (fun _ z => nomatch z) (fun _ z => nomatch z)
      have er' := lk_er er F.w gL
      have nad : a ≠ d := fun z => by have := F.ob; rw [z, e] at this; cases this
      have h' : tE B W v (.comp .keys (.cons (.fldz cs i f) .nil) tgi t g (own.map (·.2))) σ (upd S.H d (.frz od (.dK kvs))) (fun x H' => H' d = some (.frz od (.dK kvs)) ∧ Q x (upd H' d (.dK kvs))) := by
        refine ⟨S.put d (.frz od (.dK kvs)), env, rfl, ok', er', ?_⟩
        show Outs B _ _ _ _ (ev v _ env S.ah) _
        rw [ee, it1, e1, q, pu]
        rw [pu] at out
        have out : Outs B S true (RV B v) (WE B W σ) ((okO (keyAs ks) S.ah).bind fun l h1 => noExc (compL (fun x => setTg tgi x (wipeE env (own.map (·.2)))) (ev true t) (ev false g) l h1)) Q := out
        show Outs B (S.put d (.frz od (.dK kvs))) true (RV B v) (WE B W σ) ((okO (keyAs ks) S.ah).bind fun l h1 => noExc (compL (fun x => setTg tgi x (wipeE env (own.map (·.2)))) (ev true t) (ev false g) l h1)) _
        cases qk : keyAs ks with
        | none => rw [qk] at out; exact out.elim
        | some l =>
          rw [qk] at out
          have out : Outs B S true (RV B v) (WE B W σ) (noExc (compL (fun x => setTg tgi x (wipeE env (own.map (·.2)))) (ev true t) (ev false g) l S.ah)) Q := out
          show Outs B (S.put d (.frz od (.dK kvs))) true (RV B v) (WE B W σ) (noExc (compL (fun x => setTg tgi x (wipeE env (own.map (·.2)))) (ev true t) (ev false g) l S.ah)) _
          rcases noExc_ok (compL (fun x => setTg tgi x (wipeE env (own.map (·.2)))) (ev true t) (ev false g) l S.ah) with ⟨m, h2, q2⟩ | q2
          · rw [q2] at out ⊢
            intro T okT eT lT x hx
            obtain ⟨w1, h1, le1⟩ := unlock_le (o := od) F.w e (show isDK (.dK kvs) from trivial) lT
            have gU := unlock_G w1 h1 (show isDK (.dK kvs) from trivial)
            exact ⟨h1, out (T.put d (.dK kvs)) (lk_ok okT w1 gU (fun _ z => nomatch z) (fun _ z => nomatch z)) eT le1 x (lk_rv h1 gU hx)⟩
          · rw [q2] at out; exact out.elim
      exact ⟨lc_read hK ho _ _ _ h', a, B.ca c, dx, fs, d, od, kvs, F.sl, (upd_ne nad).trans F.ob, F.lk, upd_same⟩
    · left
      exact ⟨lc_read hK ho _ _ _ h0, a, B.ca c, dx, fs, d, o, kvs, F.sl, F.ob, F.lk, e⟩
  · rw [q] at out; exact out.elim
end
end Ab

set_option autoImplicit false
set_option maxHeartbeats 4000000
/-! AbQ: isinstance of objects, ranges downwards, a dict's keys by a name, a key taken out and told. -/
namespace Ab
open PySem PySem.Spec PyProof.Rows L2
section
variable {B : Bs} {X : Cx} {W : WX} {D : Ends}
/-! ### isinstance(x, tuple) of objects -/
structure ObjTy (K : PySem.W.Frag) (C : Addr) : Prop where
  cl : Cls K C
  ha : PySem.W.findIn K (.ref C) "__class__" = some (some (.builtin "object.__class__"))
  hn : PySem.W.specialIn K (.builtin "object.__class__") "__get__" = some (some (.builtin "getset_descriptor.__get__"))
  htk : PySem.W.takesIn K (.builtin "object.__class__") = some true
  hm : PySem.W.mroIn K C (.type "object") = some true
  kt : PySem.W.kitOne K (.ref C) (.type "tuple") = some false
theorem snd_isTO {cs : List Nat} {x y : Str} {e : Expr} {ia : IE} {p p2 pos : Pos} (hx : x = "isinstance") (hy : y = "tuple") (hK : X.K = B.K) (hg : Gl X x) (hm : X.mg x = none) (hg2 : Gl X y) (hm2 : X.mg y = none) (hc : ∀ c ∈ cs, ObjTy X.K (B.ca c)) (ha : SndE B X W e ia) (hs : noStar e = true) : SndE B X W (.Call (.Name x p) [e, .Name y p2] [] pos) (.isTO cs ia) := by
  subst hx
  have hvy : bootBuiltins y = some (.type "tuple") := by subst hy; decide +kernel
  have hty : PE X (.Name y p2) (tC (.ty "tuple")) := pe_bltn hg2 hm2 hvy rfl (by subst hy; decide +kernel) (by subst hy; decide +kernel)
  have hargs : PA X [e, .Name y p2] (tCons (tE B W true ia) (tCons (tC (.ty "tuple")) tNil)) := pa_cons (ha.pe true) (pa_cons hty pa_nil rfl) (starEach_of hs)
  have main : ∀ v, PE X (.Call (.Name "isinstance" p) [e, .Name y p2] [] pos) (tE B W v (.isTO cs ia)) := fun v => by
    refine (pe_callB call_isi hg hm PyProof.Rows.boot_isinstance hargs (by decide) (by decide) (starEach_of hs) (plainArgs (by rfl))).imp fun σ H Q h => ?_
    obtain ⟨S, env, rfl, ok, er, out⟩ := h
    have out' : Outs B S (pureI ia) (RV B v) (WE B W σ) ((ev true ia env S.ah).bind fun d h1 => isTR cs d h1) Q := out
    refine tE_use (p2 := true) ok er out' (fun z => ⟨z, rfl⟩) fun T d y ok1 l1 er1 h1 o1 => ?_
    obtain ⟨t1, t2, t3, t4, t5, t6⟩ := ty_of h1
    rw [← hK] at t1 t2 t3 t4 t5 t6
    have fin : ∀ {tn : String} {r : Bool}, TyX X.K T.H y (.type tn) → kitB tn "tuple" = some r → Outs B T true (RV B v) (WE B W σ) (.ok (.bl r) T.ah) Q → rIsi X.K [y, .ty "tuple"] T.H Q := fun {tn r} ty kt q => ⟨y, .ty "tuple", .type tn, .type "tuple", r, rfl, .ty "tuple", ty, L2.kit_ty kt, fin_rv ok1 (.bl _) q⟩
    cases d <;> first
      | exact fin (t1 rfl) (by decide +kernel) o1
      | exact fin (t2 _ rfl) (by decide +kernel) o1
      | exact fin (t3 _ rfl) (by decide +kernel) o1
      | exact fin (t4 _ rfl) (by decide +kernel) o1
      | exact fin (t5 _ rfl) (by decide +kernel) o1
      | exact fin (t6 _ rfl) (by decide +kernel) o1
      | skip
    · exact o1.elim
    · exact o1.elim
    · exact o1.elim
    · rename_i n
      have o1 : Outs B T true (RV B v) (WE B W σ) (match T.ah[n]? with
        | some (.ins c _) => if cs.contains c = true then .ok (.bl false) T.ah else .bad
        | _ => .bad) Q := o1
      have hr : T.R B (.ref n) y := by
        rcases (RV.view h1) with h | ⟨b, _, h⟩
        · exact h
        · cases h
      cases e1 : T.ah[n]? with
      | none => rw [e1] at o1; exact o1.elim
      | some ob =>
        rw [e1] at o1
        cases ob with
        | gone => exact o1.elim
        | box _ => exact o1.elim
        | ins c fs =>
          have o1 : Outs B T true (RV B v) (WE B W σ) (if cs.contains c = true then .ok (.bl false) T.ah else .bad) Q := o1
          by_cases cc : cs.contains c = true
          · rw [if_pos cc] at o1
            obtain ⟨a, dx, fs', rfl, _, hA, _⟩ := obj_at ok1 hr e1
            have F := hc c (by simpa using cc)
            exact ⟨.ref a, .ty "tuple", .ref (B.ca c), .type "tuple", false, rfl, .ty "tuple", .base (.ins hA F.cl F.ha F.hn F.htk F.hm), F.kt, fin_rv ok1 (.bl _) o1⟩
          · rw [if_neg cc] at o1; exact o1.elim
  exact .plain main rfl
/-! ### ranges downwards -/
theorem wk_rngD {S : WS} {v : Bool} {hi : Int} {n : Nat} (sz : n ≤ LIM) : Wk B (Itc hi (-1) n) S v (rngD hi n) := by
  have len : (rngD hi n).length = n := by simp [rngD]
  refine ⟨fun T i ok le d hd => ?_, fun T ok le => ?_, Nat.le_trans (Nat.le_of_eq len) sz⟩
  · have hi' : i < n := by rw [← len]; exact (List.getElem?_eq_some_iff.mp hd).1
    refine ⟨hi', fun x H' ⟨e, ex⟩ => ⟨T, e.symm, ok, .refl _ _, rfl, ?_⟩⟩
    subst ex
    have e2 : (rngD hi n)[i]? = some (.int (hi - (i : Nat))) := by simp [rngD, hi']
    rw [e2] at hd
    cases hd
    have : hi + (i : Nat) * (-1 : Int) = hi - (i : Nat) := by omega
    rw [this]
    exact .int _
  · show n ≤ _
    rw [len]; exact Nat.le_refl _
theorem fo3 {r : AV → V → Prop} {a b c : AV} {xs : List V} (h : Fo r [a, b, c] xs) : ∃ x y z, xs = [x, y, z] ∧ r a x ∧ r b y ∧ r c z := by
  cases h with
  | cons p h =>
    cases h with
    | cons q h =>
      cases h with
      | cons s h => cases h; exact ⟨_, _, _, rfl, p, q, s⟩
theorem sni_rng3 {x : Str} {tg e e2 e3 : Expr} {ia : IE} {p pos : Pos} (hx : x = "range") (hg : Gl X x) (hm : X.mg x = none) (ha : SndA B X W [e, e2, e3] ia) (hs : [e, e2, e3].all noStar = true) : SndI B X W tg (.Call (.Name x p) [e, e2, e3] [] pos) .rng3 ia := by
  subst hx
  have hs' : noStar e = true ∧ noStar e2 = true ∧ noStar e3 = true := by simpa using hs
  intro v
  have s2 := starEach_of (es := [e3]) (env := X.env) hs'.2.1
  have s3 := starEach_of (es := []) (env := X.env) hs'.2.2
  refine (pi_range3 hg hm (ha.pa v) (starEach_of hs'.1) (by rw [s2, s3]; rfl)).imp fun σ H Rr hh => ?_
  obtain ⟨S, env, rfl, ok, er, out⟩ := hh
  refine tA_use (p2 := true) ok er out (fun z => ⟨z, rfl⟩) fun T ds xs ok1 l1 er1 h1 o1 => ?_
  obtain ⟨l, rfl, hl⟩ := h1
  rw [itR_tup] at o1
  obtain ⟨m, e1, q⟩ := wk_fin ok1 o1
  match l, hl, e1 with
  | [.int i, .int j, .int k], hl, e1 =>
    obtain ⟨y1, y2, y3, rfl, hy, hz, hw⟩ := fo3 hl
    · · · cases (RV.view hy).int
          cases (RV.view hz).int
          cases (RV.view hw).int
          have e1 : (if k = -1 ∧ -(2 ^ 62) ≤ i ∧ i < 2 ^ 62 ∧ -(2 ^ 62) ≤ j ∧ j < 2 ^ 62 ∧ i - j ≤ LIM then some (rngD i (i - j).toNat) else none) = some m := e1
          by_cases c : k = -1 ∧ -(2 ^ 62) ≤ i ∧ i < 2 ^ 62 ∧ -(2 ^ 62) ≤ j ∧ j < 2 ^ 62 ∧ i - j ≤ LIM
          · rw [if_pos c] at e1
            cases e1
            obtain ⟨c0, c1, c2, c3, c4, c5⟩ := c
            subst c0
            refine ⟨i, j, -1, (i - j).toNat, rfl, RgC.neg c1 c2 c3 c4, q _ (wk_rngD ?_)⟩
            have hl : (LIM : Int) = 16777216 := rfl
            show (i - j).toNat ≤ 16777216
            omega
          · rw [if_neg c] at e1; cases e1
/-! ### a dict's keys, the dict under a name -/
structure SlD (B : Bs) (S : WS) (σ : L2.St) (i : Nat) (ks : List Key) (d : Addr) (kvs : List (Key × V)) : Prop where
  sl : σ[i]? = some (some (.ref d))
  w : S.w d = none
  rd : Rd S.H d (.dK kvs)
  ks : kvs.map (·.1) = ks
theorem slD_of {S : WS} {env : En} {σ : L2.St} {i : Nat} {h : AH} {ks : List Key} {vs : List AV} (er : ERep B S env σ) (q : ev false (.slz i) env S.ah = .ok (.dk ks vs) h) : h = S.ah ∧ ∃ d kvs, SlD B S σ i ks d kvs := by
  have q : slotV false env i S.ah = .ok (.dk ks vs) h := q
  unfold slotV at q
  cases e1 : env[i]? with
  | none => rw [e1] at q; cases q
  | some ofv =>
    rw [e1] at q
    cases ofv with
    | none => cases q
    | some fv =>
      cases fv with
      | own c => cases q
      | gone => cases q
      | exc _ => cases q
      | val dv =>
        have q : R.ok dv S.ah = .ok (.dk ks vs) h := q
        cases q
        obtain ⟨v, hv, hr⟩ := er.at_ i _ e1
        have hr : S.R B (.dk ks vs) v := hr
        cases hr with
        | dk e k t =>
          rename_i d kvs
          have hwd : S.w d = none := by
            rcases e with e | ⟨o, e⟩ <;> exact (WS.G_some e).1
          exact ⟨rfl, d, kvs, hv, hwd, rd_G e, k⟩
theorem slz_ok {v : Bool} {i : Nat} {env : En} {h : AH} : (∃ d, ev v (.slz i) env h = .ok d h) ∨ ev v (.slz i) env h = .bad := by
  show (∃ d, slotV false env i h = .ok d h) ∨ slotV false env i h = .bad
  unfold slotV
  cases env[i]? with
  | none => exact .inr rfl
  | some o => cases o with
    | none => exact .inr rfl
    | some fv => cases fv <;> first | exact .inr rfl | exact .inl ⟨_, rfl⟩
def LkS (σ : L2.St) (H : Hp) (i : Nat) : Prop := ∃ (d : Addr) (od : Obj) (kvs : List (Key × V)), σ[i]? = some (some (.ref d)) ∧ H d = some (.frz od (.dK kvs))
theorem pi_lkS {tg : Expr} {x : Str} {px : Pos} {i : Nat} {p : Bool} (hN : X.N[i]? = some x) (hv : Vis X.env.scope x) (hd : (x == ("__debug__" : Str)) = false) (hcd : (x == ("__classdict__" : Str)) = false) :
    PI X tg (.Name x px) (fun σ H R => tI B W p .keys (.cons (.slz i) .nil) σ H R ∧ LkS σ H i) := (pi_keys (pe_var hN hv hd hcd)).imp fun σ H R ⟨h, d, od, kvs, s1, s4⟩ => by
  obtain ⟨S, env, rfl, ok, er, out⟩ := h
  rw [it1] at out
  have out : Outs B S (pureI (.cons (.slz i) .nil)) (fun T l J => Wk B J T p l) (WE B W σ) ((ev false (.slz i) env S.ah).bind fun d h1 => okO (itemsA .keys [d]) h1) R := out
  rcases slz_ok (v := false) (i := i) (env := env) (h := S.ah) with ⟨dv, q⟩ | q
  · rw [q] at out
    cases dv <;> first | exact out.elim | skip
    rename_i ks vs
    obtain ⟨_, d', kvs', F⟩ := slD_of er q
    have e1 := F.sl
    rw [s1] at e1
    cases e1
    have e4 : kvs' = kvs := by
      rcases F.rd with e | ⟨o, e⟩
      · rw [s4] at e; cases e
      · rw [s4] at e; cases e; rfl
    subst e4
    obtain ⟨l, e5, q5⟩ := wk_fin ok out
    exact ⟨.ref d, s1, d, od, rfl, .inl ⟨kvs', s4, q5 _ (wk_keys F.w s4 F.ks e5)⟩⟩
  · rw [q] at out; exact out.elim
/-- what is asked of a comprehension over a dict's keys, the dict under a name -/
structure LcSOk (B : Bs) (X : Cx) (elt tg : Expr) (ifs : List Expr) (scope : Scope) (own : List (Str × Nat)) (t g : IE) (tgi : Tg) (x : Str) (i : Nat) : Prop where
  hNx : X.N[i]? = some x
  hv : Vis X.env.scope x
  hd : (x == ("__debug__" : Str)) = false
  hcd : (x == ("__classdict__" : Str)) = false
  hc : X.calm = true
  hN : X.N.Nodup
  bo : BlkOk X.N X.env.scope scope own
  hg : ∀ (s : Shared) (H : Hp) (C : Addr) (cl : List (Str × Addr)) (fp : List Addr), PG (X.blk s H scope (compEnvC scope cl C X.env) fp) tg (tgR X.K tgi)
  ht : ∀ (s : Shared) (H : Hp) (C : Addr) (cl : List (Str × Addr)) (fp : List Addr), SndT B (X.blk s H scope (compEnvC scope cl C X.env) fp) W0 ifs t
  he : ∀ (s : Shared) (H : Hp) (C : Addr) (cl : List (Str × Addr)) (fp : List Addr), SndE B (X.blk s H scope (compEnvC scope cl C X.env) fp) W0 elt g
  ho : ∀ i ∈ tgIx tgi, i ∈ own.map (·.2)
  hpt : pureI t = true
  hpg : pureI g = true
def tLcS (B : Bs) (X : Cx) (W : WX) (own : List (Str × Nat)) (t g : IE) (tgi : Tg) (i : Nat) : TE := tLc (fun σ H R => tI B W (pureI t && pureI g) .keys (.cons (.slz i) .nil) σ H R ∧ LkS σ H i) (tgR X.K tgi) (tB (tE B W0 true t)) (tE B W0 false g) (own.map (·.2))
section
variable {elt tg : Expr} {ifs : List Expr} {scope : Scope} {own : List (Str × Nat)} {pos px : Pos} {t g : IE} {tgi : Tg} {x : Str} {i : Nat}
theorem lcS_read (hK : X.K = B.K) (o : LcSOk B X elt tg ifs scope own t g tgi x i) (v : Bool) (σ : L2.St) (H : Hp) (Q : VK) (h : tE B W v (.comp .keys (.cons (.slz i) .nil) tgi t g (own.map (·.2))) σ H Q) :
    tLcS B X W own t g tgi i σ H Q ∨ ∃ d u, H d = some u ∧ Mut (some u) ∧ ∀ od, tLcS B X W own t g tgi i σ (upd H d (.frz od u)) fun x H' => H' d = some (.frz od u) ∧ Q x (upd H' d u) := by
  have hpt := o.hpt
  have hpg := o.hpg
  have h0 := h
  obtain ⟨S, env, rfl, ok, er, out⟩ := h
  have pu : pureI (.comp .keys (.cons (.slz i) .nil) tgi t g (own.map (·.2))) = true := by
    show ((true && true) && (pureI t && pureI g)) = true
    rw [hpt, hpg]; rfl
  have ee : ev v (.comp .keys (.cons (.slz i) .nil) tgi t g (own.map (·.2))) env S.ah = ((ev (pureI t && pureI g) (.cons (.slz i) .nil) env S.ah).bind (itR .keys)).bind fun l h1 => noExc (compL (fun x => setTg tgi x (wipeE env (own.map (·.2)))) (ev true t) (ev false g) l h1) := rfl
  rw [ee, it1] at out
  have e1 : ev (pureI t && pureI g) (.slz i) env S.ah = ev false (.slz i) env S.ah := rfl
  rw [e1] at out
  rcases slz_ok (v := false) (i := i) (env := env) (h := S.ah) with ⟨dv, q⟩ | q
  · rw [q] at out
    cases dv <;> first | exact out.elim | skip
    rename_i ks vs
    obtain ⟨_, d, kvs, F⟩ := slD_of er q
    rcases F.rd with e | ⟨oo, e⟩
    · right
      refine ⟨d, .dK kvs, e, trivial, fun od => ?_⟩
      have gL := lock_G (o := od) F.w e (show isDK (.dK kvs) from trivial)
      have gL : LkR S.G (S.put d (.frz od (.dK kvs))).G := gL
      have ok' : (S.put d (.frz od (.dK kvs))).Ok B := lk_ok ok F.w gL (fun _ z => nomatch z) (fun _ z => nomatch z)
      have er' := lk_er er F.w gL
      have h' : tE B W v (.comp .keys (.cons (.slz i) .nil) tgi t g (own.map (·.2))) σ (upd S.H d (.frz od (.dK kvs))) (fun x H' => H' d = some (.frz od (.dK kvs)) ∧ Q x (upd H' d (.dK kvs))) := by
        refine ⟨S.put d (.frz od (.dK kvs)), env, rfl, ok', er', ?_⟩
        show Outs B _ _ _ _ (ev v _ env S.ah) _
        rw [ee, it1, e1, q, pu]
        rw [pu] at out
        have out : Outs B S true (RV B v) (WE B W σ) ((okO (keyAs ks) S.ah).bind fun l h1 => noExc (compL (fun x => setTg tgi x (wipeE env (own.map (·.2)))) (ev true t) (ev false g) l h1)) Q := out
        show Outs B (S.put d (.frz od (.dK kvs))) true (RV B v) (WE B W σ) ((okO (keyAs ks) S.ah).bind fun l h1 => noExc (compL (fun x => setTg tgi x (wipeE env (own.map (·.2)))) (ev true t) (ev false g) l h1)) _
        cases qk : keyAs ks with
        | none => rw [qk] at out; exact out.elim
        | some l =>
          rw [qk] at out
          have out : Outs B S true (RV B v) (WE B W σ) (noExc (compL (fun x => setTg tgi x (wipeE env (own.map (·.2)))) (ev true t) (ev false g) l S.ah)) Q := out
          show Outs B (S.put d (.frz od (.dK kvs))) true (RV B v) (WE B W σ) (noExc (compL (fun x => setTg tgi x (wipeE env (own.map (·.2)))) (ev true t) (ev false g) l S.ah)) _
          rcases noExc_ok (compL (fun x => setTg tgi x (wipeE env (own.map (·.2)))) (ev true t) (ev false g) l S.ah) with ⟨m, h2, q2⟩ | q2
          · rw [q2] at out ⊢
            intro T okT eT lT x hx
            obtain ⟨w1, h1, le1⟩ := unlock_le (o := od) F.w e (show isDK (.dK kvs) from trivial) lT
            have gU := unlock_G w1 h1 (show isDK (.dK kvs) from trivial)
            exact ⟨h1, out (T.put d (.dK kvs)) (lk_ok okT w1 gU (fun _ z => nomatch z) (fun _ z => nomatch z)) eT le1 x (lk_rv h1 gU hx)⟩
          · rw [q2] at out; exact out.elim
      exact ⟨lc_read hK o.ho _ _ _ h', d, od, kvs, F.sl, upd_same⟩
    · left
      exact ⟨lc_read hK o.ho _ _ _ h0, d, oo, kvs, F.sl, e⟩
  · rw [q] at out; exact out.elim
theorem snd_lcS (hK : X.K = B.K) (o : LcSOk B X elt tg ifs scope own t g tgi x i) : SndE B X W (.ListComp elt [⟨tg, .Name x px, ifs, 0⟩] scope pos) (.comp .keys (.cons (.slz i) .nil) tgi t g (own.map (·.2))) := by
  have base : PE X (.ListComp elt [⟨tg, .Name x px, ifs, 0⟩] scope pos) (tLcS B X W own t g tgi i) := pe_lc (pos := pos) o.hc o.hN (pi_lkS (B := B) (W := W) (tg := tg) (px := px) (p := pureI t && pureI g) o.hNx o.hv o.hd o.hcd) o.bo o.hg (fun s H C cl fp => (o.ht s H C cl fp).pts) (fun s H C cl fp => (o.he s H C cl fp).pe false) (fun _ => rfl)
  exact .plain (fun v => (base.or (pe_lock base)).imp fun σ H Q h => lcS_read hK o v σ H Q h) rfl
theorem sns_setLcS {j : Nat} {y : Str} {py spos : Pos} (hK : X.K = B.K) (hy : X.N[j]? = some y) (hyl : X.env.scope.names.lookup y = some .local) (hsw : swapsWith (.ListComp elt [⟨tg, .Name x px, ifs, 0⟩] scope pos) (some (.Name y py)) spos.line X.env = pure true)
    (o : LcSOk B X elt tg ifs scope own t g tgi x i) : SndS B X W (.Assign [.Name y py] (.ListComp elt [⟨tg, .Name x px, ifs, 0⟩] scope pos) spos) (.asg (.nm j) (.comp .keys (.cons (.slz i) .nil) tgi t g (own.map (·.2)))) := by
  have base : PS X (.Assign [.Name y py] (.ListComp elt [⟨tg, .Name x px, ifs, 0⟩] scope pos) spos) (tAsg (tLcS B X W own t g tgi i) (gName j)) := ps_setLc o.hc o.hN hy hyl hsw (pi_lkS (B := B) (W := W) (tg := tg) (px := px) (p := pureI t && pureI g) o.hNx o.hv o.hd o.hcd) o.bo o.hg (fun s H C cl fp => (o.ht s H C cl fp).pts) (fun s H C cl fp => (o.he s H C cl fp).pe false) (fun _ => rfl)
  exact (base.or (ps_lock base)).imp fun D σ H h => lcS_read hK o false σ H _ (asg_read (tg := .nm j) hK D σ H h)
end
/-! ### return (m.pop(k), m) if .. else .. -/
theorem free_leS {S : WS} {b : Addr} {i : Nat} (hb : S.w b = some (.slot i)) : S.leS (S.free b) := by
  have ne : ∀ a x, S.w a = some x → x ≠ .slot i → a ≠ b := fun a x e n z => by rw [z, hb] at e; exact n (Option.some.inj e).symm
  have keep : ∀ a x, S.w a = some x → x ≠ .slot i → (S.free b).w a = some x := fun a x e n => (if_neg (ne a x e n)).trans e
  exact ⟨fun a n e => keep a _ e (fun z => (nomatch z)), free_G, fun a e => ⟨keep a _ e (fun z => (nomatch z)), rfl⟩⟩
theorem sns_retPop {i : Nat} {m : Str} {t k b : Expr} {it ik ib : IE} {p1 p2 pa pc pt pf pos : Pos} {x1} (hN : X.N[i]? = some m) (hv : Vis X.env.scope m) (hd : (m == ("__debug__" : Str)) = false) (hcd : (m == ("__classdict__" : Str)) = false)
    (hbp : attributeBase (.Name m p1) "pop" X.env (eval (.Name m p1) X.env) = eval (.Name m p1) X.env) (hline : (pa.endLine == pc.line) = true) (hs : noStar k = true) (ht : SndE B X W t it) (hk : SndE B X W k ik) (hb : SndE B X W b ib) :
    SndS B X W (.Return (some (.IfExp t (.Tuple [.Call (.Attribute (.Name m p1) "pop" pa) [k] [] pc, .Name m p2] x1 pt) b pf)) pos) (.retPop it i ik ib) := by
  have hvar : ∀ q, PE X (.Name m q) (tVar i) := fun q => pe_var hN hv hd hcd
  have htup : PE X (.Tuple [.Call (.Attribute (.Name m p1) "pop" pa) [k] [] pc, .Name m p2] x1 pt) (tTup (tCons (tDPop1 (tVar i) (tE B W false ik)) (tCons (tVar i) tNil))) :=
    pe_tup (pa_cons (pe_dpop1 (hvar p1) (hk.pe false) (m1_of hbp hline hs)) (pa_cons (hvar p2) pa_nil rfl) rfl)
  refine (ps_ret (pe_ifExp ht.pt htup (hb.pe false))).imp fun D σ H h => ?_
  obtain ⟨S, env, rfl, ok, er, out⟩ := h
  have out : OutS B W S D ((ev true it env S.ah).thn env fun x h1 => match x with
    | .bl true => (match ownC env i with
      | some (.dk ks vs) => (ev false ik env h1).thn env fun y h2 => (match popV (.dk ks vs) y with
        | some p => .ret (.tup [p.1, p.2]) h2
        | none => .bad)
      | _ => .bad)
    | .bl false => (ev false ib env h1).thn env fun d h2 => .ret d h2
    | _ => .bad) := out
  refine tE_s ok er out fun T d x ok1 l1 er1 h1 o1 => ?_
  cases d <;> first | exact o1.elim | skip
  rename_i kb
  refine ⟨kb, bl_rv h1, ?_⟩
  cases kb with
  | false =>
    show tE B W false ib σ T.H _
    exact tE_s ok1 er1 o1 fun U d y ok2 l2 er2 h2 o2 => o2 U y ok2 rfl (.refl U) h2
  | true =>
    have o1 : OutS B W T D (match ownC env i with
      | some (.dk ks vs) => (ev false ik env T.ah).thn env fun y h2 => (match popV (.dk ks vs) y with
        | some p => .ret (.tup [p.1, p.2]) h2
        | none => .bad)
      | _ => .bad) := o1
    cases q : ownC env i with
    | none => rw [q] at o1; exact o1.elim
    | some c =>
      rw [q] at o1
      have q' := ownC_of q
      have hi : i < env.length := (List.getElem?_eq_some_iff.mp q').1
      obtain ⟨bb, hσ, hb1, hc1⟩ := own_c er1 q'
      cases c with
      | dk ks vs =>
        rw [if_pos rfl]
        refine ⟨.ref bb, hσ, bb, rfl, ?_, ?_⟩
        · cases hc1 with
          | dk e _ _ => exact .inl ⟨_, .inl e⟩
        · refine tE_s ok1 er1 o1 fun U kd z ok2 l2 er2 h2 o2 => ?_
          obtain ⟨b2, hσ2, hb2, hc2⟩ := own_c er2 q'
          rw [hσ] at hσ2
          cases hσ2
          have o2 : OutS B W U D (match popV (.dk ks vs) kd with | some p => .ret (.tup [p.1, p.2]) U.ah | none => .bad) := o2
          cases qp : popV (.dk ks vs) kd with
          | none => rw [qp] at o2; exact o2.elim
          | some p =>
            rw [qp] at o2
            have qp : ((keyOf kd).bind fun z => (lookK ks vs z).bind fun v => (popA (.dk ks vs) kd).map fun c' => (v, c')) = some p := qp
            obtain ⟨kk, e1, qp⟩ := Option.bind_eq_some_iff.mp qp
            obtain ⟨v, e2, qp⟩ := Option.bind_eq_some_iff.mp qp
            obtain ⟨c', e3, qp⟩ := Option.map_eq_some_iff.mp qp
            subst qp
            obtain ⟨kvs, k', vv, a1, a2, a3, a4⟩ := pop_d hb2 hc2 h2 e3
            have ek : kV kk = kV k' := (key_v e1 (.inl h2)).symm.trans a2
            have ek : kk = k' := by
              cases kk <;> cases k' <;> first | (cases ek; rfl) | cases ek
            subst ek
            refine ⟨kvs, kk, vv, a1, a2, a3, ?_⟩
            have hrv : U.R B v vv := by
              cases hc2 with
              | dk e kq t =>
                rw [a1] at e
                cases e
                have := look_val kk (reps_fo t)
                rw [kq, e2, a3] at this
                cases this with
                | some z => exact z
            let U1 := U.put bb (.dK (dropK kvs kk))
            have okU1 : U1.Ok B := chg_ok ok2 hb2 (fun _ e => by cases e) (fun _ _ e => by cases e) (fun _ e => by cases e) (fun _ e => by cases e) (fun _ _ e => by cases e)
            have hw1 : U1.w bb = some (.slot i) := hb2
            let U2 := U1.free bb
            have okU2 : U2.Ok B := free_ok okU1 hw1 (fun _ z => nomatch z) (fun _ _ z => nomatch z)
            have hv2 : U2.R B v vv := free_rep hw1 (fun _ z => nomatch z) (chg_rep hb2 hrv)
            have ob : ∀ a n, U1.w a = some (.obj n) → U2.w a = some (.obj n) := fun a n e => by
              have : a ≠ bb := fun z => by rw [z, hw1] at e; cases e
              exact (if_neg this).trans e
            have hc' : U2.R B c' (.ref bb) := by
              cases a4 with
              | lst q t => exact .lst (free_at q) (Reps.mono ob free_G t)
              | dk q k t => exact .dk (.inl (free_at q)) k (Reps.mono ob free_G t)
              | dt q k t => exact .dt (.inl (free_at q)) k (Reps.mono ob free_G t)
            have le2 : U.leS U2 := (chg_leS hb2).trans (free_leS hw1)
            refine ⟨.ref bb, hσ, ?_⟩
            refine ⟨by show 2 ≤ _; unfold sizeLine; decide, fun p hp => ?_⟩
            have hp2 : U2.H p = none := hp
            have hrs : U2.Rs B [v, c'] [vv, .ref bb] := .cons hv2 (.cons hc' .nil)
            exact o2 (U2.put p (.tup [vv, .ref bb])) (.ref p) (put_ok okU2 hp2 (fun _ e => by cases e) (fun ys e => by cases e; show 2 ≤ 16777216; omega) (fun _ _ e => by cases e)) rfl (le2.trans (put_le okU2 hp2 true).s) (.tup (put_at okU2 hp2) ((put_le (o := .tup [vv, .ref bb]) okU2 hp2 true).repsI (fo_reps hrs)))
      | _ => exact o1.elim
end
end Ab

set_option autoImplicit false
set_option maxHeartbeats 4000000
/-! AbQ2: methods that tell new lists; something put behind what they tell. -/
namespace Ab
open PySem PySem.Spec PyProof.Rows L2
section
variable {B : Bs} {X : Cx} {W : WX} {D : Ends}
/-- the promise of a def that makes a new container -/
def spN (B : Bs) (F : Sem) (ar : Nat) : Sp := fun vs H Q E => vs.length = ar ∧ ∃ (S : WS) (args : List AV), S.H = H ∧ S.Ok B ∧ (∀ b i, S.w b ≠ some (.slot i)) ∧ S.Rs B args vs ∧ Outs B S false (RN B S) (fun c H' => E (.ref (B.xa c)) none H') ((F args S.ah).bind ownR) Q
theorem up_cont {S T : WS} (l : S.down.le false T) {d : AV} {b : Addr} (h : T.C B d b) : (S.up T).C B d b := by
  have e : (S.up T).G = T.G := G_eq (S := T) (T := S.up T) rfl (up_none l)
  have ob : ∀ a n, T.w a = some (.obj n) → (S.up T).w a = some (.obj n) := fun a n e => (up_obj l a n).mp e
  have sm : Same T.G (S.up T).G := by rw [e]; exact Same.refl _
  cases h with
  | lst q t => exact .lst q (Reps.mono ob sm t)
  | dk q k t => exact .dk q k (Reps.mono ob sm t)
  | dt q k t => exact .dt q k (Reps.mono ob sm t)
theorem call_spN {F : Sem} {S : WS} {args : List AV} {vs : List V} {p : Bool} {σ : L2.St} {Q : VK} (ok : S.Ok B) (h : S.Rs B args vs) (out : Outs B S p (RN B S) (WE B W σ) ((F args S.ah).bind ownR) Q) (hp : p = false) :
    spN B F vs.length vs S.H Q (fun c d H => W c d σ H) := by
  subst hp
  refine ⟨rfl, S.down, args, rfl, down_ok ok, fun b i e => dnw_slot e, h.imp fun _ _ q => down_rep q, ?_⟩
  show Outs B S.down false _ _ ((F args S.ah).bind ownR) Q
  cases q : (F args S.ah).bind ownR with
  | bad => rw [q] at out; exact out
  | exc c ah =>
    rw [q] at out
    intro T okT e l
    exact out (S.up T) (up_ok l okT) e (up_le l)
  | ok d ah =>
    rw [q] at out
    intro T okT e l x hx
    obtain ⟨a, rfl, h1, h2, h3⟩ := hx
    have n1 : S.w a ≠ some .out := fun z => h1 (by show dnw (S.w a) = _; rw [z]; rfl)
    have n2 : ∀ i, S.w a ≠ some (.slot i) := fun i z => h1 (by show dnw (S.w a) = _; rw [z]; rfl)
    refine out (S.up T) (up_ok l okT) e (up_le l) (.ref a) ⟨a, rfl, n1, ?_, up_cont l h3⟩
    show upw (S.w a) (T.w a) = _
    rw [upw_of n2]; exact h2
structure MethNOk (B : Bs) (P : Program) (w : World) (K : PySem.W.Frag) (mg : Str → Option Value) (base : Heap) (k : Nat) (m : Str) (ar c : Nat) (F : Sem) : Prop where
  cls : Cls K (B.ca c)
  ex : ∃ (f : Addr) (fd : FuncData) (ps : List Str) (kf : Nat), ps.length = ar ∧ kf ≤ k ∧ FnOk P w K mg base (L2.CX P w) kf f fd ps (spN B F ar) ∧ Meth K (B.ca c) m f ∧ Binds K fd ps []
def tMethN (B : Bs) (W : WX) (m : Str) (c : Nat) (F : Sem) (io ia : IE) : TE := fun σ H Q => ∃ (S : WS) (env : En), S.H = H ∧ S.Ok B ∧ ERep B S env σ ∧ Outs B S false (RN B S) (WE B W σ) (appR m c F io ia env S.ah) Q
theorem methN_one {o : Expr} {m : Str} {es : List Expr} {io ia : IE} {k ar c : Nat} {F : Sem} {apos pos : Pos} (hb : noSuper o = true) (hln : lineOk apos pos es = true) (M : MethNOk B X.prog X.w X.K X.mg X.base k m ar c F) (hr : Room k X.A) (tk : Takes X W) (ho : SndE B X W o io) (ha : SndA B X W es ia) (hs : es.all noStar = true) (hl : argsN ia = some es.length) (hal : es.length + 1 = ar) :
    PE X (.Call (.Attribute o m apos) es [] pos) (tMethN B W m c F io ia) := by
  obtain ⟨f, fd, ps, kf, e1, e2, FO, hm, hbi⟩ := M.ex
  have hx : ∀ σ, PassesAt (L2.CX X.prog X.w) X σ (fun cls d H => W cls d σ H) := fun σ => passAt tk σ
  have rn : ∀ {S U : WS}, S.le false U → ∀ {d : AV} {x : V} {T : WS}, RN B U T d x → RN B S T d x := fun {S U} l {d x T} ⟨a, e, h1, h2, h3⟩ => ⟨a, e, fun z => h1 (l.outs a z).1, h2, h3⟩
  have wk : ∀ {S U : WS} {p : Bool} {r : Ab.R AV} {E : Nat → Hp → Prop} {Q : VK}, S.le false U → Outs B U p (RN B S) E r Q → Outs B U p (RN B U) E r Q := fun {S U p r E Q} l out => by
    cases r with
    | ok d ah => exact fun T okT e lT x hx => out T okT e lT x (rn l hx)
    | exc c ah => exact out
    | bad => exact out
  have body : ∀ σ H Q, tMethN B W m c F io ia σ H Q → tMethS (B.ca c) m (spN B F ar) (fun σ c d H => W c d σ H) (tE B W false io) (tA B W false ia) σ H Q := fun σ H Q h => by
    obtain ⟨S, env, rfl, ok, er, out⟩ := h
    unfold appR at out
    refine tE_use (p2 := false) ok er out (fun z => nomatch z) fun T d x ok1 l1 er1 h1 o1 => ?_
    cases q : methOf m [(c, F)] d T.ah with
    | none => rw [q] at o1; exact o1.elim
    | some G =>
      rw [q] at o1
      obtain ⟨n, fs, rfl, e3, e4, rfl⟩ := methOf1 q
      obtain ⟨a, dx, fs', rfl, hw, hA, hf⟩ := obj_at ok1 h1 e3
      refine ⟨a, dx, fs', rfl, hA, frs_none hf e4, ?_⟩
      refine tA_useE (p2 := false) ok1 er1 o1 (fun z => nomatch z) fun U ds xs ok2 l2 er2 h2 e5 o2 => ?_
      obtain ⟨l, rfl, hl'⟩ := h2
      have len : xs.length = es.length := by rw [← hl'.len]; exact args_len hl e5
      have hr2 : U.Rs B (.ref n :: l) (.ref a :: xs) := .cons (l2.rep h1) hl'
      have hlen : (V.ref a :: xs).length = ar := by rw [List.length_cons, len]; exact hal
      rw [← hlen]
      exact call_spN ok2 hr2 (wk ((l1.trans (r := false) l2 fun z => nomatch z)) o2) rfl
  cases es with
  | cons e es => exact (pe_methA hb hln (ho.pe false) M.cls hm FO (hr.mono e2) hbi hx (ha.pa false) hs).imp body
  | nil =>
    have e0 : ia = .nil := by
      cases ia <;> first | rfl | (cases hl; done) | skip
      rename_i a r
      have hl : (argsN r).map (· + 1) = some 0 := hl
      cases q : argsN r with
      | none => rw [q] at hl; cases hl
      | some j => rw [q] at hl; cases hl
    subst e0
    refine (pe_methA0 hb hln (ho.pe false) M.cls hm FO (hr.mono e2) hbi hx).imp fun σ H Q h => ?_
    obtain ⟨S, env, rfl, ok, er, out⟩ := h
    unfold appR at out
    refine tE_use (p2 := false) ok er out (fun z => nomatch z) fun T d x ok1 l1 er1 h1 o1 => ?_
    cases q : methOf m [(c, F)] d T.ah with
    | none => rw [q] at o1; exact o1.elim
    | some G =>
      rw [q] at o1
      obtain ⟨n, fs, rfl, e3, e4, rfl⟩ := methOf1 q
      obtain ⟨a, dx, fs', rfl, hw, hA, hf⟩ := obj_at ok1 h1 e3
      refine ⟨a, dx, fs', rfl, hA, frs_none hf e4, ?_⟩
      have hr2 : T.Rs B [.ref n] [.ref a] := .cons h1 .nil
      have hlen : ([V.ref a] : List V).length = ar := hal
      rw [← hlen]
      exact call_spN ok1 hr2 (wk (l1.trans (r := false) (.refl false T) fun z => nomatch z) o1) rfl
theorem out_erep {S : WS} {e : En} {σ : L2.St} {b : Addr} {o : HO} (er : ERep B S e σ) (hb : S.w b = some .out) : ERep B (S.put b o) e σ := by
  refine ⟨er.len, fun j fv q => ?_⟩
  obtain ⟨v, h1, h2⟩ := er.at_ j fv q
  refine ⟨v, h1, ?_⟩
  cases fv with
  | val d => exact chg_rep hb h2
  | gone => exact trivial
  | exc _ => exact h2
  | own c =>
    obtain ⟨b', rfl, hb', hc'⟩ := h2
    exact ⟨b', rfl, hb', chg_cont hb (fun y => by rw [y, hb] at hb'; cases hb') hc'⟩
theorem sns_appN {o a : Expr} {m : Str} {es : List Expr} {io ia ie : IE} {k ar c : Nat} {F : Sem} {apos cpos apos2 cpos2 pos : Pos} (hb : noSuper o = true) (hln : lineOk apos cpos es = true) (M : MethNOk B X.prog X.w X.K X.mg X.base k m ar c F) (hr : Room k X.A) (tk : Takes X W) (ho : SndE B X W o io) (ha : SndA B X W es ia) (hs : es.all noStar = true) (hl : argsN ia = some es.length) (hal : es.length + 1 = ar)
    (hbc : noSuper (.Call (.Attribute o m apos) es [] cpos) = true) (h : SndE B X W a ie) (hsa : noStar a = true) (hline : (apos2.endLine == cpos2.line) = true) :
    SndS B X W (.Expr (.Call (.Attribute (.Call (.Attribute o m apos) es [] cpos) "append" apos2) [a] [] cpos2) pos) (.appN m c F io ia ie) := by
  have hpe : PE X (.Call (.Attribute (.Call (.Attribute o m apos) es [] cpos) "append" apos2) [a] [] cpos2) (tBM X.K "list" rAppend (tMethN B W m c F io ia) (tCons (tE B W false ie) tNil)) :=
    pe_bm PySem.F.plainAttrs_list PySem.F.slot_list_append PySem.F.type_list_append mt_append (methN_one hb hln M hr tk ho ha hs hl hal) (pa_cons (h.pe false) pa_nil (starEach_of hsa)) (base_of hbc) (by rw [starEach_of hsa]; rfl) hline (starEach_of hsa) (plainArgs (by rfl))
  refine (ps_expr hpe rfl).imp fun D σ H h => ?_
  obtain ⟨S, env, rfl, ok, er, out⟩ := h
  have out : OutS B W S D ((appR m c F io ia env S.ah).thn env fun d h1 => match d with
    | .lst l => (ev false ie env h1).thn env fun _ h2 => if l.length < LIM then .nx env h2 else .bad
    | _ => .bad) := out
  refine ⟨S, env, rfl, ok, er, OutS.thn' out er fun T d x ok1 l1 h1 o1 => ?_⟩
  obtain ⟨b, rfl, n1, hb1, hc1⟩ := h1
  cases hc1 with
  | dk _ _ _ => exact o1.elim
  | dt _ _ _ => exact o1.elim
  | lst q t =>
    rename_i l xs
    have o1 : OutS B W S D ((ev false ie env T.ah).thn env fun _ h2 => if l.length < LIM then .nx env h2 else .bad) := o1
    have er1 := er.mono l1
    refine ⟨.inl ⟨rfl, xs, SqL.of q⟩, ?_⟩
    refine ⟨T, env, rfl, ok1, er1, OutS.thn2 o1 l1.s er1 fun U d2 y ok2 l2 h2 o2 => ?_⟩
    obtain ⟨k1, k2⟩ := l2.outs b hb1
    have o2 : OutS B W S D (if l.length < LIM then .nx env U.ah else .bad) := o2
    by_cases c : l.length < LIM
    · rw [if_pos c] at o2
      have sz : xs.length < LIM := by rw [← (reps_fo t).len]; exact c
      refine ⟨b, xs, y, rfl, rfl, k2.trans q, by rw [← LIM_line]; exact sz, ?_⟩
      have l02 : S.leS U := l1.s.trans l2.s
      refine o2 (U.put b (.lst (xs ++ [y]))) σ (chg_ok ok2 k1 (fun _ e => by cases e) (fun _ _ e => by cases e) (fun ys e => by cases e; rw [List.length_append]; simp; omega) (fun _ e => by cases e) (fun _ _ e => by cases e)) rfl ?_ (out_erep (er1.mono l2) k1)
      refine ⟨l02.objs, fun a o e => ?_, fun a e => ?_⟩
      · rw [chg_G k1]; exact l02.same a o e
      · obtain ⟨e1, e2⟩ := l02.outs a e
        have na : a ≠ b := fun z => n1 (by rw [← z]; exact e)
        exact ⟨e1, (upd_ne na).trans e2⟩
    · rw [if_neg c] at o2; exact o2.elim
/-! ### sorted(d) is a new list -/
theorem snn_srt {x : Str} {e : Expr} {ia : IE} {p pos : Pos} (hx : x = "sorted") (hcalm : X.calm = true) (hK : X.K = B.K) (hr : X.A.units + 65 < cLine) (hg : Gl X x) (hm : X.mg x = none) (ha : SndA B X W [e] ia) (hs : [e].all noStar = true) : SndN B X W (.Call (.Name x p) [e] [] pos) (.bi .srt ia) := by
  subst hx
  have hs' : noStar e = true := by simpa using hs
  refine ⟨(pe_callB ((cr_srtD hr).or (call_sortedD hcalm)) hg hm (by decide +kernel) (ha.pa true) (by decide) (by decide) (starEach_of hs') (plainArgs (by rfl))).imp fun σ H Q h => ?_⟩
  obtain ⟨S, env, rfl, ok, er, out⟩ := h
  have e1 : (ev false (.bi .srt ia) env S.ah).bind ownR = (ev true ia env S.ah).bind fun ds h1 => (match ds with | .tup l => doBi .srt l h1 | _ => .bad : Ab.R AV).bind ownR := by
    show R.bind (R.bind (ev true ia env S.ah) _) _ = _
    cases ev true ia env S.ah <;> rfl
  rw [e1] at out
  refine tA_use (p2 := true) ok er out (fun z => ⟨z, rfl⟩) fun T ds xs ok1 l1 er1 h1 o1 => ?_
  obtain ⟨l, rfl, hl⟩ := h1
  refine Ab.l1 hl (fun e => by subst e; exact o1.elim) (fun d y e e2 hy => ?_) fun d d' r e => by subst e; cases d <;> exact o1.elim
  subst e e2
  replace hy := RV.view hy
  cases d <;> first | exact o1.elim | skip
  rotate_left
  · rename_i ks vs
    have o1 : Outs B T true (RN B S) (WE B W σ) ((okO (srtK ks) T.ah).bind ownR) Q := o1
    cases q : srtK ks with
    | none => rw [q] at o1; exact o1.elim
    | some c =>
      rw [q] at o1
      unfold srtK at q
      cases q1 : strKs ks with
      | none => rw [q1] at q; cases q
      | some ss =>
        rw [q1] at q
        simp only at q
        by_cases c2 : ss.length < 64
        · rw [if_pos c2] at q
          cases q
          obtain ⟨a, rfl⟩ := view_ref hy trivial
          obtain ⟨kvs, k1, k2, k3⟩ := dget_k hy (.inl 0)
          obtain ⟨hk, hok⟩ := strKs_of q1
          refine .inr ⟨a, kvs, ss, rfl, k1, k2.trans hk, c2, fun ys p hp hs hn => ?_⟩
          have e : ys = ss.mergeSort leS := srt_uniq hp hs
          subst e
          refine fin_lstN ok1 l1 hn ?_ (strs_rsM fun q hq => hok q (List.mem_mergeSort.mp hq)) o1
          rw [List.length_map, List.length_mergeSort]
          exact Nat.le_trans (Nat.le_of_lt c2) (by decide)
        · rw [if_neg c2] at q; cases q
  left
  rename_i l
  have o1 : Outs B T true (RN B S) (WE B W σ) ((okO ((srtA l).map AV.lst) T.ah).bind ownR) Q := o1
  cases q : srtA l with
  | none => rw [q] at o1; exact o1.elim
  | some m =>
    rw [q] at o1
    obtain ⟨ds, h1, h2, h3, rfl⟩ := srtA_of q
    obtain ⟨a, ys, rfl, hA, hrs⟩ := hy.lst
    obtain ⟨k1, k2, k3⟩ := dps_of h1 hrs
    rw [hK]
    have hl : ys.length = ds.length := by rw [← hrs.len, k3]
    refine ⟨a, ys, ds, rfl, SqL.of hA, k1, hl, h2, h3, fun d hd => Nat.le_trans (k2 d hd) (by decide), fun p hp => fin_lstN ok1 l1 hp ?_ (srt_rs h1 hrs) o1⟩
    rw [List.length_map, List.length_mergeSort, List.length_zip]
    have := ok1.szl a ys hA
    omega
end
end Ab

set_option autoImplicit false
set_option maxHeartbeats 4000000
/-! AbJ: from the text to the compiled form. -/
namespace Ab
open PySem PySem.Spec PyProof.Rows L2

/-! ### what is known of the names -/
structure Tab where
  fns : List (Str × Sem × Nat)
  kInt : List (Str × Int)
  kStr : List (Str × Str)
  blts : List Str
  /-- statements (line, column) whose value the name owns; ahead of which slots are frozen -/
  owns : List (Nat × Nat)
  frz : List ((Nat × Nat) × List Nat)
  /-- ahead of which statements a field's container is let go: the slot of the object, the field -/
  ffz : List ((Nat × Nat) × List (Nat × Str))
  /-- class numbers, field names; classes by name (number, __init__, its arity); methods by name (arity, by class) -/
  cids : List Nat
  flds : List Str
  clsl : List (Str × Nat × Sem × Nat)
  mths : List (Str × Nat × List (Nat × Sem))
  /-- errors by name; what a clause catches, of all -/
  excs : List (Str × Nat)
  hnds : List (Str × List Nat)
  xall : List Nat
  /-- where an exception is handled: classes that isinstance is asked with (of which errors), defs that get the exception -/
  hot : Bool
  xis : List (Str × List Nat)
  fnx : List (Str × (Nat → AH → Ab.R AV))
  /-- {} at these places: to be a dict whose keys are tuples -/
  dts : List (Nat × Nat)
  /-- fields that hold dicts whose keys are walked -/
  dfl : List Str
  /-- classes whose objects isinstance is asked about; names of dicts whose keys are walked; methods that make new containers: name, arity, class -/
  isa : List Nat
  dnm : List Str
  mthN : List (Str × Nat × Nat × Sem)
def Tab.hotT (T : Tab) : Tab := { T with fns := [], clsl := [], mths := [], cids := [], flds := [], excs := [], hnds := [], isa := [], dnm := [], mthN := [], hot := true }
def look {α : Type} (x : Str) : List (Str × α) → Option α
  | [] => none
  | (y, a) :: r => if y = x then some a else look x r
theorem look_mem {α : Type} {x : Str} {a : α} : ∀ {l : List (Str × α)}, look x l = some a → (x, a) ∈ l
  | (y, b) :: r, h => by
    unfold look at h
    by_cases c : y = x
    · rw [if_pos c] at h; cases h; subst c; exact List.mem_cons_self
    · rw [if_neg c] at h; exact List.mem_cons_of_mem _ (look_mem h)
structure CallOk (B : Bs) (P : Program) (w : World) (K : PySem.W.Frag) (mg : Str → Option Value) (base : Heap) (k : Nat) (x : Str) (F : Sem) (ar : Nat) : Prop where
  ex : ∃ (f : Addr) (fd : FuncData) (ps : List Str) (kf : Nat), ps.length = ar ∧ kf ≤ k ∧ FnOk P w K mg base (L2.CX P w) kf f fd ps (spOf B F ar) ∧ mg x = some (.ref f) ∧ PySem.W.keepIn K (.ref f) = true ∧ Binds K fd ps []
structure CallXOk (B : Bs) (P : Program) (w : World) (K : PySem.W.Frag) (mg : Str → Option Value) (base : Heap) (k : Nat) (al : List Nat) (x : Str) (F : Nat → AH → Ab.R AV) : Prop where
  ex : ∃ (f : Addr) (fd : FuncData) (ps : List Str) (kf : Nat), kf ≤ k ∧ FnX P w K mg base kf f fd ps (spX B al F) ∧ (∀ c h c' h', F c h ≠ .exc c' h') ∧ mg x = some (.ref f) ∧ PySem.W.keepIn K (.ref f) = true ∧ Binds K fd ps []
/-- what the top has written, as a table tells it -/
structure TabOk (B : Bs) (T : Tab) (P : Program) (w : World) (K : PySem.W.Frag) (mg : Str → Option Value) (base : Heap) (k : Nat) : Prop where
  fns : ∀ p ∈ T.fns, CallOk B P w K mg base k p.1 p.2.1 p.2.2
  kInt : ∀ p ∈ T.kInt, ∃ u, mg p.1 = some u ∧ RelV (.int p.2) u
  kStr : ∀ p ∈ T.kStr, PyData.strOk p.2 = true ∧ ∃ u, mg p.1 = some u ∧ RelV (.str p.2) u
  blts : ∀ x ∈ T.blts, mg x = none
  flds : ∀ c ∈ T.cids, Cls K (B.ca c) ∧ ∀ f ∈ T.flds, NoAttr K (B.ca c) f
  clsl : ∀ p ∈ T.clsl, MakeOk B P w K mg base k p.1 p.2.2.2 p.2.1 p.2.2.1
  mths : ∀ p ∈ T.mths, ∀ q ∈ p.2.2, MethOk B P w K mg base k p.1 p.2.1 q.1 q.2
  excs : ∀ p ∈ T.excs, ExcOk B K mg p.1 p.2
  hnds : ∀ p ∈ T.hnds, ∃ c0, mg p.1 = some c0 ∧ ∀ c ∈ T.xall, ∃ b, PySem.W.exmOne K (.ref (B.xa c)) c0 = some b ∧ (b = true ↔ p.2.contains c = true)
  xis : ∀ p ∈ T.xis, XisOk B K mg T.xall p.1 p.2
  fnx : ∀ p ∈ T.fnx, CallXOk B P w K mg base k T.xall p.1 p.2
  isa : ∀ c ∈ T.isa, ObjTy K (B.ca c)
  mthN : ∀ p ∈ T.mthN, MethNOk B P w K mg base k p.1 p.2.1 p.2.2.1 p.2.2.2
def fnOf (raw : Option Scope) : Str → Bool := match raw with
  | none => fun _ => true
  | some r => fun x => r.names.lookup x == some .cell
structure GX (B : Bs) (T : Tab) (N : List Str) (k : Nat) (sc : Scope) (raw : Option Scope) (X : Cx) (W : WX) : Prop where
  hK : X.K = B.K
  calm : T.hot = false → X.calm = true
  hN : X.N = N
  nd : N.Nodup
  sc : X.env.scope = sc
  fn : X.fn = fnOf raw
  room : T.hot = false → Room k X.A
  roomH : L2H.RoomH k X.A
  xo : XoOk B X T.xall
  xo0 : T.hot = false → ∀ a c, ¬ B.xo a c
  tk : Takes X W
  tab : TabOk B T X.prog X.w X.K X.mg X.base k

/-! ### names -/
def visC (sc : Scope) (x : Str) : Bool := match sc.names.lookup x with
  | some .local | some .cell | some .free => true
  | _ => false
def glC (sc : Scope) (x : Str) : Bool := match sc.names.lookup x with
  | some .globalImplicit => true
  | _ => false
def locC (sc : Scope) (raw : Option Scope) (x : Str) : Bool := match sc.names.lookup x with
  | some .local => true
  | some .cell => fnOf raw x
  | _ => false
def nmC (x : Str) : Bool := !(x == ("__debug__" : Str)) && !(x == ("__classdict__" : Str))
def idxN : List Str → Str → Option Nat
  | [], _ => none
  | y :: r, x => if y = x then some 0 else (idxN r x).map (· + 1)
theorem idxN_get : ∀ {N : List Str} {x : Str} {i : Nat}, idxN N x = some i → N[i]? = some x
  | y :: r, x, i, h => by
    unfold idxN at h
    by_cases c : y = x
    · rw [if_pos c] at h; cases h; subst c; rfl
    · rw [if_neg c] at h
      cases q : idxN r x with
      | none => rw [q] at h; cases h
      | some j => rw [q] at h; cases h; simpa using idxN_get q
section
variable {B : Bs} {T : Tab} {N : List Str} {k : Nat} {sc : Scope} {raw : Option Scope} {X : Cx} {W : WX}
theorem vis_of {x : Str} (G : GX B T N k sc raw X W) (h : visC sc x = true) : Vis X.env.scope x := by
  unfold visC at h
  unfold Vis
  rw [G.sc]
  cases q : sc.names.lookup x with
  | none => rw [q] at h; cases h
  | some y => rw [q] at h; cases y <;> first | exact .inl rfl | exact .inr (.inl rfl) | exact .inr (.inr rfl) | cases h
theorem gl_of {x : Str} (G : GX B T N k sc raw X W) (h : glC sc x = true) : Gl X x := by
  unfold glC at h
  unfold Gl Env.kindOf
  rw [G.sc]
  cases q : sc.names.lookup x with
  | none => rw [q] at h; cases h
  | some y => rw [q] at h; cases y <;> first | rfl | cases h
theorem loc_of {x : Str} (G : GX B T N k sc raw X W) (h : locC sc raw x = true) : L2.Loc X.env.scope x ∧ (X.fn x = true ∨ X.env.scope.names.lookup x = some .local) := by
  unfold locC at h
  unfold L2.Loc
  rw [G.sc, G.fn]
  cases q : sc.names.lookup x with
  | none => rw [q] at h; cases h
  | some y => rw [q] at h; cases y <;> first | exact ⟨.inl rfl, .inr rfl⟩ | exact ⟨.inr rfl, .inl h⟩ | cases h
theorem nmc_of {x : Str} (h : nmC x = true) : (x == ("__debug__" : Str)) = false ∧ (x == ("__classdict__" : Str)) = false := by
  unfold nmC at h
  simpa using h
def compName (T : Tab) (N : List Str) (sc : Scope) (x : Str) : Option IE :=
  if nmC x = true then
    if visC sc x = true then (idxN N x).map IE.slot
    else if glC sc x = true then (match look x T.kInt with
      | some i => some (.con (.int i))
      | none => (look x T.kStr).map fun s => .con (.str s))
    else none
  else none
theorem sd_name {x : Str} {pos : Pos} {ir : IE} (G : GX B T N k sc raw X W) (h : compName T N sc x = some ir) : SndE B X W (.Name x pos) ir := by
  unfold compName at h
  by_cases c : nmC x = true
  · rw [if_pos c] at h
    obtain ⟨n1, n2⟩ := nmc_of c
    by_cases v : visC sc x = true
    · rw [if_pos v] at h
      cases q : idxN N x with
      | none => rw [q] at h; cases h
      | some i => rw [q] at h; cases h; exact snd_slot (by rw [G.hN]; exact idxN_get q) (vis_of G v) n1 n2
    · rw [if_neg v] at h
      by_cases g : glC sc x = true
      · rw [if_pos g] at h
        cases q : look x T.kInt with
        | some i =>
          rw [q] at h
          cases h
          obtain ⟨u, hm, r⟩ := G.tab.kInt _ (look_mem q)
          exact snd_con (pe_glob (gl_of G g) hm r n1) (fun _ => .int i) rfl
        | none =>
          rw [q] at h
          cases q2 : look x T.kStr with
          | none => rw [q2] at h; cases h
          | some s =>
            rw [q2] at h
            cases h
            obtain ⟨hs, u, hm, r⟩ := G.tab.kStr _ (look_mem q2)
            exact snd_con (pe_glob (gl_of G g) hm r n1) (fun _ => .str s hs) rfl
      · rw [if_neg g] at h; cases h
  · rw [if_neg c] at h; cases h

/-! ### lists of expressions -/
def compAs (c : Expr → Option IE) : List Expr → Option IE
  | [] => some .nil
  | e :: es => if noStar e = true then (c e).bind fun a => (compAs c es).map fun r => .cons a r else none
theorem sd_as {c : Expr → Option IE} (hc : ∀ e ir, c e = some ir → SndE B X W e ir) : ∀ {es : List Expr} {ia : IE}, compAs c es = some ia → SndA B X W es ia ∧ es.all noStar = true ∧ argsN ia = some es.length
  | [], ia, h => by cases h; exact ⟨sna_nil, rfl, rfl⟩
  | e :: es, ia, h => by
    unfold compAs at h
    by_cases s : noStar e = true
    · rw [if_pos s] at h
      cases q : c e with
      | none => rw [q] at h; cases h
      | some a =>
        rw [q] at h
        cases q2 : compAs c es with
        | none => simp only [Option.bind_some, q2] at h; cases h
        | some r =>
          simp only [Option.bind_some, q2] at h
          cases h
          obtain ⟨h1, h2, h3⟩ := sd_as hc q2
          refine ⟨sna_cons (hc _ _ q) h1 s, by rw [List.all_cons, s, h2]; rfl, ?_⟩
          show (argsN r).map (· + 1) = _
          rw [h3]; rfl
    · rw [if_neg s] at h; cases h
def compBO (c : Expr → Option IE) (op : BoolOp) : List Expr → Option IE
  | [] => none
  | [a] => c a
  | a :: b :: es => (c a).bind fun x => (compBO c op (b :: es)).map fun y => match op with
    | .And => .and x y
    | .Or => .or x y
theorem sd_bo {c : Expr → Option IE} (hc : ∀ e ir, c e = some ir → SndE B X W e ir) {op : BoolOp} : ∀ {es : List Expr} {ir : IE}, compBO c op es = some ir → SndO B X W op es ir
  | [], _, h => by cases h
  | [a], ir, h => sno_one (hc a ir h)
  | a :: b :: es, ir, h => by
    unfold compBO at h
    cases q : c a with
    | none => rw [q] at h; cases h
    | some x =>
      cases q2 : compBO c op (b :: es) with
      | none => simp only [q, Option.bind_some, q2] at h; cases h
      | some y =>
        simp only [q, Option.bind_some, q2] at h
        cases op with
        | And => cases h; exact sno_and (hc _ _ q) (sd_bo hc q2)
        | Or => cases h; exact sno_or (hc _ _ q) (sd_bo hc q2)
def cmpC (op : CmpOp) (b : Expr) : Option Cmp := match op with
  | .Eq => some .eq
  | .NotEq => some .ne
  | .Lt => some .lt
  | .LtE => some .le
  | .Gt => some .gt
  | .GtE => some .ge
  | .Is => some .isn
  | .IsNot => some .isnn
  | .In => if behindInMarks .In b = false then some .inn else none
  | .NotIn => if behindInMarks .NotIn b = false then some .nin else none
theorem sd_cmp {op : CmpOp} {o : Cmp} {a b : Expr} {ia ib : IE} {pos : Pos} (G : GX B T N k sc raw X W) (h : cmpC op b = some o) (ha : SndE B X W a ia) (hb : SndE B X W b ib) : SndE B X W (.Compare a [op] [b] pos) (.cmp o ia ib) := by
  cases op with
  | Eq => cases h; exact snd_eq G.hK G.roomH ha hb
  | NotEq => cases h; exact snd_ne G.hK G.roomH ha hb
  | Lt => cases h; exact snd_lt ha hb
  | LtE => cases h; exact snd_le ha hb
  | Gt => cases h; exact snd_gt ha hb
  | GtE => cases h; exact snd_ge ha hb
  | Is => cases h; exact snd_isn ha hb
  | IsNot => cases h; exact snd_isnn ha hb
  | In =>
    unfold cmpC at h
    by_cases c : behindInMarks .In b = false
    · simp only [c, if_true] at h; cases h; exact snd_inn c G.hK G.roomH ha hb
    · simp only [c, if_false] at h; cases h
  | NotIn =>
    unfold cmpC at h
    by_cases c : behindInMarks .NotIn b = false
    · simp only [c, if_true] at h; cases h; exact snd_nin c G.hK G.roomH ha hb
    · simp only [c, if_false] at h; cases h
def binC : Operator → Option Bin
  | .Add => some .add
  | .Sub => some .sub
  | .Mult => some .mul
  | .FloorDiv => some .fdv
  | .Mod => some .mod
  | _ => none
theorem sd_bin {op : Operator} {o : Bin} {a b : Expr} {ia ib : IE} {pos : Pos} (G : GX B T N k sc raw X W) (h : binC op = some o) (ha : SndE B X W a ia) (hb : SndE B X W b ib) : SndE B X W (.BinOp a op b pos) (.bin o ia ib) := by
  cases op with
  | Add => cases h; exact snd_add G.hK ha hb
  | Sub => cases h; exact snd_sub ha hb
  | Mult => cases h; exact snd_mul G.hK ha hb
  | FloorDiv => cases h; exact snd_fdv ha hb
  | Mod => cases h; exact snd_mod ha hb
  | _ => cases h
def chC : CmpOp → Option Cmp
  | .Lt => some .lt
  | .LtE => some .le
  | _ => none
theorem sd_ch {op : CmpOp} {o : Cmp} (h : chC op = some o) : CmpI X o op := by
  cases op with
  | Lt => cases h; exact cmpI_lt
  | LtE => cases h; exact cmpI_le
  | _ => cases h
theorem noMark {op : CmpOp} {o : Cmp} {b : Expr} (h : chC op = some o) : behindInMarks op b = false := by
  cases op with
  | Lt => cases b <;> first | rfl | simp [behindInMarks]
  | LtE => cases b <;> first | rfl | simp [behindInMarks]
  | _ => cases h

/-! ### calls -/
def isiC (y : Str) : Option Bi := if y = "int" then some .isInt else if y = "str" then some .isStr else if y = "bool" then some .isBool else if y = "tuple" then some .isTup else none
theorem isi_of {y : Str} {b : Bi} (h : isiC y = some b) : ∃ t, isiB b = some t ∧ y = Str.ofString t := by
  unfold isiC at h
  by_cases c1 : y = "int"
  · rw [if_pos c1] at h; cases h; exact ⟨_, rfl, c1⟩
  · rw [if_neg c1] at h
    by_cases c2 : y = "str"
    · rw [if_pos c2] at h; cases h; exact ⟨_, rfl, c2⟩
    · rw [if_neg c2] at h
      by_cases c3 : y = "bool"
      · rw [if_pos c3] at h; cases h; exact ⟨_, rfl, c3⟩
      · rw [if_neg c3] at h
        by_cases c4 : y = "tuple"
        · rw [if_pos c4] at h; cases h; exact ⟨_, rfl, c4⟩
        · rw [if_neg c4] at h; cases h
def bi1C (f : Str) : Option Bi := if f = "len" then some .len else if f = "abs" then some .abs else if f = "int" then some .int else if f = "list" then some .list else if f = "tuple" then some .tuple else if f = "all" then some .all else if f = "min" then some .minL else if f = "sorted" then some .srt else if f = "dict" then some .dict else if f = "max" then some .maxL else none
def bi2C (f : Str) : Option Bi := if f = "min" then some .min2 else if f = "max" then some .max2 else none
def bltC (T : Tab) (sc : Scope) (f : Str) : Bool := glC sc f && T.blts.contains f
theorem blt_of {f : Str} (G : GX B T N k sc raw X W) (h : bltC T sc f = true) : Gl X f ∧ X.mg f = none := by
  unfold bltC at h
  rw [Bool.and_eq_true] at h
  exact ⟨gl_of G h.1, G.tab.blts f (by simpa using h.2)⟩
def compBi (T : Tab) (sc : Scope) (c : Expr → Option IE) (f : Str) : List Expr → Option IE
  | [e] => (bi1C f).bind fun b => (compAs c [e]).map fun ia => .bi b ia
  | [e, .Name y p] => if f = "isinstance" then (if bltC T sc y = true then (if noStar e = true then (isiC y).bind fun b => (c e).map fun ia => if y = "tuple" ∧ T.isa.isEmpty = false then .isTO T.isa ia else .bi b (.cons ia .nil) else none) else none) else (bi2C f).bind fun b => (compAs c [e, .Name y p]).map fun ia => .bi b ia
  | [e, e'] => (bi2C f).bind fun b => (compAs c [e, e']).map fun ia => .bi b ia
  | _ => none
theorem sd_bi2 {c : Expr → Option IE} (G : GX B T N k sc raw X W) (hh : T.hot = false) (hc : ∀ e ir, c e = some ir → SndE B X W e ir) {f : Str} {e e' : Expr} {ir : IE} {p pos : Pos} (hb : bltC T sc f = true) (h : ((bi2C f).bind fun b => (compAs c [e, e']).map fun ia => IE.bi b ia) = some ir) : SndE B X W (.Call (.Name f p) [e, e'] [] pos) ir := by
  obtain ⟨hg, hm⟩ := blt_of G hb
  cases q : compAs c [e, e'] with
  | none => rw [q] at h; cases q1 : bi2C f <;> rw [q1] at h <;> cases h
  | some ia =>
    rw [q] at h
    obtain ⟨h1, h2, h3⟩ := sd_as hc q
    unfold bi2C at h
    by_cases c1 : f = "min"
    · rw [if_pos c1] at h; cases h; exact snd_min2 c1 (G.calm hh) hg hm h1 h2
    · rw [if_neg c1] at h
      by_cases c2 : f = "max"
      · rw [if_pos c2] at h; cases h; exact snd_max2 c2 (G.calm hh) hg hm h1 h2
      · rw [if_neg c2] at h; cases h
theorem sd_bi {c : Expr → Option IE} (G : GX B T N k sc raw X W) (hh : T.hot = false) (hc : ∀ e ir, c e = some ir → SndE B X W e ir) {f : Str} {es : List Expr} {ir : IE} {p pos : Pos} (hb : bltC T sc f = true) (h : compBi T sc c f es = some ir) : SndE B X W (.Call (.Name f p) es [] pos) ir := by
  obtain ⟨hg, hm⟩ := blt_of G hb
  unfold compBi at h
  split at h
  · rename_i e
    cases q : compAs c [e] with
    | none => rw [q] at h; cases q1 : bi1C f <;> rw [q1] at h <;> cases h
    | some ia =>
      rw [q] at h
      obtain ⟨h1, h2, h3⟩ := sd_as hc q
      unfold bi1C at h
      by_cases c1 : f = "len"
      · rw [if_pos c1] at h; cases h; exact snd_len c1 G.hK hg hm h1 h2
      · rw [if_neg c1] at h
        by_cases c2 : f = "abs"
        · rw [if_pos c2] at h; cases h; exact snd_abs c2 hg hm h1 h2
        · rw [if_neg c2] at h
          by_cases c3 : f = "int"
          · rw [if_pos c3] at h; cases h; exact snd_int1 c3 hg hm h1 h2
          · rw [if_neg c3] at h
            by_cases c4 : f = "list"
            · rw [if_pos c4] at h; cases h; exact snd_list c4 G.hK hg hm h1 h2
            · rw [if_neg c4] at h
              by_cases c5 : f = "tuple"
              · rw [if_pos c5] at h; cases h; exact snd_tuple c5 hg hm h1 h2
              · rw [if_neg c5] at h
                by_cases c6 : f = "all"
                · rw [if_pos c6] at h; cases h; exact snd_all c6 (G.calm hh) hg hm h1 h2
                · rw [if_neg c6] at h
                  by_cases c7 : f = "min"
                  · rw [if_pos c7] at h; cases h; exact snd_minL c7 G.hK G.roomH (G.calm hh) hg hm h1 h2
                  · rw [if_neg c7] at h
                    by_cases c8 : f = "sorted"
                    · rw [if_pos c8] at h; cases h; exact snd_srt (k := k) c8 (G.calm hh) G.hK (by have := G.roomH.un; omega) hg hm h1 h2
                    · rw [if_neg c8] at h
                      by_cases c9 : f = "dict"
                      · rw [if_pos c9] at h; cases h; exact snd_dictC c9 G.hK (G.calm hh) hg hm h1 h2
                      · rw [if_neg c9] at h
                        by_cases cA : f = "max"
                        · rw [if_pos cA] at h; cases h; exact snd_maxL cA G.hK (G.calm hh) hg hm h1 h2
                        · rw [if_neg cA] at h; cases h
  · rename_i e y p2
    by_cases ci : f = "isinstance"
    · rw [if_pos ci] at h
      by_cases cy : bltC T sc y = true
      · rw [if_pos cy] at h
        obtain ⟨hg2, hm2⟩ := blt_of G cy
        by_cases cs : noStar e = true
        · rw [if_pos cs] at h
          cases q1 : isiC y with
          | none => rw [q1] at h; cases h
          | some b =>
            rw [q1] at h
            cases q2 : c e with
            | none => simp only [Option.bind_some, q2] at h; cases h
            | some ia =>
              simp only [Option.bind_some, q2] at h
              obtain ⟨t, t1, t2⟩ := isi_of q1
              by_cases ct : y = "tuple" ∧ T.isa.isEmpty = false
              · have h : some (if y = "tuple" ∧ T.isa.isEmpty = false then IE.isTO T.isa ia else .bi b (.cons ia .nil)) = some ir := h
                rw [if_pos ct] at h
                cases h
                exact snd_isTO ci ct.1 G.hK hg hm hg2 hm2 G.tab.isa (hc _ _ q2) cs
              · have h : some (if y = "tuple" ∧ T.isa.isEmpty = false then IE.isTO T.isa ia else .bi b (.cons ia .nil)) = some ir := h
                rw [if_neg ct] at h
                cases h
                exact snd_isi ci t1 t2 G.hK hg hm hg2 hm2 (hc _ _ q2) cs
        · rw [if_neg cs] at h; cases h
      · rw [if_neg cy] at h; cases h
    · rw [if_neg ci] at h
      exact sd_bi2 G hh hc hb h
  · exact sd_bi2 G hh hc hb h
  · cases h
def compLR (T : Tab) (sc : Scope) (c : Expr → Option IE) (f : Str) : List Expr → Option IE
  | [.Call (.Name y _) [e] [] _] => if f = "list" ∧ y = "range" ∧ bltC T sc y = true ∧ noStar e = true then (c e).map fun ia => .bi .lrng1 (.cons ia .nil) else none
  | [.Call (.Name y _) [e, e'] [] _] => if f = "list" ∧ y = "range" ∧ bltC T sc y = true ∧ noStar e = true ∧ noStar e' = true then (c e).bind fun ia => (c e').map fun ib => .bi .lrng2 (.cons ia (.cons ib .nil)) else none
  | _ => none
theorem sd_lr {c : Expr → Option IE} (G : GX B T N k sc raw X W) (hh : T.hot = false) (hc : ∀ e ir, c e = some ir → SndE B X W e ir) {f : Str} {es : List Expr} {ir : IE} {p pos : Pos} (hb : bltC T sc f = true) (h : compLR T sc c f es = some ir) : SndE B X W (.Call (.Name f p) es [] pos) ir := by
  obtain ⟨hg, hm⟩ := blt_of G hb
  unfold compLR at h
  split at h
  · rename_i y p2 e pos2
    by_cases g : f = "list" ∧ y = "range" ∧ bltC T sc y = true ∧ noStar e = true
    · rw [if_pos g] at h
      obtain ⟨rfl, rfl, g3, g4⟩ := g
      obtain ⟨hg2, hm2⟩ := blt_of G g3
      cases q : c e with
      | none => rw [q] at h; cases h
      | some ia => rw [q] at h; cases h; exact snd_lrng1 (x := "") (G.calm hh) hg hm hg2 hm2 (hc _ _ q) g4
    · rw [if_neg g] at h; cases h
  · rename_i y p2 e e' pos2
    by_cases g : f = "list" ∧ y = "range" ∧ bltC T sc y = true ∧ noStar e = true ∧ noStar e' = true
    · rw [if_pos g] at h
      obtain ⟨rfl, rfl, g3, g4, g5⟩ := g
      obtain ⟨hg2, hm2⟩ := blt_of G g3
      cases q : c e with
      | none => rw [q] at h; cases h
      | some ia =>
        cases q2 : c e' with
        | none => simp only [q, Option.bind_some, q2] at h; cases h
        | some ib => simp only [q, Option.bind_some, q2] at h; cases h; exact snd_lrng2 (x := "") (G.calm hh) hg hm hg2 hm2 (hc _ _ q) (hc _ _ q2) g4 g5
    · rw [if_neg g] at h; cases h
  · cases h
/-- calls where an exception is handled: isinstance of it, a def that gets it -/
def compHot (T : Tab) (N : List Str) (sc : Scope) (f : Str) : List Expr → Option IE
  | [.Name e _] => if visC sc e = true ∧ nmC e = true then (idxN N e).bind fun i => (look f T.fnx).map fun F => .callx F i else none
  | [.Name e _, .Name y _] => if visC sc e = true ∧ nmC e = true ∧ f = "isinstance" ∧ bltC T sc f = true ∧ glC sc y = true ∧ nmC y = true then (idxN N e).bind fun i => (look y T.xis).map fun cs => .isx i cs else none
  | _ => none
theorem sd_hot (G : GX B T N k sc raw X W) {f : Str} {es : List Expr} {ir : IE} {p pos : Pos} (g : glC sc f = true ∧ nmC f = true) (h : compHot T N sc f es = some ir) : SndE B X W (.Call (.Name f p) es [] pos) ir := by
  unfold compHot at h
  split at h
  · rename_i e pe
    by_cases c : visC sc e = true ∧ nmC e = true
    · rw [if_pos c] at h
      obtain ⟨n1, n2⟩ := nmc_of c.2
      cases q1 : idxN N e with
      | none => rw [q1] at h; cases h
      | some i =>
        cases q2 : look f T.fnx with
        | none => simp only [q1, Option.bind_some, q2] at h; cases h
        | some F =>
          simp only [q1, Option.bind_some, q2] at h
          cases h
          obtain ⟨fa, fd, ps, kf, hle, FX, hF, hm, hk, hb⟩ := (G.tab.fnx _ (look_mem q2)).ex
          exact snd_callx FX hF G.xo (G.roomH.mono hle) (gl_of G g.1) hm hk hb (nmc_of g.2).1 (by rw [G.hN]; exact idxN_get q1) (vis_of G c.1) n1 n2
    · rw [if_neg c] at h; cases h
  · rename_i e pe y py
    by_cases c : visC sc e = true ∧ nmC e = true ∧ f = "isinstance" ∧ bltC T sc f = true ∧ glC sc y = true ∧ nmC y = true
    · rw [if_pos c] at h
      obtain ⟨c1, c2, c3, c4, c5, c6⟩ := c
      obtain ⟨n1, n2⟩ := nmc_of c2
      obtain ⟨hg, hm⟩ := blt_of G c4
      cases q1 : idxN N e with
      | none => rw [q1] at h; cases h
      | some i =>
        cases q2 : look y T.xis with
        | none => simp only [q1, Option.bind_some, q2] at h; cases h
        | some cs =>
          simp only [q1, Option.bind_some, q2] at h
          cases h
          exact snd_isx c3 G.xo (G.tab.xis _ (look_mem q2)) hg hm (by rw [G.hN]; exact idxN_get q1) (vis_of G c1) n1 n2 (gl_of G c5) (nmc_of c6).1
    · rw [if_neg c] at h; cases h
  · cases h
def compCold (T : Tab) (sc : Scope) (c : Expr → Option IE) (f : Str) (es : List Expr) : Option IE :=
  match look f T.fns with
  | some (F, ar) => if es.length = ar then (compAs c es).map fun ia => .call F ia else none
  | none => (match look f T.clsl with
    | some (n, F, ar) => if es.length + 1 = ar then (compAs c es).map fun ia => .make n F ia else none
    | none => if bltC T sc f = true then (match compLR T sc c f es with
      | some r => some r
      | none => compBi T sc c f es) else none)
def compCall (T : Tab) (N : List Str) (sc : Scope) (c : Expr → Option IE) (f : Str) (es : List Expr) : Option IE :=
  if glC sc f = true ∧ nmC f = true then (if T.hot = true then compHot T N sc f es else compCold T sc c f es) else none
theorem sd_call {c : Expr → Option IE} (G : GX B T N k sc raw X W) (hc : ∀ e ir, c e = some ir → SndE B X W e ir) {f : Str} {es : List Expr} {ir : IE} {p pos : Pos} (h : compCall T N sc c f es = some ir) : SndE B X W (.Call (.Name f p) es [] pos) ir := by
  unfold compCall at h
  by_cases g : glC sc f = true ∧ nmC f = true
  · rw [if_pos g] at h
    by_cases hot : T.hot = true
    · rw [if_pos hot] at h
      exact sd_hot G g h
    rw [if_neg hot] at h
    have hh : T.hot = false := by simpa using hot
    unfold compCold at h
    cases q : look f T.fns with
    | none =>
      rw [q] at h
      simp only at h
      cases qc : look f T.clsl with
      | none =>
        rw [qc] at h
        simp only at h
        by_cases b : bltC T sc f = true
        · rw [if_pos b] at h
          cases ql : compLR T sc c f es with
          | some r => rw [ql] at h; cases h; exact sd_lr G hh hc b ql
          | none => rw [ql] at h; exact sd_bi G hh hc b h
        · rw [if_neg b] at h; cases h
      | some Fa =>
        obtain ⟨n, F, ar⟩ := Fa
        rw [qc] at h
        simp only at h
        by_cases l : es.length + 1 = ar
        · rw [if_pos l] at h
          cases q2 : compAs c es with
          | none => rw [q2] at h; cases h
          | some ia =>
            rw [q2] at h
            cases h
            obtain ⟨h1, h2, h3⟩ := sd_as hc q2
            exact snd_make (G.tab.clsl _ (look_mem qc)) (G.room hh) (gl_of G g.1) (nmc_of g.2).1 h1 h2 h3 l
        · rw [if_neg l] at h; cases h
    | some Fa =>
      obtain ⟨F, ar⟩ := Fa
      rw [q] at h
      simp only at h
      by_cases l : es.length = ar
      · rw [if_pos l] at h
        cases q2 : compAs c es with
        | none => rw [q2] at h; cases h
        | some ia =>
          rw [q2] at h
          cases h
          obtain ⟨h1, h2, h3⟩ := sd_as hc q2
          obtain ⟨fa, fd, ps, kf, e1, e2, FO, hm, hk, hb⟩ := (G.tab.fns _ (look_mem q)).ex
          subst e1
          cases es with
          | nil =>
            cases q2
            exact snd_call0 FO l.symm ((G.room hh).mono e2) (gl_of G g.1) hm hk hb (fun σ => passAt G.tk σ) (nmc_of g.2).1
          | cons e es => exact snd_call FO ((G.room hh).mono e2) (gl_of G g.1) hm hk hb (fun σ => passAt G.tk σ) (nmc_of g.2).1 h1 h2 (by rw [h3, l])
      · rw [if_neg l] at h; cases h
  · rw [if_neg g] at h; cases h
def compBm (c : Expr → Option IE) (o : Expr) (m : Str) (apos cpos : Pos) (es : List Expr) : Option IE :=
  if noSuper o = true ∧ (apos.endLine == cpos.line) = true then
    (match es with
    | [e] => if m = "join" then (if noStar e = true then (c o).bind fun io => (compAs c [e]).map fun ie => .bm .join io ie else none)
      else if m = "index" then (if noStar e = true then (c o).bind fun io => (compAs c [e]).map fun ie => .bm .index io ie else none)
      else if m = "count" then (if noStar e = true then (c o).bind fun io => (compAs c [e]).map fun ie => .bm .count io ie else none)
      else if m = "split" then (if noStar e = true then (c o).bind fun io => (compAs c [e]).map fun ie => .bm .split io ie else none)
      else if m = "get" then (if noStar e = true then (c o).bind fun io => (c e).map fun ie => .bm .get1 io (.cons ie .nil) else none) else none
    | [e, f] => if m = "get" ∧ noStar e = true ∧ noStar f = true then (c o).bind fun io => (c e).bind fun ie => (c f).bind fun ix => if pureI ix = true then some (.bm .get2 io (.cons ie (.cons ix .nil))) else none else none
    | _ => none)
  else none
theorem sd_bm {c : Expr → Option IE} (G : GX B T N k sc raw X W) (hc : ∀ e ir, c e = some ir → SndE B X W e ir) {o : Expr} {m : Str} {apos cpos : Pos} {es : List Expr} {ir : IE} (h : compBm c o m apos cpos es = some ir) : SndE B X W (.Call (.Attribute o m apos) es [] cpos) ir := by
  unfold compBm at h
  by_cases g : noSuper o = true ∧ (apos.endLine == cpos.line) = true
  · rw [if_pos g] at h
    split at h
    · rename_i e
      have one : ∀ {b : Bm}, (if noStar e = true then (c o).bind fun io => (compAs c [e]).map fun ie => IE.bm b io ie else none) = some ir → ∃ io ie, noStar e = true ∧ c o = some io ∧ compAs c [e] = some ie ∧ ir = .bm b io ie := fun {b} h => by
        by_cases cs : noStar e = true
        · rw [if_pos cs] at h
          cases q : c o with
          | none => rw [q] at h; cases h
          | some io =>
            rw [q] at h
            cases q2 : compAs c [e] with
            | none => simp only [Option.bind_some, q2] at h; cases h
            | some ie =>
              simp only [Option.bind_some, q2] at h
              cases h
              exact ⟨io, ie, cs, rfl, rfl, rfl⟩
        · rw [if_neg cs] at h; cases h
      by_cases cj : m = "join"
      · rw [if_pos cj] at h
        subst cj
        obtain ⟨io, ie, cs, q, q2, rfl⟩ := one h
        exact snd_join G.hK (base_of g.1) g.2 (hc _ _ q) (sd_as hc q2).1 cs
      · rw [if_neg cj] at h
        by_cases ci : m = "index"
        · rw [if_pos ci] at h
          subst ci
          obtain ⟨io, ie, cs, q, q2, rfl⟩ := one h
          exact snd_index G.hK G.roomH (base_of g.1) g.2 (hc _ _ q) (sd_as hc q2).1 cs
        · rw [if_neg ci] at h
          by_cases cc : m = "count"
          · rw [if_pos cc] at h
            subst cc
            obtain ⟨io, ie, cs, q, q2, rfl⟩ := one h
            exact snd_count G.hK G.roomH (base_of g.1) g.2 (hc _ _ q) (sd_as hc q2).1 cs
          · rw [if_neg cc] at h
            by_cases cp : m = "split"
            · rw [if_pos cp] at h
              subst cp
              obtain ⟨io, ie, cs, q, q2, rfl⟩ := one h
              exact snd_split (base_of g.1) g.2 (hc _ _ q) (sd_as hc q2).1 cs
            · rw [if_neg cp] at h
              by_cases cg : m = "get"
              · rw [if_pos cg] at h
                subst cg
                by_cases cs : noStar e = true
                · rw [if_pos cs] at h
                  cases q : c o with
                  | none => rw [q] at h; cases h
                  | some io =>
                    cases q2 : c e with
                    | none => simp only [q, Option.bind_some, q2] at h; cases h
                    | some ie =>
                      simp only [q, Option.bind_some, q2] at h
                      cases h
                      exact snd_get1 (by have := G.roomH.un; omega) (base_of g.1) g.2 (hc _ _ q) (hc _ _ q2) cs
                · rw [if_neg cs] at h; cases h
              · rw [if_neg cg] at h; cases h
    · rename_i e f
      by_cases cg : m = "get" ∧ noStar e = true ∧ noStar f = true
      · rw [if_pos cg] at h
        obtain ⟨rfl, cs, cf⟩ := cg
        cases q : c o with
        | none => rw [q] at h; cases h
        | some io =>
          cases q2 : c e with
          | none => simp only [q, Option.bind_some, q2] at h; cases h
          | some ie =>
            cases q3 : c f with
            | none => simp only [q, Option.bind_some, q2, q3] at h; cases h
            | some ix =>
              simp only [q, Option.bind_some, q2, q3] at h
              by_cases cp : pureI ix = true
              · rw [if_pos cp] at h
                cases h
                exact snd_get2 (by have := G.roomH.un; omega) (base_of g.1) g.2 (hc _ _ q) (hc _ _ q2) (hc _ _ q3) cs cf cp
              · rw [if_neg cp] at h; cases h
      · rw [if_neg cg] at h; cases h
    · cases h
  · rw [if_neg g] at h; cases h
def lookM (m : Str) (n : Nat) : List (Str × Nat × List (Nat × Sem)) → Option (Nat × List (Nat × Sem))
  | [] => none
  | (y, a) :: r => if y = m ∧ a.1 = n then some a else lookM m n r
theorem lookM_mem {m : Str} {n : Nat} {a : Nat × List (Nat × Sem)} : ∀ {l : List (Str × Nat × List (Nat × Sem))}, lookM m n l = some a → (m, a) ∈ l
  | (y, b) :: r, h => by
    unfold lookM at h
    by_cases c : y = m ∧ b.1 = n
    · rw [if_pos c] at h; cases h; rw [c.1]; exact List.mem_cons_self
    · rw [if_neg c] at h; exact List.mem_cons_of_mem _ (lookM_mem h)
def compMeth (T : Tab) (c : Expr → Option IE) (o : Expr) (m : Str) (apos cpos : Pos) (es : List Expr) : Option IE :=
  match lookM m (es.length + 1) T.mths with
  | some (ar, tbl) => if T.hot = false ∧ noSuper o = true ∧ lineOk apos cpos es = true ∧ es.length + 1 = ar ∧ tbl.isEmpty = false then (c o).bind fun io => (compAs c es).map fun ia => .meth m tbl io ia else none
  | none => compBm c o m apos cpos es
theorem sd_meth {c : Expr → Option IE} (G : GX B T N k sc raw X W) (hc : ∀ e ir, c e = some ir → SndE B X W e ir) {o : Expr} {m : Str} {apos cpos : Pos} {es : List Expr} {ir : IE} (h : compMeth T c o m apos cpos es = some ir) : SndE B X W (.Call (.Attribute o m apos) es [] cpos) ir := by
  unfold compMeth at h
  cases qm : lookM m (es.length + 1) T.mths with
  | none => rw [qm] at h; exact sd_bm G hc h
  | some Fa =>
    obtain ⟨ar, tbl⟩ := Fa
    rw [qm] at h
    simp only at h
    by_cases g : T.hot = false ∧ noSuper o = true ∧ lineOk apos cpos es = true ∧ es.length + 1 = ar ∧ tbl.isEmpty = false
    · rw [if_pos g] at h
      obtain ⟨hh, g1, g2, g3, g4⟩ := g
      cases q : c o with
      | none => rw [q] at h; cases h
      | some io =>
        rw [q] at h
        cases q2 : compAs c es with
        | none => simp only [Option.bind_some, q2] at h; cases h
        | some ia =>
          simp only [Option.bind_some, q2] at h
          cases h
          obtain ⟨h1, h2, h3⟩ := sd_as hc q2
          exact snd_meth g1 g2 (G.tab.mths _ (lookM_mem qm)) (G.room hh) G.tk (hc _ _ q) h1 h2 h3 g3 (fun z => by rw [z] at g4; cases g4)
    · rw [if_neg g] at h; cases h
def lookN (m : Str) (n : Nat) : List (Str × Nat × Nat × Sem) → Option (Nat × Nat × Sem)
  | [] => none
  | (y, a) :: r => if y = m ∧ a.1 = n then some a else lookN m n r
theorem lookN_mem {m : Str} {n : Nat} {a : Nat × Nat × Sem} : ∀ {l : List (Str × Nat × Nat × Sem)}, lookN m n l = some a → (m, a) ∈ l ∧ a.1 = n
  | (y, b) :: r, h => by
    unfold lookN at h
    by_cases c : y = m ∧ b.1 = n
    · rw [if_pos c] at h; cases h; obtain ⟨c1, c2⟩ := c; subst c1; exact ⟨List.mem_cons_self, c2⟩
    · rw [if_neg c] at h
      obtain ⟨h1, h2⟩ := lookN_mem h
      exact ⟨List.mem_cons_of_mem _ h1, h2⟩
def compFld (T : Tab) (c : Expr → Option IE) (o : Expr) (f : Str) : Option IE :=
  if noSuper o = true ∧ T.flds.contains f = true then (c o).map fun io => .fld T.cids io f else none
theorem sd_fld {c : Expr → Option IE} (G : GX B T N k sc raw X W) (hc : ∀ e ir, c e = some ir → SndE B X W e ir) {o : Expr} {f : Str} {pos : Pos} {ir : IE} (h : compFld T c o f = some ir) : SndE B X W (.Attribute o f pos) ir := by
  unfold compFld at h
  by_cases g : noSuper o = true ∧ T.flds.contains f = true
  · rw [if_pos g] at h
    cases q : c o with
    | none => rw [q] at h; cases h
    | some io =>
      rw [q] at h
      cases h
      exact snd_fld G.hK (base_of g.1) (fun cc hcc => ⟨(G.tab.flds cc hcc).1, (G.tab.flds cc hcc).2 f (by simpa using g.2)⟩) (hc _ _ q)
  · rw [if_neg g] at h; cases h

/-! ### what is walked, targets -/
def compIt (T : Tab) (sc : Scope) (c : Expr → Option IE) (tg iter : Expr) : Option (Ab.It × IE) :=
  let plain : Option (Ab.It × IE) := (c iter).map fun ia => (Ab.It.seq, IE.cons ia .nil)
  match iter with
  | .Call (.Name f _) [e] [] _ =>
    if bltC T sc f = true ∧ f = "range" then (compAs c [e]).map fun ia => (Ab.It.rng1, ia)
    else if bltC T sc f = true ∧ f = "enumerate" then (match tg with | .Tuple _ _ _ => (compAs c [e]).map fun ia => (Ab.It.enum, ia) | _ => none)
    else if bltC T sc f = true ∧ f = "reversed" then (if noStar e = true then (c e).map fun ia => (Ab.It.rev, IE.cons ia .nil) else none)
    else plain
  | .Call (.Name f _) [e, e'] [] _ =>
    if bltC T sc f = true ∧ f = "range" then (compAs c [e, e']).map fun ia => (Ab.It.rng2, ia) else plain
  | .Call (.Name f _) [e, e', e''] [] _ =>
    if bltC T sc f = true ∧ f = "range" then (compAs c [e, e', e'']).map fun ia => (Ab.It.rng3, ia) else plain
  | _ => plain
theorem sd_it {c : Expr → Option IE} (G : GX B T N k sc raw X W) (hc : ∀ e ir, c e = some ir → SndE B X W e ir) {tg iter : Expr} {it : Ab.It} {src : IE} (h : compIt T sc c tg iter = some (it, src)) : SndI B X W tg iter it src := by
  have plain : (c iter).map (fun ia => (Ab.It.seq, IE.cons ia .nil)) = some (it, src) → SndI B X W tg iter it src := fun h => by
    cases q : c iter with
    | none => rw [q] at h; cases h
    | some ia => rw [q] at h; cases h; exact sni_seq G.hK (hc _ _ q)
  unfold compIt at h
  split at h
  · rename_i f p e pos
    by_cases c1 : bltC T sc f = true ∧ f = "range"
    · rw [if_pos c1] at h
      obtain ⟨hg, hm⟩ := blt_of G c1.1
      cases q : compAs c [e] with
      | none => rw [q] at h; cases h
      | some ia => rw [q] at h; cases h; obtain ⟨h1, h2, _⟩ := sd_as hc q; exact sni_rng1 c1.2 hg hm h1 h2
    · rw [if_neg c1] at h
      by_cases c2 : bltC T sc f = true ∧ f = "enumerate"
      · rw [if_pos c2] at h
        obtain ⟨hg, hm⟩ := blt_of G c2.1
        split at h
        · cases q : compAs c [e] with
          | none => rw [q] at h; cases h
          | some ia => rw [q] at h; cases h; obtain ⟨h1, h2, _⟩ := sd_as hc q; exact sni_enum G.hK c2.2 hg hm h1 h2
        · cases h
      · rw [if_neg c2] at h
        by_cases c3 : bltC T sc f = true ∧ f = "reversed"
        · rw [if_pos c3] at h
          obtain ⟨hg, hm⟩ := blt_of G c3.1
          by_cases cs : noStar e = true
          · rw [if_pos cs] at h
            cases q : c e with
            | none => rw [q] at h; cases h
            | some ia => rw [q] at h; cases h; exact sni_rev G.hK c3.2 hg hm (hc _ _ q) cs
          · rw [if_neg cs] at h; cases h
        · rw [if_neg c3] at h
          exact plain h
  · rename_i f p e e' pos
    by_cases c1 : bltC T sc f = true ∧ f = "range"
    · rw [if_pos c1] at h
      obtain ⟨hg, hm⟩ := blt_of G c1.1
      cases q : compAs c [e, e'] with
      | none => rw [q] at h; cases h
      | some ia => rw [q] at h; cases h; obtain ⟨h1, h2, _⟩ := sd_as hc q; exact sni_rng2 c1.2 hg hm h1 h2
    · rw [if_neg c1] at h
      exact plain h
  · rename_i f p e e' e'' pos
    by_cases c1 : bltC T sc f = true ∧ f = "range"
    · rw [if_pos c1] at h
      obtain ⟨hg, hm⟩ := blt_of G c1.1
      cases q : compAs c [e, e', e''] with
      | none => rw [q] at h; cases h
      | some ia => rw [q] at h; cases h; obtain ⟨h1, h2, _⟩ := sd_as hc q; exact sni_rng3 c1.2 hg hm h1 h2
    · rw [if_neg c1] at h
      exact plain h
  · exact plain h
def compTgN (N : List Str) (sc : Scope) (raw : Option Scope) : Expr → Option Nat
  | .Name x _ => if locC sc raw x = true then idxN N x else none
  | _ => none
def compTgs (N : List Str) (sc : Scope) (raw : Option Scope) : List Expr → Option (List Nat)
  | [] => some []
  | e :: es => (compTgN N sc raw e).bind fun i => (compTgs N sc raw es).map (i :: ·)
def compTg (N : List Str) (sc : Scope) (raw : Option Scope) : Expr → Option Tg
  | .Name x p => (compTgN N sc raw (.Name x p)).map .nm
  | .Tuple es _ _ => (compTgs N sc raw es).map .tp
  | _ => none
theorem sd_tgN {e : Expr} {i : Nat} (G : GX B T N k sc raw X W) (h : compTgN N sc raw e = some i) : PG X e (gName i) ∧ ∃ x p, e = .Name x p := by
  cases e <;> first | cases h | skip
  rename_i x p
  have h : (if locC sc raw x = true then idxN N x else none) = some i := h
  by_cases c : locC sc raw x = true
  · rw [if_pos c] at h
    obtain ⟨l1, l2⟩ := loc_of G c
    exact ⟨pg_name (by rw [G.hN]; exact G.nd) (by rw [G.hN]; exact idxN_get h) l1 l2, x, p, rfl⟩
  · rw [if_neg c] at h; cases h
theorem sd_tgs (G : GX B T N k sc raw X W) : ∀ {es : List Expr} {l : List Nat}, compTgs N sc raw es = some l → PGs X es (gL l) ∧ (assignEach es X.env).length = l.length ∧ (assignEach es X.env).findIdx? (·.1) = none
  | [], l, h => by cases h; exact ⟨pgs_nil, rfl, rfl⟩
  | e :: es, l, h => by
    unfold compTgs at h
    cases q : compTgN N sc raw e with
    | none => rw [q] at h; cases h
    | some i =>
      cases q2 : compTgs N sc raw es with
      | none => simp only [q, Option.bind_some, q2] at h; cases h
      | some r =>
        simp only [q, Option.bind_some, q2] at h
        cases h
        obtain ⟨h1, x, p, rfl⟩ := sd_tgN G q
        obtain ⟨h2, h3, h4⟩ := sd_tgs G q2
        have ea : assignEach (.Name x p :: es) X.env = (false, assign (.Name x p) X.env) :: assignEach es X.env := rfl
        refine ⟨pgs_cons h1 h2 (by rw [ea]; rfl), by rw [ea, List.length_cons, List.length_cons, h3], ?_⟩
        rw [ea, List.findIdx?_cons]
        simp [h4]
theorem sd_tg {e : Expr} {tg : Tg} (G : GX B T N k sc raw X W) (hh : T.hot = false) (h : compTg N sc raw e = some tg) : PG X e (tgR X.K tg) := by
  cases e <;> first | cases h | skip
  · rename_i x p
    have h : (compTgN N sc raw (.Name x p)).map Tg.nm = some tg := h
    cases q : compTgN N sc raw (.Name x p) with
    | none => rw [q] at h; cases h
    | some i => rw [q] at h; cases h; exact (sd_tgN G q).1
  · rename_i es kk p
    have h : (compTgs N sc raw es).map Tg.tp = some tg := h
    cases q : compTgs N sc raw es with
    | none => rw [q] at h; cases h
    | some l =>
      rw [q] at h
      cases h
      obtain ⟨h2, h3, h4⟩ := sd_tgs G q
      exact pg_tup (G.calm hh) h2 h3 h4
end
end Ab

set_option autoImplicit false
set_option maxHeartbeats 4000000
/-! AbK: from the text to the compiled form: expressions, statements, defs. -/
namespace Ab
open PySem PySem.Spec PyProof.Rows L2

section
variable {B : Bs} {T : Tab} {N : List Str} {k : Nat} {sc : Scope} {raw : Option Scope} {X : Cx} {W : WX}
/-! ### comprehensions -/
def ownOf (N : List Str) (scope : Scope) : List (Str × Nat) := scope.names.filterMap fun p => if p.2 = .local ∨ p.2 = .cell then (idxN N p.1).map fun i => (p.1, i) else none
def noSetD : Expr → Bool
  | .Set _ _ _ => false
  | _ => true
theorem noSet_of {e : Expr} {env : Env} (h : noSetD e = true) : ∀ x, foldedSetIterable e env x = pure x := by
  intro x
  cases e <;> first | rfl | cases h
structure LcR where
  it : Ab.It
  src : IE
  tg : Tg
  t : IE
  g : IE
def lcIR (r : LcR) (N : List Str) (scope : Scope) : IE := .comp r.it r.src r.tg r.t r.g ((ownOf N scope).map (·.2))
def compIfs (c : Expr → Option IE) : List Expr → Option IE
  | [] => some (.con (.bl true))
  | [t] => c t
  | _ => none
def compLc (T : Tab) (N : List Str) (c : Scope → Option Scope → Expr → Option IE) (sc : Scope) (raw : Option Scope) (elt tg iter : Expr) (ifs : List Expr) (scope : Scope) : Option LcR :=
  if blkC N sc scope (ownOf N scope) = true ∧ noSetD iter = true ∧ T.hot = false then
    (compIt T sc (c sc raw) tg iter).bind fun is => (compTg N (relS scope sc) (some scope) tg).bind fun tgi =>
      if (tgIx tgi).all (fun i => ((ownOf N scope).map (·.2)).contains i) = true then
        (compIfs (c (relS scope sc) (some scope)) ifs).bind fun t => (c (relS scope sc) (some scope) elt).map fun g => ⟨is.1, is.2, tgi, t, g⟩
      else none
  else none
theorem gx_blk (G : GX B T N k sc raw X W) (hh : T.hot = false) (s : Shared) (H : Hp) (scope : Scope) (C : Addr) (cl : List (Str × Addr)) (fp : List Addr) : GX B T N k (relS scope sc) (some scope) (X.blk s H scope (compEnvC scope cl C X.env) fp) W0 where
  hK := G.hK
  calm := G.calm
  hN := G.hN
  nd := G.nd
  sc := by
    show relabel scope X.env = _
    unfold relabel relS Env.kindOf
    rw [G.sc]
  fn := rfl
  room := G.room
  roomH := G.roomH
  xo := fun a c z => absurd z (G.xo0 hh a c)
  xo0 := G.xo0
  tk := takes0
  tab := G.tab
theorem sd_lc {c : Scope → Option Scope → Expr → Option IE} (hc : ∀ sc raw X W, GX B T N k sc raw X W → ∀ e ir, c sc raw e = some ir → SndE B X W e ir) (G : GX B T N k sc raw X W) {elt tg iter : Expr} {ifs : List Expr} {scope : Scope} {r : LcR}
    (h : compLc T N c sc raw elt tg iter ifs scope = some r) : LcOk B X W elt tg iter ifs scope (ownOf N scope) r.it r.src r.t r.g r.tg := by
  unfold compLc at h
  by_cases c1 : blkC N sc scope (ownOf N scope) = true ∧ noSetD iter = true ∧ T.hot = false
  · rw [if_pos c1] at h
    cases q1 : compIt T sc (c sc raw) tg iter with
    | none => rw [q1] at h; cases h
    | some is =>
      rw [q1] at h
      simp only [Option.bind_some] at h
      cases q2 : compTg N (relS scope sc) (some scope) tg with
      | none => rw [q2] at h; cases h
      | some tgi =>
        rw [q2] at h
        simp only [Option.bind_some] at h
        by_cases c2 : (tgIx tgi).all (fun i => ((ownOf N scope).map (·.2)).contains i) = true
        · rw [if_pos c2] at h
          cases q3 : compIfs (c (relS scope sc) (some scope)) ifs with
          | none => rw [q3] at h; cases h
          | some t =>
            rw [q3] at h
            simp only [Option.bind_some] at h
            cases q4 : c (relS scope sc) (some scope) elt with
            | none => rw [q4] at h; cases h
            | some g =>
              rw [q4] at h
              cases h
              refine ⟨G.calm c1.2.2, by rw [G.hN]; exact G.nd, sd_it G (hc sc raw X W G) q1, by rw [G.hN, G.sc]; exact blkOk_by c1.1, fun s H C cl fp => sd_tg (gx_blk G c1.2.2 s H scope C cl fp) c1.2.2 q2, fun s H C cl fp => ?_, fun s H C cl fp => hc _ _ _ _ (gx_blk G c1.2.2 s H scope C cl fp) _ _ q4, fun i hi => ?_, noSet_of c1.2.1⟩
              · cases ifs with
                | nil => cases q3; exact snt_nil
                | cons a r =>
                  cases r with
                  | nil => exact snt_one (hc _ _ _ _ (gx_blk G c1.2.2 s H scope C cl fp) _ _ q3)
                  | cons _ _ => cases q3
              · rw [List.all_eq_true] at c2
                simpa using c2 i hi
        · rw [if_neg c2] at h; cases h
  · rw [if_neg c1] at h; cases h

/-! over a dict's keys -/
def isDF (T : Tab) : Expr → Bool
  | .Attribute _ f _ => T.dfl.contains f
  | _ => false
def keyF (T : Tab) (N : List Str) (sc : Scope) : Expr → Option (Nat × Str)
  | .Attribute (.Name x _) f _ => if T.dfl.contains f = true ∧ visC sc x = true ∧ nmC x = true ∧ T.flds.contains f = true then (idxN N x).map fun i => (i, f) else none
  | _ => none
theorem keyF_of {iter : Expr} {kf : Nat × Str} (h : keyF T N sc iter = some kf) : isDF T iter = true ∧ ∃ x px pf, iter = .Attribute (.Name x px) kf.2 pf ∧ visC sc x = true ∧ nmC x = true ∧ T.flds.contains kf.2 = true ∧ idxN N x = some kf.1 := by
  unfold keyF at h
  split at h
  · rename_i x px f pf
    by_cases c : T.dfl.contains f = true ∧ visC sc x = true ∧ nmC x = true ∧ T.flds.contains f = true
    · rw [if_pos c] at h
      cases q : idxN N x with
      | none => rw [q] at h; cases h
      | some i => rw [q] at h; cases h; exact ⟨c.1, x, px, pf, rfl, c.2.1, c.2.2.1, c.2.2.2, q⟩
    · rw [if_neg c] at h; cases h
  · cases h
def compLcK (T : Tab) (N : List Str) (c : Scope → Option Scope → Expr → Option IE) (sc : Scope) (elt tg iter : Expr) (ifs : List Expr) (scope : Scope) : Option IE :=
  (keyF T N sc iter).bind fun kf => if blkC N sc scope (ownOf N scope) = true ∧ T.hot = false then
    (compTg N (relS scope sc) (some scope) tg).bind fun tgi =>
      if (tgIx tgi).all (fun i => ((ownOf N scope).map (·.2)).contains i) = true then
        (compIfs (c (relS scope sc) (some scope)) ifs).bind fun t => (c (relS scope sc) (some scope) elt).bind fun g =>
          if pureI t = true ∧ pureI g = true then some (.comp .keys (.cons (.fldz T.cids kf.1 kf.2) .nil) tgi t g ((ownOf N scope).map (·.2))) else none
      else none
  else none
theorem sd_lcK {c : Scope → Option Scope → Expr → Option IE} (hc : ∀ sc raw X W, GX B T N k sc raw X W → ∀ e ir, c sc raw e = some ir → SndE B X W e ir) (G : GX B T N k sc raw X W) {elt tg iter : Expr} {ifs : List Expr} {scope : Scope} {pos : Pos} {ir : IE}
    (h : compLcK T N c sc elt tg iter ifs scope = some ir) : isDF T iter = true ∧ SndE B X W (.ListComp elt [⟨tg, iter, ifs, 0⟩] scope pos) ir := by
  unfold compLcK at h
  cases q0 : keyF T N sc iter with
  | none => rw [q0] at h; cases h
  | some kf =>
    rw [q0] at h
    simp only [Option.bind_some] at h
    obtain ⟨d1, x, px, pf, rfl, v1, v2, v3, v4⟩ := keyF_of q0
    refine ⟨d1, ?_⟩
    by_cases c1 : blkC N sc scope (ownOf N scope) = true ∧ T.hot = false
    · rw [if_pos c1] at h
      cases q2 : compTg N (relS scope sc) (some scope) tg with
      | none => rw [q2] at h; cases h
      | some tgi =>
        rw [q2] at h
        simp only [Option.bind_some] at h
        by_cases c2 : (tgIx tgi).all (fun i => ((ownOf N scope).map (·.2)).contains i) = true
        · rw [if_pos c2] at h
          cases q3 : compIfs (c (relS scope sc) (some scope)) ifs with
          | none => rw [q3] at h; cases h
          | some t =>
            rw [q3] at h
            simp only [Option.bind_some] at h
            cases q4 : c (relS scope sc) (some scope) elt with
            | none => rw [q4] at h; cases h
            | some g =>
              rw [q4] at h
              simp only [Option.bind_some] at h
              by_cases c3 : pureI t = true ∧ pureI g = true
              · rw [if_pos c3] at h
                cases h
                obtain ⟨n1, n2⟩ := nmc_of v2
                refine snd_lcK G.hK (fun q hq => ⟨(G.tab.flds q hq).1, (G.tab.flds q hq).2 kf.2 (by simpa using v3)⟩) (by rw [G.hN]; exact idxN_get v4) (vis_of G v1) n1 n2 (G.calm c1.2) (by rw [G.hN]; exact G.nd) (by rw [G.hN, G.sc]; exact blkOk_by c1.1) (fun s H C cl fp => sd_tg (gx_blk G c1.2 s H scope C cl fp) c1.2 q2) (fun s H C cl fp => ?_) (fun s H C cl fp => hc _ _ _ _ (gx_blk G c1.2 s H scope C cl fp) _ _ q4) (fun i hi => ?_) c3.1 c3.2
                · cases ifs with
                  | nil => cases q3; exact snt_nil
                  | cons a r =>
                    cases r with
                    | nil => exact snt_one (hc _ _ _ _ (gx_blk G c1.2 s H scope C cl fp) _ _ q3)
                    | cons _ _ => cases q3
                · rw [List.all_eq_true] at c2
                  simpa using c2 i hi
              · rw [if_neg c3] at h; cases h
        · rw [if_neg c2] at h; cases h
    · rw [if_neg c1] at h; cases h

/-! over the keys of a dict under a name -/
def isDN (T : Tab) : Expr → Bool
  | .Name x _ => T.dnm.contains x
  | _ => false
def keyN (T : Tab) (N : List Str) (sc : Scope) : Expr → Option Nat
  | .Name x _ => if visC sc x = true ∧ nmC x = true then idxN N x else none
  | _ => none
theorem keyN_of {iter : Expr} {i : Nat} (h : keyN T N sc iter = some i) : ∃ x px, iter = .Name x px ∧ visC sc x = true ∧ nmC x = true ∧ idxN N x = some i := by
  unfold keyN at h
  split at h
  · rename_i x px
    by_cases c : visC sc x = true ∧ nmC x = true
    · rw [if_pos c] at h
      exact ⟨x, px, rfl, c.1, c.2, h⟩
    · rw [if_neg c] at h; cases h
  · cases h
def compLcS (T : Tab) (N : List Str) (c : Scope → Option Scope → Expr → Option IE) (sc : Scope) (elt tg iter : Expr) (ifs : List Expr) (scope : Scope) : Option IE :=
  (keyN T N sc iter).bind fun i => if blkC N sc scope (ownOf N scope) = true ∧ T.hot = false then
    (compTg N (relS scope sc) (some scope) tg).bind fun tgi =>
      if (tgIx tgi).all (fun i => ((ownOf N scope).map (·.2)).contains i) = true then
        (compIfs (c (relS scope sc) (some scope)) ifs).bind fun t => (c (relS scope sc) (some scope) elt).bind fun g =>
          if pureI t = true ∧ pureI g = true then some (.comp .keys (.cons (.slz i) .nil) tgi t g ((ownOf N scope).map (·.2))) else none
      else none
  else none
theorem lcS_of {c : Scope → Option Scope → Expr → Option IE} (hc : ∀ sc raw X W, GX B T N k sc raw X W → ∀ e ir, c sc raw e = some ir → SndE B X W e ir) (G : GX B T N k sc raw X W) {elt tg iter : Expr} {ifs : List Expr} {scope : Scope} {ir : IE}
    (h : compLcS T N c sc elt tg iter ifs scope = some ir) : ∃ x px i t g tgi, iter = .Name x px ∧ ir = .comp .keys (.cons (.slz i) .nil) tgi t g ((ownOf N scope).map (·.2)) ∧ LcSOk B X elt tg ifs scope (ownOf N scope) t g tgi x i := by
  unfold compLcS at h
  cases q0 : keyN T N sc iter with
  | none => rw [q0] at h; cases h
  | some i0 =>
    rw [q0] at h
    simp only [Option.bind_some] at h
    obtain ⟨x, px, rfl, v1, v2, v4⟩ := keyN_of q0
    by_cases c1 : blkC N sc scope (ownOf N scope) = true ∧ T.hot = false
    · rw [if_pos c1] at h
      cases q2 : compTg N (relS scope sc) (some scope) tg with
      | none => rw [q2] at h; cases h
      | some tgi =>
        rw [q2] at h
        simp only [Option.bind_some] at h
        by_cases c2 : (tgIx tgi).all (fun i => ((ownOf N scope).map (·.2)).contains i) = true
        · rw [if_pos c2] at h
          cases q3 : compIfs (c (relS scope sc) (some scope)) ifs with
          | none => rw [q3] at h; cases h
          | some t =>
            rw [q3] at h
            simp only [Option.bind_some] at h
            cases q4 : c (relS scope sc) (some scope) elt with
            | none => rw [q4] at h; cases h
            | some g =>
              rw [q4] at h
              simp only [Option.bind_some] at h
              by_cases c3 : pureI t = true ∧ pureI g = true
              · rw [if_pos c3] at h
                cases h
                obtain ⟨n1, n2⟩ := nmc_of v2
                refine ⟨x, px, i0, t, g, tgi, rfl, rfl, by rw [G.hN]; exact idxN_get v4, vis_of G v1, n1, n2, G.calm c1.2, by rw [G.hN]; exact G.nd, by rw [G.hN, G.sc]; exact blkOk_by c1.1, fun s H C cl fp => sd_tg (gx_blk G c1.2 s H scope C cl fp) c1.2 q2, fun s H C cl fp => ?_, fun s H C cl fp => hc _ _ _ _ (gx_blk G c1.2 s H scope C cl fp) _ _ q4, fun i hi => ?_, c3.1, c3.2⟩
                · cases ifs with
                  | nil => cases q3; exact snt_nil
                  | cons a r =>
                    cases r with
                    | nil => exact snt_one (hc _ _ _ _ (gx_blk G c1.2 s H scope C cl fp) _ _ q3)
                    | cons _ _ => cases q3
                · rw [List.all_eq_true] at c2
                  simpa using c2 i hi
              · rw [if_neg c3] at h; cases h
        · rw [if_neg c2] at h; cases h
    · rw [if_neg c1] at h; cases h
theorem sd_lcS {c : Scope → Option Scope → Expr → Option IE} (hc : ∀ sc raw X W, GX B T N k sc raw X W → ∀ e ir, c sc raw e = some ir → SndE B X W e ir) (G : GX B T N k sc raw X W) {elt tg iter : Expr} {ifs : List Expr} {scope : Scope} {pos : Pos} {ir : IE}
    (h : compLcS T N c sc elt tg iter ifs scope = some ir) : SndE B X W (.ListComp elt [⟨tg, iter, ifs, 0⟩] scope pos) ir := by
  obtain ⟨x, px, i, t, g, tgi, rfl, rfl, o⟩ := lcS_of hc G h
  exact snd_lcS G.hK o

/-! ### expressions -/
def compO (c : Expr → Option IE) : Option Expr → Option IE
  | none => some (.con .non)
  | some e => (c e).map .bnd
theorem sd_o {c : Expr → Option IE} (hc : ∀ e ir, c e = some ir → SndE B X W e ir) {o : Option Expr} {ir : IE} (h : compO c o = some ir) : SndP B X W o ir := by
  cases o with
  | none => cases h; exact snp_none
  | some e =>
    have h : (c e).map IE.bnd = some ir := h
    cases q : c e with
    | none => rw [q] at h; cases h
    | some a => rw [q] at h; cases h; exact snp_some (hc _ _ q)
def compConst : Const → Option IE
  | .int i => some (.con (.int i))
  | .str s => if PyData.strOk s = true then some (.con (.str s)) else none
  | .bool b => some (.con (.bl b))
  | .none => some (.con .non)
  | _ => none
/-- [::-1] -/
def revC : Option Expr → Option Expr → Expr → Bool
  | none, none, .UnaryOp .USub (.Constant (.int 1) _ _) _ => true
  | _, _, _ => false
theorem rev_of {lo hi : Option Expr} {st : Expr} (h : revC lo hi st = true) : lo = none ∧ hi = none ∧ ∃ j p1 p2, st = .UnaryOp .USub (.Constant (.int 1) j p1) p2 := by
  unfold revC at h
  split at h
  · exact ⟨rfl, rfl, _, _, _, rfl⟩
  · cases h
def dnew (T : Tab) (pos : Pos) : IE := if T.dts.contains (pos.line, pos.col) = true then .con (.dt [] []) else .con (.dk [] [])
def compX (T : Tab) (N : List Str) (c : Scope → Option Scope → Expr → Option IE) (sc : Scope) (raw : Option Scope) (e : Expr) : Option IE :=
  match e with
  | .Constant x _ _ => compConst x
  | .Name x _ => compName T N sc x
  | .Tuple es _ _ => (compAs (c sc raw) es).map .tup
  | .List es _ => (compAs (c sc raw) es).map .lst
  | .Dict [] [] pos => some (dnew T pos)
  | .UnaryOp .USub a _ => (c sc raw a).map .neg
  | .UnaryOp .Not a _ => (c sc raw a).map .not
  | .BinOp a op b _ => (binC op).bind fun o => (c sc raw a).bind fun x => (c sc raw b).map fun y => .bin o x y
  | .BoolOp op es _ => compBO (c sc raw) op es
  | .Compare a [op] [b] _ => (cmpC op b).bind fun o => (c sc raw a).bind fun x => (c sc raw b).map fun y => .cmp o x y
  | .Compare a [op, op'] [b, d] _ => (chC op).bind fun o => (chC op').bind fun o' => (c sc raw a).bind fun x => (c sc raw b).bind fun y => (c sc raw d).map fun z => .chain o o' x y z
  | .IfExp t a b _ => (c sc raw t).bind fun x => (c sc raw a).bind fun y => (c sc raw b).map fun z => .ite x y z
  | .Subscript a (.Slice lo hi none _) _ => (c sc raw a).bind fun x => (compO (c sc raw) lo).bind fun y => (compO (c sc raw) hi).map fun z => .sli x y z
  | .Subscript a (.Slice lo hi (some st) _) _ => if revC lo hi st = true then (c sc raw a).map .rvs else none
  | .Subscript a i _ => if noSlice i = true then (c sc raw a).bind fun x => (c sc raw i).map fun y => .sub x y else none
  | .Call (.Name f _) es [] _ => compCall T N sc (c sc raw) f es
  | .Call (.Attribute o m apos) es [] cpos => compMeth T (c sc raw) o m apos cpos es
  | .Attribute o f _ => compFld T (c sc raw) o f
  | .ListComp elt [⟨tg, iter, ifs, 0⟩] scope _ => if isDF T iter = true then compLcK T N c sc elt tg iter ifs scope else if isDN T iter = true then compLcS T N c sc elt tg iter ifs scope else (compLc T N c sc raw elt tg iter ifs scope).map fun r => lcIR r N scope
  | _ => none
theorem bind2 {α β γ : Type} {a : Option α} {b : Option β} {f : α → β → γ} {r : γ} (h : (a.bind fun x => b.map fun y => f x y) = some r) : ∃ x y, a = some x ∧ b = some y ∧ r = f x y := by
  cases a with
  | none => cases h
  | some x =>
    cases b with
    | none => cases h
    | some y => cases h; exact ⟨x, y, rfl, rfl, rfl⟩
theorem bind1 {α γ : Type} {a : Option α} {f : α → Option γ} {r : γ} (h : a.bind f = some r) : ∃ x, a = some x ∧ f x = some r := by
  cases a with
  | none => cases h
  | some x => exact ⟨x, rfl, h⟩
theorem map1 {α γ : Type} {a : Option α} {f : α → γ} {r : γ} (h : a.map f = some r) : ∃ x, a = some x ∧ r = f x := by
  cases a with
  | none => cases h
  | some x => cases h; exact ⟨x, rfl, rfl⟩
theorem sd_x {c : Scope → Option Scope → Expr → Option IE} (hc : ∀ sc raw X W, GX B T N k sc raw X W → ∀ e ir, c sc raw e = some ir → SndE B X W e ir) (G : GX B T N k sc raw X W) {e : Expr} {ir : IE} (h : compX T N c sc raw e = some ir) : SndE B X W e ir := by
  have hh := hc sc raw X W G
  unfold compX at h
  split at h
  · rename_i x j pos
    cases x <;> first | cases h | skip
    · exact snd_non
    · exact snd_bl
    · exact snd_int
    · rename_i s
      unfold compConst at h
      by_cases c : PyData.strOk s = true
      · simp only [c, if_true] at h; cases h; exact snd_str c
      · simp only [c, if_false] at h; cases h
  · exact sd_name G h
  · obtain ⟨ia, q, rfl⟩ := map1 h
    exact snd_tup (sd_as hh q).1
  · obtain ⟨ia, q, rfl⟩ := map1 h
    exact snd_lst (sd_as hh q).1
  · cases h
    unfold dnew
    split
    · exact snd_dnewT
    · exact snd_dnewK
  · obtain ⟨ia, q, rfl⟩ := map1 h
    exact snd_neg (hh _ _ q)
  · obtain ⟨ia, q, rfl⟩ := map1 h
    exact snd_not (hh _ _ q)
  · obtain ⟨o, q1, h⟩ := bind1 h
    obtain ⟨x, y, q2, q3, rfl⟩ := bind2 h
    exact sd_bin G q1 (hh _ _ q2) (hh _ _ q3)
  · exact snd_bool (sd_bo hh h)
  · obtain ⟨o, q1, h⟩ := bind1 h
    obtain ⟨x, y, q2, q3, rfl⟩ := bind2 h
    exact sd_cmp G q1 (hh _ _ q2) (hh _ _ q3)
  · obtain ⟨o, q1, h⟩ := bind1 h
    obtain ⟨o', q2, h⟩ := bind1 h
    obtain ⟨x, q3, h⟩ := bind1 h
    obtain ⟨y, z, q4, q5, rfl⟩ := bind2 h
    exact snd_chain (sd_ch q1) (sd_ch q2) (noMark q2) (noMark q1) (hh _ _ q3) (hh _ _ q4) (hh _ _ q5)
  · obtain ⟨x, q3, h⟩ := bind1 h
    obtain ⟨y, z, q4, q5, rfl⟩ := bind2 h
    exact snd_ite (hh _ _ q3) (hh _ _ q4) (hh _ _ q5)
  · obtain ⟨x, q3, h⟩ := bind1 h
    obtain ⟨y, z, q4, q5, rfl⟩ := bind2 h
    exact snd_sli G.hK (hh _ _ q3) (sd_o hh q4) (sd_o hh q5)
  · rename_i a lo hi st p1 p2
    by_cases cr : revC lo hi st = true
    · rw [if_pos cr] at h
      obtain ⟨ia, q, rfl⟩ := map1 h
      obtain ⟨rfl, rfl, j, p3, p4, rfl⟩ := rev_of cr
      exact snd_rvs G.hK (hh _ _ q)
    · rw [if_neg cr] at h; cases h
  · rename_i a i pos hne _
    by_cases c1 : noSlice i = true
    · rw [if_pos c1] at h
      obtain ⟨x, y, q2, q3, rfl⟩ := bind2 h
      exact snd_subs c1 G.hK G.roomH (hh _ _ q2) (hh _ _ q3)
    · rw [if_neg c1] at h; cases h
  · exact sd_call G hh h
  · exact sd_meth G hh h
  · exact sd_fld G hh h
  · rename_i elt tg iter ifs scope pos
    by_cases cd : isDF T iter = true
    · rw [if_pos cd] at h
      exact (sd_lcK hc G h).2
    · rw [if_neg cd] at h
      by_cases ce : isDN T iter = true
      · rw [if_pos ce] at h
        exact sd_lcS hc G h
      rw [if_neg ce] at h
      obtain ⟨r, q, rfl⟩ := map1 h
      exact snd_lc G.hK (sd_lc hc G q)
  · cases h
def compE (T : Tab) (N : List Str) : Nat → Scope → Option Scope → Expr → Option IE
  | 0, _, _, _ => none
  | n + 1, sc, raw, e => compX T N (compE T N n) sc raw e
theorem sd_e : ∀ (n : Nat) (sc : Scope) (raw : Option Scope) (X : Cx) (W : WX), GX B T N k sc raw X W → ∀ e ir, compE T N n sc raw e = some ir → SndE B X W e ir
  | 0, _, _, _, _, _, _, _, h => by cases h
  | n + 1, sc, raw, X, W, G, e, ir, h => sd_x (sd_e n) G h
def noCall : Expr → Bool
  | .Call _ _ _ _ => false
  | _ => true
/-- forms that make a new container -/
def isNew (T : Tab) (sc : Scope) : Expr → Bool
  | .List _ _ => true
  | .Dict [] [] _ => true
  | .ListComp _ [⟨_, iter, _, _⟩] _ _ => !isDF T iter && !isDN T iter
  | .BinOp _ .Add _ _ => true
  | .BinOp _ .Mult _ _ => true
  | .Subscript _ (.Slice _ _ none _) _ => true
  | .Call (.Name f _) [e] [] _ => T.hot = false ∧ (f = "list" ∨ f = "dict" ∨ f = "sorted") ∧ bltC T sc f = true ∧ (look f T.fns).isNone = true ∧ (look f T.clsl).isNone = true ∧ noCall e = true
  | _ => false
theorem sd_new {c : Scope → Option Scope → Expr → Option IE} (hc : ∀ sc raw X W, GX B T N k sc raw X W → ∀ e ir, c sc raw e = some ir → SndE B X W e ir) (G : GX B T N k sc raw X W) {e : Expr} {ir : IE} (hn : isNew T sc e = true) (h : compX T N c sc raw e = some ir) : SndN B X W e ir := by
  have hh := hc sc raw X W G
  unfold isNew at hn
  split at hn
  · obtain ⟨ia, q, rfl⟩ := map1 h
    exact snn_lst (sd_as hh q).1
  · have h : some (dnew T _) = some ir := h
    cases h
    unfold dnew
    split
    · exact snn_dnewT
    · exact snn_dnewK
  · rename_i elt tg0 iter0 ifs0 as0 scope pos
    unfold compX at h
    split at h <;> first | (rename_i e1; cases e1; done) | skip
    all_goals first | cases h; done | skip
    rename_i elt' tg iter ifs scope' pos' e1
    cases e1
    have cd : ¬ isDF T iter0 = true ∧ ¬ isDN T iter0 = true := by simpa using hn
    rw [if_neg cd.1, if_neg cd.2] at h
    obtain ⟨r, q, rfl⟩ := map1 h
    exact snn_lc G.hK (sd_lc hc G q)
  · rename_i a b pos
    obtain ⟨x, y, q2, q3, rfl⟩ := bind2 (show ((c sc raw a).bind fun x => (c sc raw b).map fun y => IE.bin .add x y) = some ir from h)
    exact snn_add (hh _ _ q2) (hh _ _ q3)
  · rename_i a b pos
    obtain ⟨x, y, q2, q3, rfl⟩ := bind2 (show ((c sc raw a).bind fun x => (c sc raw b).map fun y => IE.bin .mul x y) = some ir from h)
    exact snn_mul (hh _ _ q2) (hh _ _ q3)
  · obtain ⟨x, q3, h⟩ := bind1 h
    obtain ⟨y, z, q4, q5, rfl⟩ := bind2 h
    exact snn_sli (hh _ _ q3) (sd_o hh q4) (sd_o hh q5)
  · rename_i f p e pos
    have hn : T.hot = false ∧ (f = "list" ∨ f = "dict" ∨ f = "sorted") ∧ bltC T sc f = true ∧ (look f T.fns).isNone = true ∧ (look f T.clsl).isNone = true ∧ noCall e = true := by simpa using hn
    obtain ⟨n0, n1, n2, n3, n4, n5⟩ := hn
    have h : compCall T N sc (c sc raw) f [e] = some ir := h
    unfold compCall at h
    by_cases g : glC sc f = true ∧ nmC f = true
    · rw [if_pos g, if_neg (by rw [n0]; simp)] at h
      unfold compCold at h
      cases q : look f T.fns with
      | some _ => rw [q] at n3; cases n3
      | none =>
        rw [q] at h
        simp only at h
        cases qc : look f T.clsl with
        | some _ => rw [qc] at n4; cases n4
        | none =>
        rw [qc] at h
        simp only at h
        rw [if_pos n2] at h
        have hlr : compLR T sc (c sc raw) f [e] = none := by
          cases e <;> first | rfl | cases n5
        rw [hlr] at h
        have h : ((bi1C f).bind fun b => (compAs (c sc raw) [e]).map fun ia => IE.bi b ia) = some ir := h
        obtain ⟨hg, hm⟩ := blt_of G n2
        rcases n1 with n1 | n1 | n1
        · have e1 : bi1C f = some .list := by rw [n1]; kernel_rfl
          rw [e1] at h
          obtain ⟨ia, q2, rfl⟩ := map1 (show (compAs (c sc raw) [e]).map (fun ia => IE.bi Bi.list ia) = some ir from h)
          obtain ⟨h1, h2, h3⟩ := sd_as hh q2
          exact snn_list n1 G.hK hg hm h1 h2
        · have e1 : bi1C f = some .dict := by rw [n1]; kernel_rfl
          rw [e1] at h
          obtain ⟨ia, q2, rfl⟩ := map1 (show (compAs (c sc raw) [e]).map (fun ia => IE.bi Bi.dict ia) = some ir from h)
          obtain ⟨h1, h2, h3⟩ := sd_as hh q2
          exact snn_dictC n1 G.hK (G.calm n0) hg hm h1 h2
        have e1 : bi1C f = some .srt := by rw [n1]; kernel_rfl
        rw [e1] at h
        obtain ⟨ia, q2, rfl⟩ := map1 (show (compAs (c sc raw) [e]).map (fun ia => IE.bi Bi.srt ia) = some ir from h)
        obtain ⟨h1, h2, h3⟩ := sd_as hh q2
        have hu : X.A.units + 65 < cLine := by have := G.roomH.un; omega
        exact snn_srt n1 (G.calm n0) G.hK hu hg hm h1 h2
    · rw [if_neg g] at h; cases h
  · cases hn
/-! ### statements -/
theorem sw_of {e : Expr} {t : Option Expr} {l : Nat} {env : Env} (h : (match e with | .ListComp _ _ _ _ | .SetComp _ _ _ _ | .DictComp _ _ _ _ _ => false | _ => true) = true) : swapsWith e t l env = pure false := by
  cases e <;> first | rfl | cases h
def noCmp : Expr → Bool
  | .ListComp _ _ _ _ | .SetComp _ _ _ _ | .DictComp _ _ _ _ _ => false
  | _ => true
theorem noCmp_of {e : Expr} {t : Option Expr} {l : Nat} {env : Env} (h : noCmp e = true) : swapsWith e t l env = pure false := by
  cases e <;> first | rfl | cases h
theorem sw_cell {e : Expr} {y : Str} {py : Pos} {l : Nat} {env : Env} (h : (env.scope.names.lookup y == some .local) = false) : swapsWith e (some (.Name y py)) l env = pure false := by
  have ky : (env.kindOf y == some .local) = false := h
  unfold swapsWith
  split
  · simp only [ky, Bool.and_false, Bool.false_and]
  · rfl
def stPos : Stmt → Nat × Nat
  | .Assign _ _ p => (p.line, p.col)
  | .Return _ p => (p.line, p.col)
  | .Expr _ p => (p.line, p.col)
  | .If _ _ _ p => (p.line, p.col)
  | .For _ _ _ _ p => (p.line, p.col)
  | .While _ _ _ p => (p.line, p.col)
  | _ => (0, 0)
def lookP (x : Nat × Nat) : List ((Nat × Nat) × List Nat) → List Nat
  | [] => []
  | (y, a) :: r => if y = x then a else lookP x r
def addFrz : List Nat → IS → IS
  | [], a => a
  | i :: r, a => .seq (.frz i) (addFrz r a)
def lookPF (x : Nat × Nat) : List ((Nat × Nat) × List (Nat × Str)) → List (Nat × Str)
  | [] => []
  | (y, a) :: r => if y = x then a else lookPF x r
def addFF (cs : List Nat) : List (Nat × Str) → IS → IS
  | [], a => a
  | (i, f) :: r, a => .seq (.ffrz cs i f) (addFF cs r a)
theorem sd_ff {sts : List Stmt} {a : IS} {cs : List Nat} (h : SndSs B X W sts a) : ∀ l : List (Nat × Str), SndSs B X W sts (addFF cs l a)
  | [] => h
  | (i, f) :: r => sns_preF (sd_ff h r)
def pre (T : Tab) (s : Stmt) (a : IS) : IS := addFF T.cids (lookPF (stPos s) T.ffz) (addFrz (lookP (stPos s) T.frz) a)
theorem sd_frz {sts : List Stmt} {a : IS} (h : SndSs B X W sts a) : ∀ l : List Nat, SndSs B X W sts (addFrz l a)
  | [] => h
  | i :: r => sns_pre (sd_frz h r)
theorem sd_pre {sts : List Stmt} {a : IS} {T : Tab} {st : Stmt} (h : SndSs B X W sts a) : SndSs B X W sts (pre T st a) := sd_ff (sd_frz h _) _
def compSs (T : Tab) (c : Stmt → Option IS) : List Stmt → Option IS
  | [] => some .skip
  | [s] => (c s).map fun a => pre T s a
  | s :: r :: rs => (c s).bind fun a => (compSs T c (r :: rs)).map fun b => pre T s (.seq a b)
theorem sd_ss {c : Stmt → Option IS} (hc : ∀ s ir, c s = some ir → SndS B X W s ir) : ∀ {sts : List Stmt} {ir : IS}, compSs T c sts = some ir → SndSs B X W sts ir
  | [], ir, h => by cases h; exact sns_nil
  | [s], ir, h => by
    obtain ⟨a, q, rfl⟩ := map1 (show (c s).map (fun a => pre T s a) = some ir from h)
    exact sd_pre (sns_one (hc _ _ q))
  | s :: r :: rs, ir, h => by
    obtain ⟨a, b, q1, q2, rfl⟩ := bind2 (show ((c s).bind fun a => (compSs T c (r :: rs)).map fun b => pre T s (.seq a b)) = some ir from h)
    exact sd_pre (sns_cons (hc _ _ q1) (sd_ss hc q2))
def isDoc : Expr → Bool
  | .Constant (.str _) _ _ => true
  | _ => false
def ownName (scope : Scope) (x : Str) : Bool := scope.names.any fun (n, k) => n == x && (k == .local || k == .cell)
/-- name = e -/
def compSet (T : Tab) (N : List Str) (c : Scope → Option Scope → Expr → Option IE) (sc : Scope) (raw : Option Scope) (x : Str) (py : Pos) (e : Expr) (pos : Pos) : Option IS :=
  if locC sc raw x = true then (idxN N x).bind fun i => (compX T N c sc raw e).bind fun ia =>
    let own := T.owns.contains (pos.line, pos.col)
    if noCmp e = true ∨ (sc.names.lookup x == some .local) = false then
      (if own = true then (if isNew T sc e = true then some (.own i ia) else none) else some (.asg (.nm i) ia))
    else (match e with
      | .ListComp _ gs scope lpos => if (py.line == lpos.line) = true ∧ ownName scope x = false ∧ (gs.all fun q => !isDF T q.iter) = true then (if (gs.all fun q => !isDN T q.iter) = true then some (if own = true then .own i ia else .asg (.nm i) ia) else if own = true then none else some (.asg (.nm i) ia)) else none
      | _ => none)
  else none
theorem sd_set {c : Scope → Option Scope → Expr → Option IE} (hc : ∀ sc raw X W, GX B T N k sc raw X W → ∀ e ir, c sc raw e = some ir → SndE B X W e ir) (G : GX B T N k sc raw X W) (hk : sc.kind = .function) {x : Str} {py pos : Pos} {e : Expr} {ir : IS} (h : compSet T N c sc raw x py e pos = some ir) : SndS B X W (.Assign [.Name x py] e pos) ir := by
  unfold compSet at h
  by_cases l : locC sc raw x = true
  · rw [if_pos l] at h
    obtain ⟨l1, l2⟩ := loc_of G l
    obtain ⟨i, q1, h⟩ := bind1 h
    obtain ⟨ia, q2, h⟩ := bind1 h
    have hi : X.N[i]? = some x := by rw [G.hN]; exact idxN_get q1
    have nd : X.N.Nodup := by rw [G.hN]; exact G.nd
    simp only at h
    by_cases s : noCmp e = true ∨ (sc.names.lookup x == some .local) = false
    · rw [if_pos s] at h
      have hs : swapsWith e (some (.Name x py)) pos.line X.env = pure false := by
        rcases s with s | s
        · exact noCmp_of s
        · exact sw_cell (by rw [G.sc]; exact s)
      by_cases o : T.owns.contains (pos.line, pos.col) = true
      · rw [if_pos o] at h
        by_cases n : isNew T sc e = true
        · rw [if_pos n] at h; cases h
          exact sns_own nd hi l1 (sd_new hc G n q2) hs l2
        · rw [if_neg n] at h; cases h
      · rw [if_neg o] at h; cases h
        exact sns_set G.hK nd hi l1 (sd_x hc G q2) hs l2
    · rw [if_neg s] at h
      obtain ⟨elt, gs, scope, lpos, rfl⟩ : ∃ elt gs scope lpos, e = .ListComp elt gs scope lpos := by
        cases e <;> first | exact ⟨_, _, _, _, rfl⟩ | cases h
      · have h : (if (py.line == lpos.line) = true ∧ ownName scope x = false ∧ (gs.all fun q => !isDF T q.iter) = true then (if (gs.all fun q => !isDN T q.iter) = true then some (if T.owns.contains (pos.line, pos.col) = true then IS.own i ia else IS.asg (Tg.nm i) ia) else if T.owns.contains (pos.line, pos.col) = true then none else some (IS.asg (Tg.nm i) ia)) else none) = some ir := h
        by_cases c2 : (py.line == lpos.line) = true ∧ ownName scope x = false ∧ (gs.all fun q => !isDF T q.iter) = true
        · rw [if_pos c2] at h
          by_cases c5 : (gs.all fun q => !isDN T q.iter) = true
          rotate_left
          · rw [if_neg c5] at h
            by_cases o : T.owns.contains (pos.line, pos.col) = true
            · rw [if_pos o] at h; cases h
            rw [if_neg o] at h
            cases h
            have loc : sc.names.lookup x = some .local := by
              have : ¬ (sc.names.lookup x == some .local) = false := fun z => s (.inr z)
              rw [Bool.not_eq_false] at this
              exact eq_of_beq this
            have hr : ∃ tg iter ifs, gs = [⟨tg, iter, ifs, 0⟩] ∧ compLcS T N c sc elt tg iter ifs scope = some ia := by
              unfold compX at q2
              split at q2 <;> first | (rename_i e1; cases e1; done) | skip
              all_goals first | cases q2; done | skip
              rename_i elt' tg iter ifs scope' pos' e1
              cases e1
              have cd : ¬ isDF T iter = true := by simpa using c2.2.2
              have ce : isDN T iter = true := by simpa using c5
              rw [if_neg cd, if_pos ce] at q2
              exact ⟨tg, iter, ifs, rfl, q2⟩
            obtain ⟨tg, iter, ifs, rfl, q⟩ := hr
            have lk : X.env.scope.names.lookup x = some .local := by rw [G.sc]; exact loc
            have hsw : swapsWith (.ListComp elt [⟨tg, iter, ifs, 0⟩] scope lpos) (some (.Name x py)) pos.line X.env = pure true := sw_true (by rw [G.sc]; exact hk) lk c2.1 c2.2.1
            obtain ⟨x', px, i', t, g, tgi, rfl, rfl, oo⟩ := lcS_of hc G q
            exact sns_setLcS G.hK hi lk hsw oo
          rw [if_pos c5] at h
          have e3 : ir = (if T.owns.contains (pos.line, pos.col) = true then IS.own i ia else IS.asg (Tg.nm i) ia) := (Option.some.inj h).symm
          clear h
          have loc : sc.names.lookup x = some .local := by
            have : ¬ (sc.names.lookup x == some .local) = false := fun z => s (.inr z)
            rw [Bool.not_eq_false] at this
            exact eq_of_beq this
          have hr : ∃ r tg iter ifs, gs = [⟨tg, iter, ifs, 0⟩] ∧ compLc T N c sc raw elt tg iter ifs scope = some r ∧ ia = lcIR r N scope := by
            unfold compX at q2
            split at q2 <;> first | (rename_i e1; cases e1; done) | skip
            all_goals first | cases q2; done | skip
            rename_i elt' tg iter ifs scope' pos' e1
            cases e1
            have cd : ¬ isDF T iter = true := by simpa using c2.2.2
            have ce : ¬ isDN T iter = true := by simpa using c5
            rw [if_neg cd, if_neg ce] at q2
            obtain ⟨r, q, rfl⟩ := map1 q2
            exact ⟨r, tg, iter, ifs, rfl, q, rfl⟩
          obtain ⟨r, tg, iter, ifs, rfl, q, rfl⟩ := hr
          have lk : X.env.scope.names.lookup x = some .local := by rw [G.sc]; exact loc
          have hsw : swapsWith (.ListComp elt [⟨tg, iter, ifs, 0⟩] scope lpos) (some (.Name x py)) pos.line X.env = pure true := sw_true (by rw [G.sc]; exact hk) lk c2.1 c2.2.1
          rw [e3]
          by_cases o : T.owns.contains (pos.line, pos.col) = true
          · rw [if_pos o]
            exact sns_ownLc G.hK hi lk hsw (sd_lc hc G q)
          · rw [if_neg o]
            exact sns_setLc G.hK hi lk hsw (sd_lc hc G q)
        · rw [if_neg c2] at h; cases h
  · rw [if_neg l] at h; cases h
def isName : Expr → Bool
  | .Name _ _ => true
  | _ => false
def isTupE : Expr → Bool
  | .Tuple _ _ _ => true
  | _ => false
/-- x, y = a, b -/
def parOk (sc : Scope) (x y : Str) (px py : Pos) (a b : Expr) : Bool := noStar a && noStar b && (sc.names.lookup x == some .local) && (sc.names.lookup y == some .local) && !decide (x = y) && (px.line == py.line) && !([a, b].all (foldedForSure 8)) && !([a, b].all (constantsAlone 8))
def compPar (T : Tab) (N : List Str) (c : Scope → Option Scope → Expr → Option IE) (sc : Scope) (raw : Option Scope) : List Expr → List Expr → Option IS
  | [.Name x px, .Name y py], [a, b] => if T.hot = false ∧ parOk sc x y px py a b = true then (idxN N x).bind fun i => (idxN N y).bind fun j => (c sc raw a).bind fun ia => (c sc raw b).map fun ib => .par i j ia ib else none
  | _, _ => none
theorem par_stores {sc : Scope} {x y : Str} {px py pt : Pos} {a b : Expr} {kt k2 : Nat} {pt2 : Pos} {env : Env} (hsc : env.scope = sc) (hk : sc.kind = .function) (h : parOk sc x y px py a b = true) : swappedStores [.Tuple [.Name x px, .Name y py] kt pt] (.Tuple [a, b] k2 pt2) env = pure (some [x, y]) := by
  unfold parOk at h
  simp only [Bool.and_eq_true, Bool.not_eq_true', decide_eq_false_iff_not] at h
  obtain ⟨⟨⟨⟨⟨⟨⟨h1, h2⟩, h3⟩, h4⟩, h5⟩, h6⟩, h7⟩, h8⟩ := h
  have kx : (env.kindOf x == some .local) = true := by show (env.scope.names.lookup x == _) = _; rw [hsc]; exact h3
  have ky : (env.kindOf y == some .local) = true := by show (env.scope.names.lookup y == _) = _; rw [hsc]; exact h4
  have bk : env.blockKind = .function := by unfold Env.blockKind; rw [hsc, hk]; rfl
  have ns : ([a, b].any fun | .Starred .. => true | _ => false) = false := by
    cases a <;> first | (cases h1; done) | (cases b <;> first | (cases h2; done) | rfl)
  have h5' : ¬ y = x := fun z => h5 z.symm
  have h6' : px.line = py.line := by simpa using h6
  have h7' : ([a, b].all (foldedForSure 8)) = false := h7
  have h8' : ([a, b].all (constantsAlone 8)) = false := h8
  have ep : ∀ n p, (Expr.Name n p).pos = p := fun _ _ => rfl
  have nm : ([Expr.Name x px, Expr.Name y py].filterMap fun e => match e with
    | .Name id pos => if env.kindOf id == some .local && pos.line == px.line then some id else none
    | _ => none) = [x, y] := by
    have kx' : env.kindOf x = some .local := by simpa using kx
    have ky' : env.kindOf y = some .local := by simpa using ky
    simp [List.filterMap_cons, kx', ky', h6']
  have ed : ([x, y].eraseDups.length != [x, y].length) = false := by
    simp [List.eraseDups_cons, h5', h5]
  unfold swappedStores
  simp only [pure_bind, bk, ns]
  rw [if_neg (by simp)]
  generalize hA : ([a, b].any _) = A
  have hA2 : A = false := hA.symm.trans ns
  subst hA2
  rw [if_neg (by simp)]
  generalize hL : (List.filterMap _ [Expr.Name x px, Expr.Name y py]) = L
  have hL2 : L = [x, y] := hL.symm.trans nm
  subst hL2
  rw [if_neg (by rw [ed]; simp), if_neg (by rw [h7']; simp), if_neg (by rw [h8']; simp)]
theorem sd_par {c : Scope → Option Scope → Expr → Option IE} (hc : ∀ sc raw X W, GX B T N k sc raw X W → ∀ e ir, c sc raw e = some ir → SndE B X W e ir) (G : GX B T N k sc raw X W) (hk : sc.kind = .function) {es vs : List Expr} {kk k2 : Nat} {tp tp2 pos : Pos} {ir : IS} (h : compPar T N c sc raw es vs = some ir) : SndS B X W (.Assign [.Tuple es kk tp] (.Tuple vs k2 tp2) pos) ir := by
  unfold compPar at h
  split at h
  · rename_i x px y py a b
    by_cases g : T.hot = false ∧ parOk sc x y px py a b = true
    · rw [if_pos g] at h
      obtain ⟨ht, g⟩ := g
      obtain ⟨i, q1, h⟩ := bind1 h
      obtain ⟨j, q2, h⟩ := bind1 h
      obtain ⟨ia, ib, q3, q4, rfl⟩ := bind2 h
      have hw := par_stores (pt := tp) (kt := kk) (k2 := k2) (pt2 := tp2) G.sc hk g
      unfold parOk at g
      simp only [Bool.and_eq_true, Bool.not_eq_true', decide_eq_false_iff_not] at g
      obtain ⟨⟨⟨⟨⟨⟨⟨h1, h2⟩, h3⟩, h4⟩, h5⟩, h6⟩, h7⟩, h8⟩ := g
      have e1 := idxN_get q1
      have e2 := idxN_get q2
      have hij : i ≠ j := fun z => by subst z; rw [e1] at e2; cases e2; exact h5 rfl
      exact sns_par (G.calm ht) (by rw [G.hN]; exact G.nd) (by rw [G.hN]; exact e1) (by rw [G.hN]; exact e2) hij (by rw [G.sc]; exact eq_of_beq h3) (by rw [G.sc]; exact eq_of_beq h4) (hc _ _ _ _ G _ _ q3) (hc _ _ _ _ G _ _ q4) h1 h2 hw (show swapsWith (.Tuple [a, b] k2 tp2) (some (.Tuple [.Name x px, .Name y py] kk tp)) pos.line X.env = pure false from noCmp_of rfl)
    · rw [if_neg g] at h; cases h
  · cases h
def compTup (T : Tab) (N : List Str) (c : Scope → Option Scope → Expr → Option IE) (sc : Scope) (raw : Option Scope) (es : List Expr) (kk : Nat) (tp : Pos) (e : Expr) : Option IS :=
  if isTupE e = false ∧ noCmp e = true ∧ T.hot = false then (compTg N sc raw (.Tuple es kk tp)).bind fun tg => (c sc raw e).map fun ia => .asg tg ia else none
theorem sd_tup {c : Scope → Option Scope → Expr → Option IE} (hc : ∀ sc raw X W, GX B T N k sc raw X W → ∀ e ir, c sc raw e = some ir → SndE B X W e ir) (G : GX B T N k sc raw X W) {es : List Expr} {kk : Nat} {tp pos : Pos} {e : Expr} {ir : IS} (h : compTup T N c sc raw es kk tp e = some ir) : SndS B X W (.Assign [.Tuple es kk tp] e pos) ir := by
  unfold compTup at h
  by_cases c1 : isTupE e = false ∧ noCmp e = true ∧ T.hot = false
  · rw [if_pos c1] at h
    obtain ⟨tg, ia, q1, q2, rfl⟩ := bind2 h
    refine sns_asg G.hK (hc _ _ _ _ G _ _ q2) (sd_tg G c1.2.2 q1) (show swapsWithSole [Expr.Tuple es kk tp] e pos.line X.env = pure false from (show swapsWith e (some (Expr.Tuple es kk tp)) pos.line X.env = pure false from noCmp_of c1.2.1)) ?_ rfl
    have := c1.1
    cases e <;> first | rfl | cases this
  · rw [if_neg c1] at h; cases h
def compApp (N : List Str) (c : Scope → Option Scope → Expr → Option IE) (sc : Scope) (raw : Option Scope) (x : Str) (e : Expr) (apos cpos : Pos) : Option IS :=
  if visC sc x = true ∧ nmC x = true ∧ noStar e = true ∧ (apos.endLine == cpos.line) = true then (idxN N x).bind fun i => (c sc raw e).map fun ia => .app i ia else none
theorem sd_app {c : Scope → Option Scope → Expr → Option IE} (hc : ∀ sc raw X W, GX B T N k sc raw X W → ∀ e ir, c sc raw e = some ir → SndE B X W e ir) (G : GX B T N k sc raw X W) {x : Str} {p apos cpos pos : Pos} {e : Expr} {ir : IS} (h : compApp N c sc raw x e apos cpos = some ir) : SndS B X W (.Expr (.Call (.Attribute (.Name x p) "append" apos) [e] [] cpos) pos) ir := by
  unfold compApp at h
  by_cases c1 : visC sc x = true ∧ nmC x = true ∧ noStar e = true ∧ (apos.endLine == cpos.line) = true
  · rw [if_pos c1] at h
    obtain ⟨i, ia, q1, q2, rfl⟩ := bind2 h
    obtain ⟨n1, n2⟩ := nmc_of c1.2.1
    exact sns_app (by rw [G.hN]; exact idxN_get q1) (vis_of G c1.1) n1 n2 (hc _ _ _ _ G _ _ q2) c1.2.2.1 c1.2.2.2
  · rw [if_neg c1] at h; cases h
/-- o.f = e -/
theorem sw_attr {e o : Expr} {f : Str} {p : Pos} {l : Nat} {env : Env} : swapsWith e (some (.Attribute o f p)) l env = pure false := by
  cases e <;> rfl
def compFmov (T : Tab) (N : List Str) (sc : Scope) (io : IE) (f : Str) : Expr → Option IS
  | .Name x _ => if visC sc x = true ∧ nmC x = true then (idxN N x).map fun i => .fmov T.cids io f i else none
  | _ => none
theorem fmov_of {io : IE} {f : Str} {e : Expr} {ir : IS} (h : compFmov T N sc io f e = some ir) : ∃ x px i, e = .Name x px ∧ visC sc x = true ∧ nmC x = true ∧ idxN N x = some i ∧ ir = .fmov T.cids io f i := by
  cases e <;> first | (cases h; done) | skip
  rename_i x px
  have h : (if visC sc x = true ∧ nmC x = true then (idxN N x).map fun i => IS.fmov T.cids io f i else none) = some ir := h
  by_cases v : visC sc x = true ∧ nmC x = true
  · rw [if_pos v] at h
    obtain ⟨i, q3, rfl⟩ := map1 h
    exact ⟨x, px, i, rfl, v.1, v.2, q3, rfl⟩
  · rw [if_neg v] at h; cases h
def compFset (T : Tab) (N : List Str) (c : Scope → Option Scope → Expr → Option IE) (sc : Scope) (raw : Option Scope) (o : Expr) (f : Str) (e : Expr) (pos : Pos) : Option IS :=
  if T.flds.contains f = true then (c sc raw o).bind fun io => (compX T N c sc raw e).bind fun ie =>
    if T.owns.contains (pos.line, pos.col) = true then (if isNew T sc e = true then some (.fown T.cids io f ie) else compFmov T N sc io f e) else some (.fset T.cids io f ie)
  else none
theorem sd_fset {c : Scope → Option Scope → Expr → Option IE} (hc : ∀ sc raw X W, GX B T N k sc raw X W → ∀ e ir, c sc raw e = some ir → SndE B X W e ir) (G : GX B T N k sc raw X W) {o e : Expr} {f : Str} {pos pos' : Pos} {ir : IS} (h : compFset T N c sc raw o f e pos = some ir) : SndS B X W (.Assign [.Attribute o f pos'] e pos) ir := by
  unfold compFset at h
  by_cases g : T.flds.contains f = true
  · rw [if_pos g] at h
    obtain ⟨io, q1, h⟩ := bind1 h
    obtain ⟨ie, q2, h⟩ := bind1 h
    have hcc : ∀ cc ∈ T.cids, Cls X.K (B.ca cc) ∧ NoAttr X.K (B.ca cc) f := fun cc hcc => ⟨(G.tab.flds cc hcc).1, (G.tab.flds cc hcc).2 f (by simpa using g)⟩
    by_cases o : T.owns.contains (pos.line, pos.col) = true
    · rw [if_pos o] at h
      by_cases n : isNew T sc e = true
      · rw [if_pos n] at h; cases h
        exact sns_fown hcc (hc _ _ _ _ G _ _ q1) (sd_new hc G n q2) sw_attr
      · rw [if_neg n] at h
        obtain ⟨x, px, i, rfl, v1, v2, q3, rfl⟩ := fmov_of h
        obtain ⟨n1, n2⟩ := nmc_of v2
        exact sns_fmov (by rw [G.hN]; exact idxN_get q3) (vis_of G v1) n1 n2 hcc (hc _ _ _ _ G _ _ q1)
    · rw [if_neg o] at h; cases h
      exact sns_fset hcc (hc _ _ _ _ G _ _ q1) (sd_x hc G q2) sw_attr
  · rw [if_neg g] at h; cases h
def compSets (N : List Str) (c : Scope → Option Scope → Expr → Option IE) (sc : Scope) (raw : Option Scope) (x : Str) (kx e : Expr) : Option IS :=
  if visC sc x = true ∧ nmC x = true ∧ noSlice kx = true then (idxN N x).bind fun i => (c sc raw kx).bind fun ik => (c sc raw e).map fun ia => .sets i ik ia else none
theorem sd_sets {c : Scope → Option Scope → Expr → Option IE} (hc : ∀ sc raw X W, GX B T N k sc raw X W → ∀ e ir, c sc raw e = some ir → SndE B X W e ir) (G : GX B T N k sc raw X W) {x : Str} {p tpos pos : Pos} {kx e : Expr} {ir : IS} (h : compSets N c sc raw x kx e = some ir) : SndS B X W (.Assign [.Subscript (.Name x p) kx tpos] e pos) ir := by
  unfold compSets at h
  by_cases c1 : visC sc x = true ∧ nmC x = true ∧ noSlice kx = true
  · rw [if_pos c1] at h
    obtain ⟨i, q1, h⟩ := bind1 h
    obtain ⟨ik, ia, q2, q3, rfl⟩ := bind2 h
    obtain ⟨n1, n2⟩ := nmc_of c1.2.1
    have hu : X.A.units + 1 < cLine := by have := G.roomH.un; omega
    exact sns_sets (by rw [G.hN]; exact idxN_get q1) (vis_of G c1.1) n1 n2 hu c1.2.2 (hc _ _ _ _ G _ _ q2) (hc _ _ _ _ G _ _ q3)
  · rw [if_neg c1] at h; cases h
def compFsets (T : Tab) (c : Scope → Option Scope → Expr → Option IE) (sc : Scope) (raw : Option Scope) (o : Expr) (f : Str) (kx e : Expr) : Option IS :=
  if noSuper o = true ∧ T.flds.contains f = true ∧ noSlice kx = true then (c sc raw o).bind fun io => (c sc raw kx).bind fun ik => if pureI ik = true then (c sc raw e).map fun ia => .fsets T.cids io f ik ia else none else none
theorem sd_fsets {c : Scope → Option Scope → Expr → Option IE} (hc : ∀ sc raw X W, GX B T N k sc raw X W → ∀ e ir, c sc raw e = some ir → SndE B X W e ir) (G : GX B T N k sc raw X W) {o : Expr} {f : Str} {p tpos pos : Pos} {kx e : Expr} {ir : IS} (h : compFsets T c sc raw o f kx e = some ir) : SndS B X W (.Assign [.Subscript (.Attribute o f p) kx tpos] e pos) ir := by
  unfold compFsets at h
  by_cases c1 : noSuper o = true ∧ T.flds.contains f = true ∧ noSlice kx = true
  · rw [if_pos c1] at h
    obtain ⟨io, q1, h⟩ := bind1 h
    obtain ⟨ik, q2, h⟩ := bind1 h
    by_cases c2 : pureI ik = true
    · rw [if_pos c2] at h
      obtain ⟨ia, q3, rfl⟩ := map1 h
      have hu : X.A.units + 1 < cLine := by have := G.roomH.un; omega
      have hcc : ∀ q ∈ T.cids, (Cls X.K (B.ca q) ∧ NoAttr X.K (B.ca q) f) := fun q hq => ⟨(G.tab.flds q hq).1, (G.tab.flds q hq).2 f (by simpa using c1.2.1)⟩
      exact sns_fsets (base_of c1.1) hcc hu c1.2.2 c2 (hc _ _ _ _ G _ _ q1) (hc _ _ _ _ G _ _ q2) (hc _ _ _ _ G _ _ q3)
    · rw [if_neg c2] at h; cases h
  · rw [if_neg c1] at h; cases h
def compFpop (T : Tab) (c : Scope → Option Scope → Expr → Option IE) (sc : Scope) (raw : Option Scope) (o : Expr) (f : Str) (kx : Expr) (apos cpos : Pos) : Option IS :=
  if noSuper o = true ∧ T.flds.contains f = true ∧ noStar kx = true ∧ (apos.endLine == cpos.line) = true then (c sc raw o).bind fun io => (c sc raw kx).bind fun ik => if pureI ik = true then some (.fpop T.cids io f ik) else none else none
theorem sd_fpop {c : Scope → Option Scope → Expr → Option IE} (hc : ∀ sc raw X W, GX B T N k sc raw X W → ∀ e ir, c sc raw e = some ir → SndE B X W e ir) (G : GX B T N k sc raw X W) {o : Expr} {f : Str} {p apos cpos pos : Pos} {kx : Expr} {ir : IS} (h : compFpop T c sc raw o f kx apos cpos = some ir) : SndS B X W (.Expr (.Call (.Attribute (.Attribute o f p) "pop" apos) [kx] [] cpos) pos) ir := by
  unfold compFpop at h
  by_cases c1 : noSuper o = true ∧ T.flds.contains f = true ∧ noStar kx = true ∧ (apos.endLine == cpos.line) = true
  · rw [if_pos c1] at h
    obtain ⟨io, q1, h⟩ := bind1 h
    obtain ⟨ik, q2, h⟩ := bind1 h
    by_cases c2 : pureI ik = true
    · rw [if_pos c2] at h
      cases h
      exact sns_fpop (base_of c1.1) (base_of rfl) c1.2.2.2 (fun q hq => ⟨(G.tab.flds q hq).1, (G.tab.flds q hq).2 f (by simpa using c1.2.1)⟩) c1.2.2.1 c2 (hc _ _ _ _ G _ _ q1) (hc _ _ _ _ G _ _ q2) rfl
    · rw [if_neg c2] at h; cases h
  · rw [if_neg c1] at h; cases h
/-- return (m.pop(k), m) if t else b -/
def compRetPop (N : List Str) (c : Scope → Option Scope → Expr → Option IE) (sc : Scope) : Expr → Option IS
  | .IfExp t (.Tuple [.Call (.Attribute (.Name m _) mm pa) [kx] [] pc, .Name m' _] _ _) b _ =>
    if mm = "pop" ∧ m' = m ∧ visC sc m = true ∧ nmC m = true ∧ noStar kx = true ∧ (pa.endLine == pc.line) = true then
      (idxN N m).bind fun i => (c sc none t).bind fun it => (c sc none kx).bind fun ik => (c sc none b).map fun ib => .retPop it i ik ib
    else none
  | _ => none
theorem sd_retPop {c : Scope → Option Scope → Expr → Option IE} (hc : ∀ sc raw X W, GX B T N k sc raw X W → ∀ e ir, c sc raw e = some ir → SndE B X W e ir) (G : GX B T N k sc none X W) {e : Expr} {pos : Pos} {ir : IS} (h : compRetPop N c sc e = some ir) : SndS B X W (.Return (some e) pos) ir := by
  unfold compRetPop at h
  split at h
  · rename_i t m p1 mm pa kx pc m' p2 x1 p3 b p4
    by_cases c1 : mm = "pop" ∧ m' = m ∧ visC sc m = true ∧ nmC m = true ∧ noStar kx = true ∧ (pa.endLine == pc.line) = true
    · rw [if_pos c1] at h
      obtain ⟨i, q1, h⟩ := bind1 h
      obtain ⟨it, q2, h⟩ := bind1 h
      obtain ⟨ik, ib, q3, q4, rfl⟩ := bind2 h
      obtain ⟨rfl, rfl, v1, v2, v3, v4⟩ := c1
      obtain ⟨n1, n2⟩ := nmc_of v2
      exact sns_retPop (by rw [G.hN]; exact idxN_get q1) (vis_of G v1) n1 n2 rfl v4 v3 (hc _ _ _ _ G _ _ q2) (hc _ _ _ _ G _ _ q3) (hc _ _ _ _ G _ _ q4)
    · rw [if_neg c1] at h; cases h
  · cases h
/-- o.m(..).append(a) -/
def compAppN (T : Tab) (c : Scope → Option Scope → Expr → Option IE) (sc : Scope) (o : Expr) (m : Str) (apos : Pos) (es : List Expr) (cpos : Pos) (a : Expr) (apos2 cpos2 : Pos) : Option IS :=
  if T.hot = false ∧ noSuper o = true ∧ lineOk apos cpos es = true ∧ noStar a = true ∧ (apos2.endLine == cpos2.line) = true then
    (lookN m (es.length + 1) T.mthN).bind fun q => (c sc none o).bind fun io => (compAs (c sc none) es).bind fun ia => (c sc none a).map fun ie => .appN m q.2.1 q.2.2 io ia ie
  else none
theorem sd_appN {c : Scope → Option Scope → Expr → Option IE} (hc : ∀ sc raw X W, GX B T N k sc raw X W → ∀ e ir, c sc raw e = some ir → SndE B X W e ir) (G : GX B T N k sc none X W) {o a : Expr} {m : Str} {apos cpos apos2 cpos2 pos : Pos} {es : List Expr} {ir : IS} (h : compAppN T c sc o m apos es cpos a apos2 cpos2 = some ir) : SndS B X W (.Expr (.Call (.Attribute (.Call (.Attribute o m apos) es [] cpos) "append" apos2) [a] [] cpos2) pos) ir := by
  unfold compAppN at h
  by_cases c1 : T.hot = false ∧ noSuper o = true ∧ lineOk apos cpos es = true ∧ noStar a = true ∧ (apos2.endLine == cpos2.line) = true
  · rw [if_pos c1] at h
    obtain ⟨hh, g1, g2, g3, g4⟩ := c1
    obtain ⟨q, q1, h⟩ := bind1 h
    obtain ⟨io, q2, h⟩ := bind1 h
    obtain ⟨ia, ie, q3, q4, rfl⟩ := bind2 h
    obtain ⟨h1, h2, h3⟩ := sd_as (hc _ _ _ _ G) q3
    obtain ⟨l1, l2⟩ := lookN_mem q1
    exact sns_appN g1 g2 (G.tab.mthN _ l1) (G.room hh) G.tk (hc _ _ _ _ G _ _ q2) h1 h2 h3 l2.symm rfl (hc _ _ _ _ G _ _ q4) g3 g4
  · rw [if_neg c1] at h; cases h
def compRais (T : Tab) (sc : Scope) (x : Str) : Option IS := if T.hot = false ∧ glC sc x = true ∧ nmC x = true then (look x T.excs).map .rais else none
theorem sd_rais (G : GX B T N k sc raw X W) {x m : Str} {j : Nat} {p p2 pos pos2 : Pos} {ir : IS} (h : compRais T sc x = some ir) : SndS B X W (.Raise (some (.Call (.Name x p) [.Constant (.str m) j p2] [] pos)) none pos2) ir := by
  unfold compRais at h
  by_cases g : T.hot = false ∧ glC sc x = true ∧ nmC x = true
  · rw [if_pos g] at h
    obtain ⟨hh, g⟩ := g
    obtain ⟨c, q, rfl⟩ := map1 h
    exact sns_rais (G.tab.excs _ (look_mem q)) (G.calm hh) G.tk (gl_of G g.1) (nmc_of g.2).1
  · rw [if_neg g] at h; cases h
/-- a clause's suite: a constant given back -/
def conC : Expr → Option AV
  | .Constant .none _ _ => some .non
  | .Constant (.bool b) _ _ => some (.bl b)
  | _ => none
theorem con_of {e : Expr} {d : AV} (h : conC e = some d) : ∃ x : V, (∀ Y : Cx, PE Y e (tC x)) ∧ ∀ S : WS, S.R B d x := by
  unfold conC at h
  split at h
  · cases h; exact ⟨.non, fun _ => pe_non, fun _ => .non⟩
  · cases h; exact ⟨.bl _, fun _ => pe_bl, fun _ => .bl _⟩
  · cases h
/-- around statements -/
structure GS (B : Bs) (T : Tab) (N : List Str) (k : Nat) (sc : Scope) (X : Cx) (W : WX) : Prop where
  G : GX B T N k sc none X W
  po : T.hot = false → PassesOwn (model X.prog X.w) X.A X.env X.xe
  kind : sc.kind = .function
  stk : X.stack = X.env :: X.outer
  fr : X.env.frame = some X.env.locals
theorem GS.tr (H : GS B T N k sc X W) (hh : T.hot = false) {W' : WX} {pn : List (Addr × Obj)} {xe : Value → Shared → Prop} (tk : Takes (X.tr pn xe) W') (po : PassesOwn (model X.prog X.w) X.A X.env xe) : GS B T N k sc (X.tr pn xe) W' :=
  ⟨⟨H.G.hK, H.G.calm, H.G.hN, H.G.nd, H.G.sc, H.G.fn, H.G.room, H.G.roomH, fun a c z => absurd z (H.G.xo0 hh a c), H.G.xo0, tk, H.G.tab⟩, fun _ => po, H.kind, H.stk, H.fr⟩
def compTry (T : Tab) (sc : Scope) (s : Stmt → Option IS) (body : List Stmt) (x : Str) (e : Expr) : Option IS :=
  if T.hot = false ∧ glC sc x = true ∧ nmC x = true then (look x T.hnds).bind fun cs => (conC e).bind fun d => (compSs T s body).map fun b => .tryo b T.xall cs (.ret (.con d)) else none
def compTryx (T : Tab) (N : List Str) (sc : Scope) (s : Stmt → Option IS) (hs : List Stmt → Option IS) (body : List Stmt) (x n : Str) (suite : List Stmt) : Option IS :=
  if T.hot = false ∧ glC sc x = true ∧ nmC x = true ∧ (sc.names.lookup n == some .local) = true then (look x T.hnds).bind fun cs => (idxN N n).bind fun i => (compSs T s body).bind fun b => (hs suite).map fun u => .tryx b T.xall cs i u else none
def compS1 (T : Tab) (N : List Str) (c : Scope → Option Scope → Expr → Option IE) (sc : Scope) (s : Stmt → Option IS) (hs : List Stmt → Option IS) (st : Stmt) : Option IS :=
  match st with
  | .Pass _ => some .skip
  | .Break _ => some .brk
  | .Continue _ => some .cnt
  | .Return none _ => some (.ret (.con .non))
  | .Return (some e) _ => match c sc none e with
    | some ia => some (.ret ia)
    | none => compRetPop N c sc e
  | .Assign [.Attribute o f _] e pos => compFset T N c sc none o f e pos
  | .Assign [.Subscript (.Name x _) kx _] e _ => compSets N c sc none x kx e
  | .Assign [.Subscript (.Attribute o f _) kx _] e _ => compFsets T c sc none o f kx e
  | .Raise (some (.Call (.Name x _) [.Constant (.str _) _ _] [] _)) none _ => compRais T sc x
  | .Try body [.ExceptHandler (some (.Name x _)) none [.Return (some e) _] _] [] [] _ => compTry T sc s body x e
  | .Try body [.ExceptHandler (some (.Name x _)) (some n) (b0 :: suite) _] [] [] _ => compTryx T N sc s hs body x n (b0 :: suite)
  | .Assign [.Name x py] e pos => compSet T N c sc none x py e pos
  | .Assign [.Tuple es _ _] (.Tuple vs _ _) _ => compPar T N c sc none es vs
  | .Assign [.Tuple es kk tp] e _ => compTup T N c sc none es kk tp e
  | .If t a b _ => (c sc none t).bind fun x => (compSs T s a).bind fun y => (compSs T s b).map fun z => .ifs x y z
  | .While t a [] _ => if T.hot = false then (c sc none t).bind fun x => (compSs T s a).map fun y => .whil x y else none
  | .For tg iter body [] _ => if noSetD iter = true ∧ T.hot = false then (compIt T sc (c sc none) tg iter).bind fun is => (compTg N sc none tg).bind fun t => (compSs T s body).map fun b => .fors t is.1 is.2 b else none
  | .Expr (.Constant (.str _) _ _) _ => some .skip
  | .Expr (.Call (.Attribute (.Name x p) m apos) [e] [] cpos) _ => if m = "append" then compApp N c sc none x e apos cpos else (c sc none (.Call (.Attribute (.Name x p) m apos) [e] [] cpos)).map .drop
  | .Expr (.Call (.Attribute (.Attribute o f p) m apos) [e] [] cpos) _ => if m = "pop" then compFpop T c sc none o f e apos cpos else (c sc none (.Call (.Attribute (.Attribute o f p) m apos) [e] [] cpos)).map .drop
  | .Expr (.Call (.Attribute (.Call (.Attribute o m apos) es [] cpos) mm apos2) [a] [] cpos2) _ => if mm = "append" then compAppN T c sc o m apos es cpos a apos2 cpos2 else (c sc none (.Call (.Attribute (.Call (.Attribute o m apos) es [] cpos) mm apos2) [a] [] cpos2)).map .drop
  | .Expr e _ => if noCmp e = true then (c sc none e).map .drop else none
  | _ => none
theorem sd_s1 {c : Scope → Option Scope → Expr → Option IE} (hc : ∀ sc raw X W, GX B T N k sc raw X W → ∀ e ir, c sc raw e = some ir → SndE B X W e ir) (GG : GS B T N k sc X W) {s : Stmt → Option IS} (hss : ∀ (X : Cx) (W : WX), GS B T N k sc X W → ∀ st ir, s st = some ir → SndS B X W st ir) {hs : List Stmt → Option IS}
    (hhs : ∀ (a : Addr) (oe : Obj) (e : Nat) (pn : List (Addr × Obj)), e ∈ T.xall → Zc (.ref (B.xa e)) none oe → (∃ vs, oe.data = .fields vs) → ∀ u ir, hs u = some ir → SndSs (B.wx a e) (X.suite a ((a, oe) :: pn)) W0 u ir) {st : Stmt} {ir : IS} (h : compS1 T N c sc s hs st = some ir) : SndS B X W st ir := by
  have G := GG.G
  have hk := GG.kind
  have hss' := hss X W GG
  have hh := hc sc none X W G
  unfold compS1 at h
  split at h
  · cases h; exact sns_pass
  · cases h; exact sns_brk
  · cases h; exact sns_cnt
  · cases h; exact sns_retN
  · rename_i e pos
    cases q : c sc none e with
    | some ia => rw [q] at h; cases h; exact sns_ret (hh _ _ q)
    | none => rw [q] at h; exact sd_retPop hc G h
  · exact sd_fset hc G h
  · exact sd_sets hc G h
  · exact sd_fsets hc G h
  · exact sd_rais G h
  · rename_i body x np e rp hp2 pos
    unfold compTry at h
    by_cases g : T.hot = false ∧ glC sc x = true ∧ nmC x = true
    · rw [if_pos g] at h
      obtain ⟨ht, g⟩ := g
      obtain ⟨cs, q1, h⟩ := bind1 h
      obtain ⟨d, q2, h⟩ := bind1 h
      obtain ⟨b, q3, rfl⟩ := map1 h
      obtain ⟨c0, hm, hx⟩ := G.tab.hnds _ (look_mem q1)
      obtain ⟨dv, d1, d2⟩ := con_of (B := B) q2
      exact sns_tryo GG.stk GG.fr ⟨gl_of G g.1, (nmc_of g.2).1, .inl hm⟩ G.tk hx d1 d2 fun W' pn xe tk po => sd_ss (hss _ _ (GG.tr ht tk po)) q3
    · rw [if_neg g] at h; cases h
  · rename_i body x np n b0 suite p1 p2
    unfold compTryx at h
    by_cases g : T.hot = false ∧ glC sc x = true ∧ nmC x = true ∧ (sc.names.lookup n == some .local) = true
    · rw [if_pos g] at h
      obtain ⟨ht, g1, g2, g3⟩ := g
      obtain ⟨cs, q1, h⟩ := bind1 h
      obtain ⟨i, q2, h⟩ := bind1 h
      obtain ⟨b, u, q3, q4, rfl⟩ := bind2 h
      obtain ⟨c0, hm, hx⟩ := G.tab.hnds _ (look_mem q1)
      refine sns_tryx (G.xo0 ht) GG.stk GG.fr (by rw [G.hN]; exact G.nd) (by rw [G.hN]; exact idxN_get q2) ?_ ⟨gl_of G g1, (nmc_of g2).1, .inl hm⟩ G.tk hx (fun W' pn xe tk po => sd_ss (hss _ _ (GG.tr ht tk po)) q3) fun a oe e pn hm hz hd => hhs a oe e pn hm hz hd _ _ q4
      show X.env.scope.names.lookup n = _
      rw [G.sc]
      exact eq_of_beq g3
    · rw [if_neg g] at h; cases h
  · exact sd_set hc G hk h
  · exact sd_par hc G hk h
  · exact sd_tup hc G h
  · obtain ⟨x, q1, h⟩ := bind1 h
    obtain ⟨y, z, q2, q3, rfl⟩ := bind2 h
    exact sns_if (hh _ _ q1) (sd_ss hss' q2) (sd_ss hss' q3)
  · by_cases ht : T.hot = false
    · rw [if_pos ht] at h
      obtain ⟨x, y, q2, q3, rfl⟩ := bind2 h
      exact sns_while (GG.po ht) (hh _ _ q2) (sd_ss hss' q3)
    · rw [if_neg ht] at h; cases h
  · rename_i tg iter body pos
    by_cases c1 : noSetD iter = true ∧ T.hot = false
    · rw [if_pos c1] at h
      obtain ⟨is, q1, h⟩ := bind1 h
      obtain ⟨t, b, q2, q3, rfl⟩ := bind2 h
      exact sns_for G.hK (GG.po c1.2) (G.calm c1.2) (sd_it G hh q1) (sd_tg G c1.2 q2) (sd_ss hss' q3) (noSet_of c1.1)
    · rw [if_neg c1] at h; cases h
  · cases h; exact sns_doc
  · rename_i x p m apos e cpos pos
    by_cases c1 : m = "append"
    · rw [if_pos c1] at h
      subst c1
      exact sd_app hc G h
    · rw [if_neg c1] at h
      obtain ⟨ia, q, rfl⟩ := map1 h
      exact sns_drop (hh _ _ q) rfl
  · rename_i o f p m apos e cpos pos
    by_cases c1 : m = "pop"
    · rw [if_pos c1] at h
      subst c1
      exact sd_fpop hc G h
    · rw [if_neg c1] at h
      obtain ⟨ia, q, rfl⟩ := map1 h
      exact sns_drop (hh _ _ q) rfl
  · rename_i o m apos es cpos mm apos2 a cpos2 pos
    by_cases c1 : mm = "append"
    · rw [if_pos c1] at h
      subst c1
      exact sd_appN hc G h
    · rw [if_neg c1] at h
      obtain ⟨ia, q, rfl⟩ := map1 h
      exact sns_drop (hh _ _ q) rfl
  · rename_i e pos _ _ _ _
    by_cases c1 : noCmp e = true
    · rw [if_pos c1] at h
      obtain ⟨ia, q, rfl⟩ := map1 h
      exact sns_drop (hh _ _ q) (noCmp_of c1)
    · rw [if_neg c1] at h; cases h
  · cases h
def compS (N : List Str) (sc : Scope) : Nat → Tab → Stmt → Option IS
  | 0, _, _ => none
  | n + 1, T, st => compS1 T N (compE T N 40) sc (compS N sc n T) (fun u => compSs T.hotT (compS N sc n T.hotT) u) st
theorem tab_hot {P : Program} {w : World} {K : PySem.W.Frag} {mg : Str → Option Value} {base : Heap} (H : TabOk B T P w K mg base k) (a : Addr) (c : Nat) : TabOk (B.wx a c) T.hotT P w K mg base k where
  fns := fun p h => by cases h
  kInt := H.kInt
  kStr := H.kStr
  blts := H.blts
  flds := fun p h => by cases h
  clsl := fun p h => by cases h
  mths := fun p h => by cases h
  excs := fun p h => by cases h
  hnds := fun p h => by cases h
  xis := fun p h => ⟨(H.xis p h).cls, (H.xis p h).ex⟩
  fnx := fun p h => ⟨(H.fnx p h).ex⟩
  isa := fun p h => by cases h
  mthN := fun p h => by cases h
theorem gs_hot (GG : GS B T N k sc X W) {a : Addr} {oe : Obj} {c : Nat} {pn : List (Addr × Obj)} (hm : c ∈ T.xall) (hz : Zc (.ref (B.xa c)) none oe) (hd : ∃ vs, oe.data = .fields vs) : GS (B.wx a c) T.hotT N k sc (X.suite a ((a, oe) :: pn)) W0 where
  G := {
    hK := GG.G.hK
    calm := fun z => nomatch z
    hN := GG.G.hN
    nd := GG.G.nd
    sc := GG.G.sc
    fn := GG.G.fn
    room := fun z => nomatch z
    roomH := ⟨GG.G.roomH.dp, GG.G.roomH.un⟩
    xo := fun a' c' h => by
      obtain ⟨rfl, rfl⟩ := h
      exact ⟨hm, oe, List.mem_cons_self, hz, hd⟩
    xo0 := fun z => nomatch z
    tk := takes0
    tab := tab_hot GG.G.tab a c }
  po := fun z => nomatch z
  kind := GG.kind
  stk := GG.stk
  fr := GG.fr
theorem sd_s {N : List Str} {k : Nat} {sc : Scope} : ∀ (n : Nat) (B : Bs) (T : Tab) (X : Cx) (W : WX), GS B T N k sc X W → ∀ (st : Stmt) (ir : IS), compS N sc n T st = some ir → SndS B X W st ir
  | 0, _, _, _, _, _, _, _, h => by cases h
  | n + 1, B, T, X, W, G, st, ir, h => sd_s1 (sd_e 40) G (sd_s n B T) (fun a oe e pn hm hz hd u ir q => sd_ss (sd_s n _ _ _ _ (gs_hot G hm hz hd)) q) h
/-! ### a def -/
def compD (T : Tab) (N : List Str) (st : Stmt) : Option IS := compSs T (compS N (defScope st) 20 T) (defBody st)
end
theorem start_erep {B : Bs} {S : WS} {N : List Str} {args : List AV} {vs : List V} (h : S.Rs B args vs) (hl : vs.length ≤ N.length) : ERep B S (args.map (fun d => some (.val d)) ++ List.replicate (N.length - args.length) none) (L2.start N vs) := by
  have la := h.len
  refine ⟨by unfold L2.start; simp; omega, fun i fv q => ?_⟩
  by_cases c : i < args.length
  · rw [List.getElem?_append_left (by simpa using c), List.getElem?_map] at q
    cases e : args[i]? with
    | none => rw [e] at q; cases q
    | some d =>
      rw [e] at q
      cases q
      obtain ⟨x, hx, r⟩ := h.get e
      refine ⟨x, ?_, r⟩
      unfold L2.start
      rw [List.getElem?_append_left (by simpa using (by omega : i < vs.length)), List.getElem?_map, hx]
      rfl
  · rw [List.getElem?_append_right (by simpa using c), List.getElem?_replicate] at q
    split at q <;> cases q
/-- THE RULE for a def -/
theorem def_ok {B : Bs} (hB0 : ∀ a c, ¬ B.xo a c) {T : Tab} {P : Program} {w : World} {K : PySem.W.Frag} {mg : Str → Option Value} {base : Heap} {x qual : Str} {st : Stmt} {f : Addr} {fd : FuncData} {N ps : List Str} {k : Nat} {ir : IS} (F : Fun K x qual st f fd) (hK : K = B.K) (S : FnScope N ps (defScope st)) (hl : ps.length ≤ N.length)
    (tab : TabOk B T P w K mg base k) (h : compD T N st = some ir) : FnOk P w K mg base (L2.CX P w) (k + 1) f fd ps (spOf B (runDef N.length ir) ps.length) := by
  refine F.okX S (fun vs H Q E z => z.1) fun cdv A outer s H vs Q E hr z => ?_
  obtain ⟨hv, S0, args, rfl, ok, ns, hrs, out⟩ := z
  refine ⟨tS B (fun cls d _ H => E cls d H) ir, ?_, S0, _, rfl, ok, start_erep hrs (by omega), ?_⟩
  · have tk : Takes (cxOf (L2.CX P w) P w K mg base N qual (defScope st) f cdv A outer s S0.H E) (fun cls d _ H => E cls d H) := takes_of (E₁ := fun e' s'' => L2.CX P w outer S0.H s E e' s'') rfl rfl rfl rfl
    have po : PassesOwn (model P w) (cxOf (L2.CX P w) P w K mg base N qual (defScope st) f cdv A outer s S0.H E).A (cxOf (L2.CX P w) P w K mg base N qual (defScope st) f cdv A outer s S0.H E).env (cxOf (L2.CX P w) P w K mg base N qual (defScope st) f cdv A outer s S0.H E).xe :=
      passes_of (K := fun e s'' => L2.CX P w outer S0.H s E e s'') (E₁ := fun e' s'' => L2.CX P w outer S0.H s E e' s'') rfl
    have G : GX B T N k (defScope st) none (cxOf (L2.CX P w) P w K mg base N qual (defScope st) f cdv A outer s S0.H E) (fun cls d _ H => E cls d H) :=
      { hK := hK, calm := fun _ => rfl, hN := rfl, nd := S.nd, sc := rfl, fn := rfl, room := fun _ => hr, roomH := L2H.roomH_of hr, xo := fun a c z => absurd z (hB0 a c), xo0 := fun _ => hB0, tk := tk, tab := tab }
    exact sd_ss (sd_s 20 _ _ _ _ ⟨G, fun _ => po, S.kind, rfl, rfl⟩) h
  · have la : args.length = vs.length := hrs.len
    have hup : ∀ {T : WS}, S0.leS T → S0.le false T := fun l => ⟨l.objs, l.same, fun b i e => absurd e (ns b i), l.outs, fun z => nomatch z⟩
    have e1 : runDef N.length ir args S0.ah = (match ex ir (args.map (fun d => some (.val d)) ++ List.replicate (N.length - args.length) none) S0.ah with
      | .ret d h => .ok d h
      | .nx _ h => .ok .non h
      | .exc c _ h => .exc c h
      | _ => .bad : Ab.R AV) := rfl
    rw [e1] at out
    cases q : ex ir (args.map (fun d => some (.val d)) ++ List.replicate (N.length - args.length) none) S0.ah with
    | nx e h => rw [q] at out; exact fun T σ okT eT l er => out T okT eT (hup l) .non .non
    | brk e h => rw [q] at out; exact out.elim
    | cnt e h => rw [q] at out; exact out.elim
    | ret d h => rw [q] at out; exact fun T x okT eT l r => out T okT eT (hup l) x r
    | exc c e h => rw [q] at out; exact fun T σ okT eT l er => out T okT eT (hup l)
    | bad => rw [q] at out; exact out.elim
/-- a def that makes a new container -/
def compDN (T : Tab) (N : List Str) (st : Stmt) : Option IE := match defBody st with
  | [.Return (some e) _] => if isNew T (defScope st) e = true then compX T N (compE T N 40) (defScope st) none e else none
  | _ => none
theorem def_okN {B : Bs} (hB0 : ∀ a c, ¬ B.xo a c) {T : Tab} {P : Program} {w : World} {K : PySem.W.Frag} {mg : Str → Option Value} {base : Heap} {x qual : Str} {st : Stmt} {f : Addr} {fd : FuncData} {N ps : List Str} {k : Nat} {ie : IE} (F : Fun K x qual st f fd) (hK : K = B.K) (S : FnScope N ps (defScope st)) (hl : ps.length ≤ N.length)
    (tab : TabOk B T P w K mg base k) (h : compDN T N st = some ie) : FnOk P w K mg base (L2.CX P w) (k + 1) f fd ps (spN B (runDef N.length (.ret ie)) ps.length) := by
  refine F.okX S (fun vs H Q E z => z.1) fun cdv A outer s H vs Q E hr z => ?_
  obtain ⟨hv, S0, args, rfl, ok, ns, hrs, out⟩ := z
  have la : args.length = vs.length := hrs.len
  have tk : Takes (cxOf (L2.CX P w) P w K mg base N qual (defScope st) f cdv A outer s S0.H E) (fun cls d _ H => E cls d H) := takes_of (E₁ := fun e' s'' => L2.CX P w outer S0.H s E e' s'') rfl rfl rfl rfl
  have G : GX B T N k (defScope st) none (cxOf (L2.CX P w) P w K mg base N qual (defScope st) f cdv A outer s S0.H E) (fun cls d _ H => E cls d H) :=
    { hK := hK, calm := fun _ => rfl, hN := rfl, nd := S.nd, sc := rfl, fn := rfl, room := fun _ => hr, roomH := L2H.roomH_of hr, xo := fun a c z => absurd z (hB0 a c), xo0 := fun _ => hB0, tk := tk, tab := tab }
  unfold compDN at h
  split at h
  · rename_i e pos eb
    by_cases c1 : isNew T (defScope st) e = true
    · rw [if_pos c1] at h
      have sn := sd_new (sd_e 40) G c1 h
      rw [eb]
      refine ⟨_, pss_one (ps_ret (pos := pos) sn.pn), S0, _, rfl, ok, start_erep hrs (by omega), ?_⟩
      have e1 : (runDef N.length (.ret ie) args S0.ah).bind ownR = (ev false ie (args.map (fun d => some (.val d)) ++ List.replicate (N.length - args.length) none) S0.ah).bind ownR := by
        show R.bind (match R.thn (ev false ie _ S0.ah) _ (fun d h1 => RS.ret d h1) with | .ret d h => R.ok d h | .nx _ h => .ok .non h | .exc c _ h => .exc c h | _ => .bad) ownR = _
        cases ev false ie (args.map (fun d => some (.val d)) ++ List.replicate (N.length - args.length) none) S0.ah <;> rfl
      rw [e1] at out
      generalize (ev false ie (args.map (fun d => some (.val d)) ++ List.replicate (N.length - args.length) none) S0.ah).bind ownR = r at out
      cases r with
      | ok d ah => exact fun T okT eT l x hx => out T okT eT ⟨l.objs, l.same, l.slots, l.outs, fun z => nomatch z⟩ x hx
      | exc c ah => exact out
      | bad => exact out
    · rw [if_neg c1] at h; cases h
  · cases h
/-- a def that an exception is handed to -/
theorem hot_ok {B : Bs} {T : Tab} {P : Program} {w : World} {K : PySem.W.Frag} {mg : Str → Option Value} {base : Heap} {x qual : Str} {st : Stmt} {f : Addr} {fd : FuncData} {N : List Str} {e : Str} {k : Nat} {ir : IS} (F : Fun K x qual st f fd) (hK : K = B.K) (Sc : FnScope N [e] (defScope st)) (hl : 1 ≤ N.length) (hT : T.hot = true)
    (tab : TabOk B T P w K mg base k) (hE : T.fns = [] ∧ T.clsl = [] ∧ T.mths = [] ∧ T.cids = [] ∧ T.excs = [] ∧ T.hnds = [] ∧ T.isa = [] ∧ T.mthN = []) (h : compD T N st = some ir) : FnX P w K mg base (k + 1) f fd [e] (spX B T.xall (runX N.length ir)) := by
  refine FnX.of F Sc (fun p vs H Q E z => by rw [z.1]; rfl) fun cdv A l s H vs Q E p room z => ?_
  obtain ⟨rfl, c, hm, hz, hd, S, rfl, ok, ns, out⟩ := z
  obtain ⟨e1, e2, e3, e4, e5, e6, e7, e8⟩ := hE
  have tab' : TabOk (B.wx p.1 c) T P w K mg base k := {
    fns := fun q h => by rw [e1] at h; cases h
    kInt := tab.kInt
    kStr := tab.kStr
    blts := tab.blts
    flds := fun q h => by rw [e4] at h; cases h
    clsl := fun q h => by rw [e2] at h; cases h
    mths := fun q h => by rw [e3] at h; cases h
    excs := fun q h => by rw [e5] at h; cases h
    hnds := fun q h => by rw [e6] at h; cases h
    xis := fun q h => ⟨(tab.xis q h).cls, (tab.xis q h).ex⟩
    fnx := fun q h => ⟨(tab.fnx q h).ex⟩
    isa := fun q h => by rw [e7] at h; cases h
    mthN := fun q h => by rw [e8] at h; cases h }
  have G : GX (B.wx p.1 c) T N k (defScope st) none (L2H.cxH (L2.CX P w) P w K mg base N qual (defScope st) f cdv A l s S.H E p) W0 := {
    hK := hK
    calm := fun z => by rw [hT] at z; cases z
    hN := rfl
    nd := Sc.nd
    sc := rfl
    fn := rfl
    room := fun z => by rw [hT] at z; cases z
    roomH := room
    xo := fun a' c' h => by
      obtain ⟨rfl, rfl⟩ := h
      exact ⟨hm, p.2, List.mem_cons_self, hz, hd⟩
    xo0 := fun z => by rw [hT] at z; cases z
    tk := takes0
    tab := tab' }
  refine ⟨tS (B.wx p.1 c) W0 ir, sd_ss (sd_s 20 _ _ _ _ ⟨G, fun z => (by rw [hT] at z; cases z), Sc.kind, rfl, rfl⟩) h, S, some (.exc c) :: List.replicate (N.length - 1) none, rfl, ok_xo (B := B.nx) (b := B.wx p.1 c) rfl rfl ok, ?_, ?_⟩
  · refine ⟨by unfold L2.start; simp, fun i fv q => ?_⟩
    cases i with
    | zero =>
      cases q
      exact ⟨.ref p.1, rfl, p.1, rfl, rfl, rfl⟩
    | succ i =>
      rw [List.getElem?_cons_succ, List.getElem?_replicate] at q
      split at q <;> cases q
  · have up : ∀ {T : WS}, S.leS T → S.le false T := fun l => ⟨l.objs, l.same, fun b i e => absurd e (ns b i), l.outs, fun z => nomatch z⟩
    have e1 : runX N.length ir c S.ah = (match ex ir (some (.exc c) :: List.replicate (N.length - 1) none) S.ah with
      | .ret d h => .ok d h
      | .nx _ h => .ok .non h
      | _ => .bad : Ab.R AV) := rfl
    rw [e1] at out
    have oko : ∀ {T : WS}, T.Ok (B.wx p.1 c) → T.Ok B.nx := fun ok => ok_xo (B := B.wx p.1 c) (b := B.nx) rfl rfl ok
    cases q : ex ir (some (.exc c) :: List.replicate (N.length - 1) none) S.ah with
    | nx e h => rw [q] at out; exact fun T σ okT eT l er => out T (oko okT) eT (up l) .non .non
    | brk e h => rw [q] at out; exact out.elim
    | cnt e h => rw [q] at out; exact out.elim
    | ret d h => rw [q] at out; exact fun T x okT eT l r => out T (oko okT) eT (up l) x r
    | exc c e h => rw [q] at out; exact out.elim
    | bad => rw [q] at out; exact out.elim
end Ab

set_option autoImplicit false
set_option maxHeartbeats 4000000
/-! AbL: the end of a law. -/
namespace Ab
open PySem PySem.Spec PyProof.Rows L2

def spLaw (K : PySem.W.Frag) : Sp := fun vs H Q _ => ∃ (a : Addr) (ns : List Int), vs = [.ref a] ∧ Only H ∧ SqL K H a (ns.map V.int) ∧ ns.length ≤ 63 ∧ (∀ z ∈ ns, Builtin.Int.intBits z ≤ 1048576) ∧ ∀ H', Q (.bl true) H'
theorem law_sp {B : Bs} {F : Sem} (hF : ∀ ns : List Int, ns.length ≤ 63 → (∀ z ∈ ns, Builtin.Int.intBits z ≤ 1048576) → ∃ h, F [.scr ns] [] = .ok (.bl true) h) {vs : List V} {H : Hp} {Q : VK} {E : XK} (z : spLaw B.K vs H Q E) : spOf B F 1 vs H Q E := by
  obtain ⟨a, ns, rfl, hO, hS, hl, hb, q⟩ := z
  obtain ⟨h, e⟩ := hF ns hl hb
  have eG : (WS.mk H [] fun _ => none).G = H := rfl
  refine ⟨rfl, ⟨H, [], fun _ => none⟩, [.scr ns], rfl, ⟨fun n o e => (by simp at e), fun a b n e => (by cases e), fun a n e => (by cases e), fun a o e => (by cases e), fun a xs e => ?_, fun a xs e => ?_⟩, fun b i e => (by cases e), .cons (.scr (Nat.le_trans hl (by decide)) hS) .nil, ?_⟩
  · have e : H a = some (.lst xs) := e
    rcases hO a with z | ⟨o, ys, z⟩ <;> rw [z] at e <;> cases e
  · have e : H a = some (.tup xs) := e
    rcases hO a with z | ⟨o, ys, z⟩ <;> rw [z] at e <;> cases e
  · show Outs B _ false _ _ (F [.scr ns] []) Q
    rw [e]
    intro T okT eT l x hx
    cases hx
    exact q _
theorem cx_none {P : Program} {w : World} {H : Hp} {s : Shared} {e : Value} {s' : Shared} {o : List Env} (z : L2.CX P w o H s (fun _ _ _ => False) e s') : False := by
  obtain ⟨_, _, _, _, _, _, _, _, _, _, _, _, z⟩ := z
  exact z
end Ab

set_option autoImplicit false
set_option maxHeartbeats 4000000
/-! AbM: what the evaluator answers: equality, comprehensions, the laws' own drawing. -/
namespace Ab
open PySem L2

/-! ### equality of values -/
theorem toPD_str (n : Nat) (s : Str) : toPD n (.str s) = some (.str s) := by cases n <;> rfl
theorem toPD_int (n : Nat) (s : Int) : toPD n (.int s) = some (.int s) := by cases n <;> rfl
theorem toPD_bl (n : Nat) (s : Bool) : toPD n (.bl s) = some (.bool s) := by cases n <;> rfl
theorem toPD_non (n : Nat) : toPD n .non = some .none := by cases n <;> rfl
/-- values that are equal just when what they stand for is -/
structure Good {α : Type} [DecidableEq α] (f : α → AV) (d : Nat) : Prop where
  ex : ∃ g : α → PyData, (∀ n x, d ≤ n → toPD n (f x) = some (g x)) ∧ ∀ x y, PyData.eqv (g x) (g y) = decide (x = y)
section
variable {α β γ : Type} [DecidableEq α] [DecidableEq β] [DecidableEq γ] {f : α → AV} {f' : β → AV} {f'' : γ → AV} {d d' d'' : Nat}
theorem beq_dec {δ : Type} [DecidableEq δ] (x y : δ) : (x == y) = decide (x = y) := by
  by_cases h : x = y
  · subst h; simp
  · rw [decide_eq_false h]; exact beq_eq_false_iff_ne.mpr h
theorem good_str : Good AV.str 0 := ⟨PyData.str, fun n x _ => toPD_str n x, fun x y => by
  show PyData.eqv (.str x) (.str y) = _
  rw [PyData.eqv]
  by_cases h : x = y
  · subst h; simp
  · rw [decide_eq_false h]; exact beq_eq_false_iff_ne.mpr h⟩
theorem good_int : Good AV.int 0 := ⟨PyData.int, fun n x _ => toPD_int n x, fun x y => by rw [PyData.eqv]; exact beq_dec x y⟩
theorem good_bl : Good AV.bl 0 := ⟨PyData.bool, fun n x _ => toPD_bl n x, fun x y => by rw [PyData.eqv]; exact beq_dec x y⟩
theorem mapM_of {n : Nat} {f : α → AV} {g : α → PyData} (h : ∀ x, toPD n (f x) = some (g x)) (l : List α) : (l.map f).mapM (toPD n) = some (l.map g) := by
  induction l with
  | nil => rfl
  | cons x r ih => rw [List.map_cons, List.mapM_cons, h, ih]; rfl
theorem eqvAll_of {g : α → PyData} (h : ∀ x y, PyData.eqv (g x) (g y) = decide (x = y)) : ∀ l m : List α, PyData.eqvAll (l.map g) (m.map g) = decide (l = m)
  | [], [] => by rw [List.map_nil, PyData.eqvAll]; simp
  | [], y :: m => by rw [List.map_nil, List.map_cons, PyData.eqvAll]; simp
  | x :: l, [] => by rw [List.map_nil, List.map_cons, PyData.eqvAll]; simp
  | x :: l, y :: m => by rw [List.map_cons, List.map_cons, PyData.eqvAll, h, eqvAll_of h l m]; simp
theorem good_tup (h : Good f d) : Good (fun l : List α => AV.tup (l.map f)) (d + 1) := by
  obtain ⟨g, h1, h2⟩ := h.ex
  refine ⟨fun l => .tuple (l.map g), fun n x hn => ?_, fun x y => ?_⟩
  · obtain ⟨m, rfl⟩ : ∃ m, n = m + 1 := ⟨n - 1, by omega⟩
    show ((x.map f).mapM (toPD m)).map PyData.tuple = _
    rw [mapM_of (g := g) (fun x => h1 m x (by omega))]; rfl
  · rw [PyData.eqv]; exact eqvAll_of h2 x y
theorem good_lst (h : Good f d) : Good (fun l : List α => AV.lst (l.map f)) (d + 1) := by
  obtain ⟨g, h1, h2⟩ := h.ex
  refine ⟨fun l => .list (l.map g), fun n x hn => ?_, fun x y => ?_⟩
  · obtain ⟨m, rfl⟩ : ∃ m, n = m + 1 := ⟨n - 1, by omega⟩
    show ((x.map f).mapM (toPD m)).map PyData.list = _
    rw [mapM_of (g := g) (fun x => h1 m x (by omega))]; rfl
  · rw [PyData.eqv]; exact eqvAll_of h2 x y
theorem good_scr : Good AV.scr 1 := by
  refine ⟨fun l => .list (l.map .int), fun n x hn => ?_, fun x y => ?_⟩
  · obtain ⟨m, rfl⟩ : ∃ m, n = m + 1 := ⟨n - 1, by omega⟩
    rfl
  · rw [PyData.eqv]
    exact eqvAll_of (fun x y => by rw [PyData.eqv]; exact beq_dec x y) x y
theorem good_pair (h : Good f d) (h' : Good f' d') : Good (fun p : α × β => AV.tup [f p.1, f' p.2]) (d + d' + 1) := by
  obtain ⟨g, h1, h2⟩ := h.ex
  obtain ⟨g', h1', h2'⟩ := h'.ex
  refine ⟨fun p => .tuple [g p.1, g' p.2], fun n x hn => ?_, fun x y => ?_⟩
  · obtain ⟨m, rfl⟩ : ∃ m, n = m + 1 := ⟨n - 1, by omega⟩
    show ([f x.1, f' x.2].mapM (toPD m)).map PyData.tuple = _
    rw [List.mapM_cons, List.mapM_cons, List.mapM_nil, h1 m x.1 (by omega), h1' m x.2 (by omega)]; rfl
  · rw [PyData.eqv, PyData.eqvAll, PyData.eqvAll, PyData.eqvAll, h2, h2']
    obtain ⟨x1, x2⟩ := x
    obtain ⟨y1, y2⟩ := y
    simp
theorem good_trip (h : Good f d) (h' : Good f' d') (h'' : Good f'' d'') : Good (fun p : α × β × γ => AV.tup [f p.1, f' p.2.1, f'' p.2.2]) (d + d' + d'' + 1) := by
  obtain ⟨g, h1, h2⟩ := h.ex
  obtain ⟨g', h1', h2'⟩ := h'.ex
  obtain ⟨g'', h1'', h2''⟩ := h''.ex
  refine ⟨fun p => .tuple [g p.1, g' p.2.1, g'' p.2.2], fun n x hn => ?_, fun x y => ?_⟩
  · obtain ⟨m, rfl⟩ : ∃ m, n = m + 1 := ⟨n - 1, by omega⟩
    show ([f x.1, f' x.2.1, f'' x.2.2].mapM (toPD m)).map PyData.tuple = _
    rw [List.mapM_cons, List.mapM_cons, List.mapM_cons, List.mapM_nil, h1 m x.1 (by omega), h1' m x.2.1 (by omega), h1'' m x.2.2 (by omega)]; rfl
  · rw [PyData.eqv, PyData.eqvAll, PyData.eqvAll, PyData.eqvAll, PyData.eqvAll, h2, h2', h2'']
    obtain ⟨x1, x2, x3⟩ := x
    obtain ⟨y1, y2, y3⟩ := y
    simp
theorem eqA_of (h : Good f d) (hd : d ≤ 30) (x y : α) : eqA (f x) (f y) = some (decide (x = y)) := by
  obtain ⟨g, h1, h2⟩ := h.ex
  unfold eqA DEEP
  rw [h1 30 x hd, h1 30 y hd]
  simp only [h2]
theorem inL_of (h : Good f d) (hd : d ≤ 30) (x : α) (l : List α) : inL (f x) (l.map f) = some (decide (x ∈ l)) := by
  obtain ⟨g, h1, h2⟩ := h.ex
  unfold inL DEEP
  rw [h1 30 x hd, mapM_of (g := g) (fun x => h1 30 x hd)]
  simp only [Option.some.injEq]
  induction l with
  | nil => simp
  | cons y r ih =>
    rw [List.map_cons, List.any_cons, h2, ih]
    by_cases c : y = x
    · subst c; simp
    · have c' : ¬ x = y := fun z => c z.symm
      simp [c, c']
/-- a list and a display of strings -/
@[simp] theorem eqA_scr_nil (l : List Int) : eqA (.scr l) (.lst []) = some (decide (l = [])) := by
  have e : eqA (.scr l) (.lst []) = eqA (.scr l) (.scr []) := rfl
  rw [e, eqA_of good_scr (by decide)]
/-- places -/
abbrev pl (l : List Str) : AV := .tup (l.map .str)
abbrev ls (l : List Str) : AV := .lst (l.map .str)
@[simp] theorem pl_def (l : List Str) : pl l = .tup (l.map .str) := rfl
@[simp] theorem ls_def (l : List Str) : ls l = .lst (l.map .str) := rfl
@[simp] theorem lim_def : LIM = 16777216 := rfl
@[simp] theorem eqA_pl (x y : List Str) : eqA (.tup (x.map .str)) (.tup (y.map .str)) = some (decide (x = y)) := eqA_of (good_tup good_str) (by decide) x y
@[simp] theorem eqA_pl_nil (x : List Str) : eqA (.tup (x.map .str)) (.tup []) = some (decide (x = [])) := eqA_pl x []
@[simp] theorem eqA_ls (x y : List Str) : eqA (.lst (x.map .str)) (.lst (y.map .str)) = some (decide (x = y)) := eqA_of (good_lst good_str) (by decide) x y
@[simp] theorem eqA_ls_nil (x : List Str) : eqA (.lst (x.map .str)) (.lst []) = some (decide (x = [])) := eqA_ls x []
@[simp] theorem eqA_str (x y : Str) : eqA (.str x) (.str y) = some (decide (x = y)) := eqA_of good_str (by decide) x y
@[simp] theorem eqA_int (x y : Int) : eqA (.int x) (.int y) = some (decide (x = y)) := eqA_of good_int (by decide) x y
@[simp] theorem eqA_bl (x y : Bool) : eqA (.bl x) (.bl y) = some (decide (x = y)) := eqA_of good_bl (by decide) x y
@[simp] theorem eqA_non_pl (x : List Str) : eqA .non (.tup (x.map .str)) = some false := by
  unfold eqA DEEP
  have : toPD 30 (pl x) = some (.tuple (x.map .str)) := by
    show ((x.map AV.str).mapM (toPD 29)).map PyData.tuple = _
    rw [mapM_of (g := PyData.str) (fun x => toPD_str 29 x)]; rfl
  rw [this]; rfl
@[simp] theorem eqA_pl_non (x : List Str) : eqA (.tup (x.map .str)) .non = some false := by
  unfold eqA DEEP
  have : toPD 30 (pl x) = some (.tuple (x.map .str)) := by
    show ((x.map AV.str).mapM (toPD 29)).map PyData.tuple = _
    rw [mapM_of (g := PyData.str) (fun x => toPD_str 29 x)]; rfl
  rw [this]; rfl
@[simp] theorem eqA_non : eqA .non .non = some true := rfl
@[simp] theorem eqA_tn : eqA (.tup []) (.tup []) = some true := rfl
@[simp] theorem eqA_ln : eqA (.lst []) (.lst []) = some true := rfl
end
/-! ### comprehensions -/
theorem compL_map {α : Type} {fi : AV → Option En} {t g : En → AH → R AV} {h : AH} (inj : α → AV) (E : α → En) (P : α → Bool) (G : α → AV) : ∀ l : List α,
    (∀ x ∈ l, fi (inj x) = some (E x)) → (∀ x ∈ l, t (E x) h = .ok (.bl (P x)) h) → (∀ x ∈ l, P x = true → g (E x) h = .ok (G x) h) → compL fi t g (l.map inj) h = .ok ((l.filter P).map G) h
  | [], _, _, _ => rfl
  | x :: r, h1, h2, h3 => by
    have ih := compL_map inj E P G r (fun y hy => h1 y (List.mem_cons_of_mem _ hy)) (fun y hy => h2 y (List.mem_cons_of_mem _ hy)) fun y hy => h3 y (List.mem_cons_of_mem _ hy)
    rw [List.map_cons]
    unfold compL
    rw [h1 x List.mem_cons_self]
    simp only [h2 x List.mem_cons_self, R.bind_ok]
    cases q : P x with
    | false => simp only [ih]; rw [List.filter_cons_of_neg (by rw [q]; exact Bool.false_ne_true)]
    | true => simp only [h3 x List.mem_cons_self q, R.bind_ok, ih]; rw [List.filter_cons_of_pos q, List.map_cons]
/-- without a test -/
theorem compL_all {α : Type} {fi : AV → Option En} {g : En → AH → R AV} {h : AH} (inj : α → AV) (E : α → En) (G : α → AV) (l : List α)
    (h1 : ∀ x ∈ l, fi (inj x) = some (E x)) (h3 : ∀ x ∈ l, g (E x) h = .ok (G x) h) : compL fi (ev true (.con (.bl true))) g (l.map inj) h = .ok (l.map G) h := by
  have := compL_map inj E (fun _ => true) G l h1 (fun x _ => rfl) (fun x hx _ => h3 x hx) (t := ev true (.con (.bl true)))
  rw [this]
  have : l.filter (fun _ => true) = l := by simp
  rw [this]
/-! ### drawing -/
def iCell : IS :=
  (.seq (.ifs (.cmp .eq (.slot 0) (.lst .nil))
      (.ret (.bin .mul (.con (.int 7)) (.slot 1)))
      .skip)
  (.ret (.bin .add (.sub (.slot 0) (.bin .mod (.slot 1) (.bi .len (.cons (.slot 0) .nil)))) (.bin .mul (.con (.int 6553)) (.bin .fdv (.slot 1) (.bi .len (.cons (.slot 0) .nil)))))))
def iDrawn (fc : Sem) : IS :=
  (.seq (.asg (.nm 3) (.bin .mod (.bin .add (.bin .mul (.bin .mod (.call fc (.cons (.slot 0) (.cons (.slot 1) .nil))) (.con (.int 2147483563))) (.con (.int 69069))) (.bin .mul (.con (.int 104723)) (.bin .add (.slot 1) (.con (.int 1))))) (.con (.int 2147483563))))
  (.seq (.asg (.nm 3) (.bin .mod (.bin .add (.bin .mul (.slot 3) (.slot 3)) (.bin .fdv (.slot 3) (.con (.int 3)))) (.con (.int 2147483399))))
  (.ret (.bin .mod (.bin .fdv (.bin .mod (.bin .add (.bin .mul (.slot 3) (.slot 3)) (.bin .fdv (.slot 3) (.con (.int 7)))) (.con (.int 2147483647))) (.con (.int 11))) (.slot 2)))))
def iPlace (fd : Sem) : IS :=
  (.ret (.bi .tuple (.cons (.comp .rng1 (.cons (.call fd (.cons (.slot 0) (.cons (.slot 1) (.cons (.con (.int 4)) .nil)))) .nil) (.nm 2) (.con (.bl true)) (.sub (.con (.str "abc")) (.call fd (.cons (.slot 0) (.cons (.bin .add (.bin .add (.slot 1) (.con (.int 1))) (.slot 2)) (.cons (.con (.int 3)) .nil))))) [2]) .nil)))
def fCell : Sem := runDef 2 iCell
def fDrawn : Sem := runDef 4 (iDrawn fCell)
def fPlace : Sem := runDef 3 (iPlace fDrawn)
@[simp] theorem thn_ok {α : Type} (a : α) (h : AH) (e : En) (k : α → AH → RS) : R.thn (.ok a h) e k = k a h := rfl
@[simp] theorem thn_exc {α : Type} (c : Nat) (h : AH) (e : En) (k : α → AH → RS) : R.thn (.exc c h) e k = .exc c e h := rfl
@[simp] theorem seq_nx (e : En) (h : AH) (k : En → AH → RS) : RS.seq (.nx e h) k = k e h := rfl
@[simp] theorem seq_ret (d : AV) (h : AH) (k : En → AH → RS) : RS.seq (.ret d h) k = .ret d h := rfl
@[simp] theorem seq_exc (c : Nat) (e : En) (h : AH) (k : En → AH → RS) : RS.seq (.exc c e h) k = .exc c e h := rfl
@[simp] theorem seq_brk (e : En) (h : AH) (k : En → AH → RS) : RS.seq (.brk e h) k = .brk e h := rfl
@[simp] theorem seq_cnt (e : En) (h : AH) (k : En → AH → RS) : RS.seq (.cnt e h) k = .cnt e h := rfl
@[simp] theorem okO_some {α : Type} (a : α) (h : AH) : okO (some a) h = .ok a h := rfl
@[simp] theorem vw_int (i : Int) (h : AH) : vw h (.int i) = .int i := rfl
@[simp] theorem vw_str (i : Str) (h : AH) : vw h (.str i) = .str i := rfl
@[simp] theorem vw_bl (i : Bool) (h : AH) : vw h (.bl i) = .bl i := rfl
@[simp] theorem vw_non (h : AH) : vw h .non = .non := rfl
@[simp] theorem vw_tup (i : List AV) (h : AH) : vw h (.tup i) = .tup i := rfl
@[simp] theorem vw_lst (i : List AV) (h : AH) : vw h (.lst i) = .lst i := rfl
@[simp] theorem vw_scr (i : List Int) (h : AH) : vw h (.scr i) = .scr i := rfl
@[simp] theorem vw_dk (ks : List Key) (i : List AV) (h : AH) : vw h (.dk ks i) = .dk ks i := rfl
@[simp] theorem vw_dt (ks : List (List Key)) (i : List AV) (h : AH) : vw h (.dt ks i) = .dt ks i := rfl
theorem vw_itef {c : Prop} [Decidable c] (d : AV) : (if c then d else d) = d := by split <;> rfl
@[simp] theorem fresh_int (v : Bool) (i : Int) (h : AH) : fresh v (.int i) h = .ok (.int i) h := by cases v <;> rfl
@[simp] theorem fresh_str (v : Bool) (i : Str) (h : AH) : fresh v (.str i) h = .ok (.str i) h := by cases v <;> rfl
@[simp] theorem fresh_bl (v : Bool) (i : Bool) (h : AH) : fresh v (.bl i) h = .ok (.bl i) h := by cases v <;> rfl
@[simp] theorem fresh_non (v : Bool) (h : AH) : fresh v .non h = .ok .non h := by cases v <;> rfl
@[simp] theorem fresh_tup (v : Bool) (i : List AV) (h : AH) : fresh v (.tup i) h = .ok (.tup i) h := by cases v <;> rfl
@[simp] theorem fresh_lst (v : Bool) (i : List AV) (h : AH) : fresh v (.lst i) h = .ok (.lst i) h := by cases v <;> rfl
@[simp] theorem fresh_scr (v : Bool) (i : List Int) (h : AH) : fresh v (.scr i) h = .ok (.scr i) h := by cases v <;> rfl
@[simp] theorem fresh_dk (v : Bool) (ks : List Key) (i : List AV) (h : AH) : fresh v (.dk ks i) h = .ok (.dk ks i) h := by cases v <;> rfl
@[simp] theorem fresh_dt (v : Bool) (ks : List (List Key)) (i : List AV) (h : AH) : fresh v (.dt ks i) h = .ok (.dt ks i) h := by cases v <;> rfl
/-! the evaluator's equations -/
def ifR {α : Type} (x : AV) (a b : R α) : R α := match x with
  | .bl true => a
  | .bl false => b
  | _ => .bad
def ifS (x : AV) (a b : RS) : RS := match x with
  | .bl true => a
  | .bl false => b
  | _ => .bad
@[simp] theorem ifR_bl {α : Type} (k : Bool) (a b : R α) : ifR (.bl k) a b = if k = true then a else b := by cases k <;> rfl
@[simp] theorem ifS_bl (k : Bool) (a b : RS) : ifS (.bl k) a b = if k = true then a else b := by cases k <;> rfl
@[simp] theorem bind_ite {α β : Type} {c : Prop} [Decidable c] (a b : R α) (k : α → AH → R β) : R.bind (if c then a else b) k = if c then R.bind a k else R.bind b k := by split <;> rfl
@[simp] theorem thn_ite {α : Type} {c : Prop} [Decidable c] (a b : R α) (e : En) (k : α → AH → RS) : R.thn (if c then a else b) e k = if c then R.thn a e k else R.thn b e k := by split <;> rfl
@[simp] theorem seq_ite {c : Prop} [Decidable c] (a b : RS) (k : En → AH → RS) : RS.seq (if c then a else b) k = if c then RS.seq a k else RS.seq b k := by split <;> rfl
@[simp] theorem ite_bl {c : Prop} [Decidable c] (p q : Bool) (h : AH) : (if c then R.ok (AV.bl p) h else R.ok (AV.bl q) h) = R.ok (.bl (if c then p else q)) h := by split <;> rfl
@[simp] theorem ite_int {c : Prop} [Decidable c] (p q : Int) (h : AH) : (if c then R.ok (AV.int p) h else R.ok (AV.int q) h) = R.ok (.int (if c then p else q)) h := by split <;> rfl
@[simp] theorem ite_str {c : Prop} [Decidable c] (p q : Str) (h : AH) : (if c then R.ok (AV.str p) h else R.ok (AV.str q) h) = R.ok (.str (if c then p else q)) h := by split <;> rfl
@[simp] theorem slotV_val (v : Bool) (e : En) (i : Nat) (h : AH) : slotV v e i h = match e[i]? with
  | some (some (.val d)) => fresh v d h
  | some (some (.own c)) => if v then .ok c h else .bad
  | _ => .bad := rfl
section
variable (v : Bool) (e : En) (h : AH)
@[simp] theorem ev_slot (i : Nat) : ev v (.slot i) e h = slotV v e i h := rfl
@[simp] theorem ev_con (d : AV) : ev v (.con d) e h = .ok d h := rfl
@[simp] theorem ev_nil : ev v .nil e h = .ok (.tup []) h := rfl
@[simp] theorem ev_cons (a r : IE) : ev v (.cons a r) e h = (ev (v && pureI r) a e h).bind fun d h1 => (ev v r e h1).bind fun ds h2 => match ds with
    | .tup l => .ok (.tup (d :: l)) h2
    | _ => .bad := rfl
@[simp] theorem ev_tup (es : IE) : ev v (.tup es) e h = (ev false es e h).bind fun ds h1 => match ds with
    | .tup l => if l.length ≤ LIM then .ok (.tup l) h1 else .bad
    | _ => .bad := rfl
@[simp] theorem ev_lst (es : IE) : ev v (.lst es) e h = (ev false es e h).bind fun ds h1 => match ds with
    | .tup l => if l.length ≤ LIM then .ok (.lst l) h1 else .bad
    | _ => .bad := rfl
@[simp] theorem ev_neg (a : IE) : ev v (.neg a) e h = (ev false a e h).bind fun d h1 => match d with
    | .int i => .ok (.int (-i)) h1
    | _ => .bad := rfl
@[simp] theorem ev_bnd (a : IE) : ev v (.bnd a) e h = (ev false a e h).bind fun d h1 => match d with
    | .int i => .ok (.int i) h1
    | _ => .bad := rfl
@[simp] theorem ev_bin (o : Bin) (a b : IE) : ev v (.bin o a b) e h = (ev (pureI b) a e h).bind fun x h1 => (ev true b e h1).bind fun y h2 => doBin o x y h2 := rfl
@[simp] theorem ev_cmp (o : Cmp) (a b : IE) : ev v (.cmp o a b) e h = (ev (pureI b) a e h).bind fun x h1 => (ev true b e h1).bind fun y h2 => doCmp o x y h2 := rfl
@[simp] theorem ev_chain (o o' : Cmp) (a b c : IE) : ev v (.chain o o' a b c) e h = (ev false a e h).bind fun x h1 => (ev false b e h1).bind fun y h2 => (doCmp o x y h2).bind fun z h3 => ifR z ((ev false c e h3).bind fun u h4 => doCmp o' y u h4) (.ok (.bl false) h3) := rfl
@[simp] theorem ev_and (a b : IE) : ev v (.and a b) e h = (ev true a e h).bind fun x h1 => ifR x (ev v b e h1) (.ok (.bl false) h1) := rfl
@[simp] theorem ev_or (a b : IE) : ev v (.or a b) e h = (ev true a e h).bind fun x h1 => ifR x (.ok (.bl true) h1) (ev v b e h1) := rfl
@[simp] theorem ev_not (a : IE) : ev v (.not a) e h = (ev true a e h).bind fun x h1 => match x with
    | .bl k => .ok (.bl !k) h1
    | _ => .bad := rfl
@[simp] theorem ev_ite (t a b : IE) : ev v (.ite t a b) e h = (ev true t e h).bind fun x h1 => ifR x (ev v a e h1) (ev v b e h1) := rfl
@[simp] theorem ev_sub (a i : IE) : ev v (.sub a i) e h = (ev (pureI i) a e h).bind fun x h1 => (ev false i e h1).bind fun y h2 => (doSub x y h2).bind fun d h3 => fresh v d h3 := rfl
@[simp] theorem ev_sli (a lo hi : IE) : ev v (.sli a lo hi) e h = (ev (pureI lo && pureI hi) a e h).bind fun x h1 => (ev false lo e h1).bind fun y h2 => (ev false hi e h2).bind fun z h3 => doSli x y z h3 := rfl
@[simp] theorem ev_rvs (a : IE) : ev v (.rvs a) e h = (ev true a e h).bind fun x h1 => match x with
    | .lst l => .ok (.lst l.reverse) h1
    | _ => .bad := rfl
@[simp] theorem ev_call (f : Sem) (es : IE) : ev v (.call f es) e h = (ev false es e h).bind fun ds h1 => match ds with
    | .tup l => (f l h1).bind fun d h2 => fresh v d h2
    | _ => .bad := rfl
@[simp] theorem ev_bi (b : Bi) (es : IE) : ev v (.bi b es) e h = (ev true es e h).bind fun ds h1 => match ds with
    | .tup l => doBi b l h1
    | _ => .bad := rfl
@[simp] theorem ev_bm (b : Bm) (o es : IE) : ev v (.bm b o es) e h = (ev (pureI es) o e h).bind fun x h1 => if bmOk b x = true then ((ev true es e h1).bind fun ds h2 => match ds with
    | .tup l => doBm b x l h2
    | _ => .bad) else .bad := rfl
@[simp] theorem ev_fld (cs : List Nat) (o : IE) (f : Str) : ev v (.fld cs o f) e h = (ev false o e h).bind fun x h1 => fldV cs v x f h1 := rfl
@[simp] theorem ev_meth (m : Str) (tbl : List (Nat × Sem)) (o es : IE) : ev v (.meth m tbl o es) e h = (ev false o e h).bind fun x h1 => match methOf m tbl x h1 with
    | some F => (ev false es e h1).bind fun ds h2 => (match ds with
      | .tup l => (F.2 (.ref F.1 :: l) h2).bind fun d h3 => fresh v d h3
      | _ => .bad)
    | none => .bad := rfl
@[simp] theorem ev_make (c : Nat) (f : Sem) (es : IE) : ev v (.make c f es) e h = (ev false es e h).bind fun ds h1 => match ds with
    | .tup l => madeR h1.length (f (.ref h1.length :: l) (h1 ++ [.ins c []]))
    | _ => .bad := rfl
theorem ev_comp (it : It) (src : IE) (tg : Tg) (t g : IE) (own : List Nat) : ev v (.comp it src tg t g own) e h = ((ev (pureI t && pureI g) src e h).bind (itR it)).bind fun l h1 => noExc (compL (fun x => setTg tg x (wipeE e own)) (ev true t) (ev false g) l h1) := rfl
@[simp] theorem ev_isx (i : Nat) (cs : List Nat) : ev v (.isx i cs) e h = match e[i]? with
    | some (some (.exc c)) => .ok (.bl (cs.contains c)) h
    | _ => .bad := rfl
@[simp] theorem ev_callx (f : Nat → AH → R AV) (i : Nat) : ev v (.callx f i) e h = match e[i]? with
    | some (some (.exc c)) => (f c h).bind fun d h2 => fresh v d h2
    | _ => .bad := rfl
@[simp] theorem ex_skip : ex .skip e h = .nx e h := rfl
@[simp] theorem ex_seq (a b : IS) : ex (.seq a b) e h = (ex a e h).seq (ex b) := rfl
@[simp] theorem ex_asg (t : Tg) (a : IE) : ex (.asg t a) e h = (ev false a e h).thn e fun d h1 => match setTg t d e with
    | some e' => .nx e' h1
    | none => .bad := rfl
@[simp] theorem ex_par (i j : Nat) (a b : IE) : ex (.par i j a b) e h = (ev false a e h).thn e fun x h1 => (ev false b e h1).thn e fun y h2 =>
    if i < e.length ∧ j < e.length then .nx ((e.set i (some (.val x))).set j (some (.val y))) h2 else .bad := rfl
@[simp] theorem ex_own (i : Nat) (a : IE) : ex (.own i a) e h = ((ev false a e h).bind ownR).thn e fun d h1 => if i < e.length then .nx (e.set i (some (.own d))) h1 else .bad := rfl
@[simp] theorem ex_frz (i : Nat) : ex (.frz i) e h = match e[i]? with
    | some (some (.own c)) => .nx (e.set i (some (.val c))) h
    | _ => .nx e h := rfl
@[simp] theorem ex_drop (a : IE) : ex (.drop a) e h = (ev true a e h).thn e fun _ h1 => .nx e h1 := rfl
@[simp] theorem ex_app (i : Nat) (a : IE) : ex (.app i a) e h = match ownLst e i with
    | some l => (ev false a e h).thn e fun d h1 => if l.length < LIM then .nx (e.set i (some (.own (.lst (l ++ [d]))))) h1 else .bad
    | none => .bad := rfl
@[simp] theorem ex_sets (i : Nat) (k a : IE) : ex (.sets i k a) e h = match ownC e i with
    | some c => (ev false a e h).thn e fun d h1 => (ev false k e h1).thn e fun x h2 => (match putA c x d with
      | some c' => .nx (e.set i (some (.own c'))) h2
      | none => .bad)
    | none => .bad := rfl
@[simp] theorem ex_ifs (c : IE) (a b : IS) : ex (.ifs c a b) e h = (ev true c e h).thn e fun x h1 => ifS x (ex a e h1) (ex b e h1) := rfl
theorem ex_fors (t : Tg) (it : It) (src : IE) (b : IS) : ex (.fors t it src b) e h = ((ev false src e h).bind (itR it)).thn e fun l h1 => forL (fun x e1 h2 => match setTg t x e1 with | some e2 => ex b e2 h2 | none => .bad) l e h1 := rfl
theorem ex_whil (c : IE) (b : IS) : ex (.whil c b) e h = whileL (ev true c) (ex b) FUEL e h := rfl
@[simp] theorem ex_ret (a : IE) : ex (.ret a) e h = (ev false a e h).thn e fun d h1 => .ret d h1 := rfl
@[simp] theorem ex_brk : ex .brk e h = .brk e h := rfl
@[simp] theorem ex_cnt : ex .cnt e h = .cnt e h := rfl
@[simp] theorem ex_rais (c : Nat) : ex (.rais c) e h = .exc c e h := rfl
theorem ex_tryo (b : IS) (al cs : List Nat) (s : IS) : ex (.tryo b al cs s) e h = match ex b e h with
    | .exc c e' h' => if al.contains c = true then (if cs.contains c = true then ex s e' h' else .exc c e' h') else .bad
    | q => q := rfl
theorem ex_tryx (b : IS) (al cs : List Nat) (i : Nat) (s : IS) : ex (.tryx b al cs i s) e h = match ex b e h with
    | .exc c e' h' => if al.contains c = true then (if cs.contains c = true then unx i (ex s (e'.set i (some (.exc c))) h') else .exc c e' h') else .bad
    | q => q := rfl
theorem tryx_ret {e : En} {h : AH} {b s : IS} {al cs : List Nat} {i : Nat} {d : AV} {h' : AH} (q : ex b e h = .ret d h') : ex (.tryx b al cs i s) e h = .ret d h' := by rw [ex_tryx, q]
theorem tryx_nx {e : En} {h : AH} {b s : IS} {al cs : List Nat} {i : Nat} {e' : En} {h' : AH} (q : ex b e h = .nx e' h') : ex (.tryx b al cs i s) e h = .nx e' h' := by rw [ex_tryx, q]
/-- the clause that asks a def which refusal it is -/
theorem tryx_call {e : En} {h : AH} {b : IS} {al cs : List Nat} {i c : Nat} {F : Nat → AH → R AV} {d : AV} {e' : En} {h' h2 : AH} (q : ex b e h = .exc c e' h') (ha : al.contains c = true) (hc : cs.contains c = true) (hi : i < e'.length) (hF : F c h' = .ok d h2) : ex (.tryx b al cs i (.ret (.callx F i))) e h = .ret d h2 := by
  rw [ex_tryx, q]
  simp only [ha, hc, if_true]
  have e1 : ev false (.callx F i) (e'.set i (some (.exc c))) h' = (match (e'.set i (some (.exc c)))[i]? with
    | some (some (.exc c)) => (F c h').bind fun d h2 => fresh false d h2
    | _ => .bad) := rfl
  rw [List.getElem?_set_self hi] at e1
  simp only [hF] at e1
  show unx i ((ev false (.callx F i) (e'.set i (some (.exc c))) h').thn _ _) = _
  rw [e1]
  rfl
@[simp] theorem add_int (i j : Int) : doBin .add (.int i) (.int j) h = .ok (.int (i + j)) h := rfl
@[simp] theorem sub_int (i j : Int) : doBin .sub (.int i) (.int j) h = .ok (.int (i - j)) h := rfl
@[simp] theorem mul_int (i j : Int) : doBin .mul (.int i) (.int j) h = if (-(2 ^ 64) < i ∧ i < 2 ^ 64) ∨ (-(2 ^ 64) < j ∧ j < 2 ^ 64) then .ok (.int (i * j)) h else .bad := rfl
@[simp] theorem fdv_int (i j : Int) : doBin .fdv (.int i) (.int j) h = if 0 < j ∧ j < 1073741824 then .ok (.int (i / j)) h else .bad := rfl
@[simp] theorem mod_int (i j : Int) : doBin .mod (.int i) (.int j) h = if 0 < j then .ok (.int (i % j)) h else .bad := rfl
@[simp] theorem add_str (a b : Str) : doBin .add (.str a) (.str b) h = if a.length + b.length ≤ LIM then .ok (.str (a ++ b)) h else .bad := rfl
@[simp] theorem add_tup (a b : List AV) : doBin .add (.tup a) (.tup b) h = if a.length + b.length ≤ LIM then .ok (.tup (a ++ b)) h else .bad := rfl
@[simp] theorem add_lst (a b : List AV) : doBin .add (.lst a) (.lst b) h = if a.length + b.length ≤ LIM then .ok (.lst (a ++ b)) h else .bad := rfl
@[simp] theorem mul_tup (l : List AV) (k : Int) : doBin .mul (.tup l) (.int k) h = if l.length ≤ 1000 ∧ -1000 ≤ k ∧ k ≤ 1000 then .ok (.tup (List.replicate k.toNat l).flatten) h else .bad := rfl
@[simp] theorem mul_lst (l : List AV) (k : Int) : doBin .mul (.lst l) (.int k) h = if l.length ≤ 1000 ∧ -1000 ≤ k ∧ k ≤ 1000 then .ok (.lst (List.replicate k.toNat l).flatten) h else .bad := rfl
@[simp] theorem mul_str (l : Str) (k : Int) : doBin .mul (.str l) (.int k) h = if l.length ≤ 1000 ∧ -1000 ≤ k ∧ k ≤ 1000 then .ok (.str (repS l k)) h else .bad := rfl
@[simp] theorem cmp_eq (x y : AV) : doCmp .eq x y h = okO (((eqA x y).or (nilEq x y)).map AV.bl) h := rfl
@[simp] theorem cmp_ne (x y : AV) : doCmp .ne x y h = okO (((eqA x y).or (nilEq x y)).map fun b => AV.bl !b) h := rfl
@[simp] theorem cmp_lt (i j : Int) : doCmp .lt (.int i) (.int j) h = .ok (.bl (decide (i < j))) h := rfl
@[simp] theorem cmp_le (i j : Int) : doCmp .le (.int i) (.int j) h = .ok (.bl (decide (i ≤ j))) h := rfl
@[simp] theorem cmp_gt (i j : Int) : doCmp .gt (.int i) (.int j) h = .ok (.bl (decide (j < i))) h := rfl
@[simp] theorem cmp_ge (i j : Int) : doCmp .ge (.int i) (.int j) h = .ok (.bl (decide (j ≤ i))) h := rfl
@[simp] theorem cmp_innt (x : AV) (l : List AV) : doCmp .inn x (.tup l) h = okO ((inL x l).map AV.bl) h := rfl
@[simp] theorem cmp_innl (x : AV) (l : List AV) : doCmp .inn x (.lst l) h = okO ((inL x l).map AV.bl) h := rfl
@[simp] theorem cmp_nint (x : AV) (l : List AV) : doCmp .nin x (.tup l) h = okO ((inL x l).map fun b => AV.bl !b) h := rfl
@[simp] theorem cmp_ninl (x : AV) (l : List AV) : doCmp .nin x (.lst l) h = okO ((inL x l).map fun b => AV.bl !b) h := rfl
@[simp] theorem sub_tup (l : List AV) (k : Int) : doSub (.tup l) (.int k) h = okO (atI l k) h := rfl
@[simp] theorem sub_lst (l : List AV) (k : Int) : doSub (.lst l) (.int k) h = okO (atI l k) h := rfl
@[simp] theorem sub_scr (l : List Int) (k : Int) : doSub (.scr l) (.int k) h = okO ((atI l k).map AV.int) h := rfl
@[simp] theorem sub_str (s : Str) (k : Int) : doSub (.str s) (.int k) h = if s.length ≤ LIM then okO ((atI s.cps.toList k).map fun c => AV.str (sgn c)) h else .bad := rfl
@[simp] theorem sli_nn (x : AV) : doSli x .non .non h = sliA x none none h := rfl
@[simp] theorem sli_ni (x : AV) (j : Int) : doSli x .non (.int j) h = sliA x none (some j) h := rfl
@[simp] theorem sli_in (x : AV) (i : Int) : doSli x (.int i) .non h = sliA x (some i) none h := rfl
@[simp] theorem sli_ii (x : AV) (i j : Int) : doSli x (.int i) (.int j) h = sliA x (some i) (some j) h := rfl
@[simp] theorem sli_tup (l : List AV) (a b : Option Int) : sliA (.tup l) a b h = .ok (.tup (cutA l a b)) h := rfl
@[simp] theorem sli_lst (l : List AV) (a b : Option Int) : sliA (.lst l) a b h = .ok (.lst (cutA l a b)) h := rfl
@[simp] theorem len_tup (l : List AV) : doBi .len [.tup l] h = .ok (.int (l.length : Int)) h := rfl
@[simp] theorem len_lst (l : List AV) : doBi .len [.lst l] h = .ok (.int (l.length : Int)) h := rfl
@[simp] theorem len_scr (l : List Int) : doBi .len [.scr l] h = .ok (.int (l.length : Int)) h := rfl
@[simp] theorem srt_lst (l : List AV) : doBi .srt [.lst l] h = okO ((srtA l).map AV.lst) h := rfl
@[simp] theorem split_str (s p : Str) : doBm .split (.str s) [.str p] h = if p.length = 1 ∧ s.length + 2 ≤ 16777216 then .ok (.lst ((Txt.split s p).map .str)) h else .bad := rfl
@[simp] theorem bmOk_split (s : Str) : bmOk .split (.str s) = true := rfl
@[simp] theorem abs_int (i : Int) : doBi .abs [.int i] h = .ok (.int (if i < 0 then -i else i)) h := rfl
@[simp] theorem min_int (i j : Int) : doBi .min2 [.int i, .int j] h = .ok (.int (if j < i then j else i)) h := rfl
@[simp] theorem max_int (i j : Int) : doBi .max2 [.int i, .int j] h = .ok (.int (if j > i then j else i)) h := rfl
@[simp] theorem int_int (i : Int) : doBi .int [.int i] h = .ok (.int i) h := rfl
@[simp] theorem int_bl (k : Bool) : doBi .int [.bl k] h = .ok (.int (if k then 1 else 0)) h := rfl
@[simp] theorem list_tup (l : List AV) : doBi .list [.tup l] h = .ok (.lst l) h := rfl
@[simp] theorem list_lst (l : List AV) : doBi .list [.lst l] h = .ok (.lst l) h := rfl
@[simp] theorem tuple_tup (l : List AV) : doBi .tuple [.tup l] h = .ok (.tup l) h := rfl
@[simp] theorem tuple_lst (l : List AV) : doBi .tuple [.lst l] h = .ok (.tup l) h := rfl
@[simp] theorem set_nm (i : Nat) (d : AV) : setTg (.nm i) d e = if i < e.length then some (e.set i (some (.val d))) else none := rfl
end
theorem slot_val {v : Bool} {e : En} {i : Nat} {d : AV} {h : AH} (q : e[i]? = some (some (.val d))) : slotV v e i h = fresh v d h := by unfold slotV; rw [q]; rfl
theorem slot_own {e : En} {i : Nat} {d : AV} {h : AH} (q : e[i]? = some (some (.own d))) : slotV true e i h = .ok d h := by unfold slotV; rw [q]; rfl
def cellV (ns : List Int) (k : Int) : Int := if ns = [] then 7 * k else (ns[(k % ns.length).toNat]?).getD 0 + 6553 * (k / ns.length)
theorem atI_in {α : Type} {l : List α} {k : Int} (h0 : 0 ≤ k) (h1 : k < l.length) (d : α) : atI l k = some ((l[k.toNat]?).getD d) := by
  unfold atI ixN
  rw [if_pos h0, if_pos h1]
  have : k.toNat < l.length := by omega
  simp [this]
theorem cell_eq {ns : List Int} (hl : ns.length ≤ 63) (k : Int) (h : AH) : fCell [.scr ns, .int k] h = .ok (.int (cellV ns k)) h := by
  unfold fCell runDef iCell
  by_cases c : ns = []
  · subst c
    simp [pureI, cellV, eqA_scr_nil]
  · have hp : 0 < ns.length := List.length_pos_iff.mpr c
    have m1 : 0 ≤ k % (ns.length : Int) := Int.emod_nonneg _ (by omega)
    have m2 : k % (ns.length : Int) < ns.length := Int.emod_lt_of_pos _ (by omega)
    have at_ := atI_in m1 m2 0
    have hq : (ns.length : Int) < 1073741824 := by omega
    simp [pureI, cellV, eqA_scr_nil, c, hp, hq, at_]
def mixV (c k : Int) : Int := (c % 2147483563 * 69069 + 104723 * (k + 1)) % 2147483563
def mixW (a : Int) : Int := (a * a + a / 3) % 2147483399
def mixX (a : Int) : Int := (a * a + a / 7) % 2147483647 / 11
def drawn (ns : List Int) (k m : Int) : Int := mixX (mixW (mixV (cellV ns k) k)) % m
theorem drawn_lt {ns : List Int} {k m : Int} (hm : 0 < m) : 0 ≤ drawn ns k m ∧ drawn ns k m < m := ⟨Int.emod_nonneg _ (by omega), Int.emod_lt_of_pos _ hm⟩
theorem drawn_eq {ns : List Int} (hl : ns.length ≤ 63) (k m : Int) (hm : 0 < m) (h : AH) : fDrawn [.scr ns, .int k, .int m] h = .ok (.int (drawn ns k m)) h := by
  unfold fDrawn runDef iDrawn
  have ec := cell_eq hl k h
  generalize hc : cellV ns k = c at ec
  have a0 : 0 ≤ mixV c k := Int.emod_nonneg _ (by decide)
  have a1 : mixV c k < 2147483563 := Int.emod_lt_of_pos _ (by decide)
  have b0 : 0 ≤ mixW (mixV c k) := Int.emod_nonneg _ (by decide)
  have b1 : mixW (mixV c k) < 2147483399 := Int.emod_lt_of_pos _ (by decide)
  have e0 : drawn ns k m = mixX (mixW (mixV c k)) % m := by unfold drawn; rw [hc]
  rw [e0]
  unfold mixW mixV at *
  have q1 : -18446744073709551616 < (c % 2147483563 * 69069 + 104723 * (k + 1)) % 2147483563 ∧ (c % 2147483563 * 69069 + 104723 * (k + 1)) % 2147483563 < 18446744073709551616 := ⟨by omega, by omega⟩
  generalize hA : (c % 2147483563 * 69069 + 104723 * (k + 1)) % 2147483563 = A at *
  have q2 : -18446744073709551616 < (A * A + A / 3) % 2147483399 ∧ (A * A + A / 3) % 2147483399 < 18446744073709551616 := ⟨by omega, by omega⟩
  simp only [List.map_cons, List.map_nil, List.length_cons, List.length_nil]
  simp [pureI, ec, doBin, setTg, hA, q1, q2, hm, mixX]
def lett (i : Int) : Str := sgn ((("abc" : Str).cps.toList[i.toNat]?).getD 0)
def placeV (ns : List Int) (a : Int) : List Str := (List.range (drawn ns a 4).toNat).map fun (j : Nat) => lett (drawn ns (a + 1 + (j : Int)) 3)
theorem placeV_len (ns : List Int) (a : Int) : (placeV ns a).length ≤ 3 := by
  have := drawn_lt (ns := ns) (k := a) (m := 4) (by decide)
  unfold placeV
  simp
  omega
theorem wipeE_lt {e : En} {own : List Nat} {i : Nat} (h : i < e.length) : i < (wipeE e own).length := by rw [wipeE_len]; exact h
theorem comp_ok {it : It} {src : IE} {tg : Tg} {t g : IE} {own : List Nat} {v : Bool} {e : En} {h : AH} {xs l ys : List AV} (h1 : ev (pureI t && pureI g) src e h = .ok (.tup xs) h) (h2 : itemsA it xs = some l)
    (h3 : compL (fun x => setTg tg x (wipeE e own)) (ev true t) (ev false g) l h = .ok ys h) : ev v (.comp it src tg t g own) e h = .ok (.lst ys) h := by
  rw [ev_comp, h1]
  show R.bind (itR it (.tup xs) h) _ = _
  unfold itR
  simp only [h2, okO_some, R.bind_ok, h3]
  rfl
/-- over a range, with a test -/
theorem comp_rngP {src : IE} {i : Nat} {t g : IE} {own : List Nat} {v : Bool} {e : En} {h : AH} {n : Int} (P : Nat → Bool) (G : Nat → AV) (h1 : ev (pureI t && pureI g) src e h = .ok (.tup [.int n]) h) (hn : 0 ≤ n ∧ n ≤ 1000000) (hi : i < e.length)
    (ht : ∀ j : Nat, (j : Int) < n → ev true t ((wipeE e own).set i (some (.val (.int (j : Int))))) h = .ok (.bl (P j)) h) (hg : ∀ j : Nat, (j : Int) < n → P j = true → ev false g ((wipeE e own).set i (some (.val (.int (j : Int))))) h = .ok (G j) h) :
    ev v (.comp .rng1 src (.nm i) t g own) e h = .ok (.lst (((List.range n.toNat).filter P).map G)) h := by
  refine comp_ok h1 (l := rngL 0 n.toNat) ?_ ?_
  · show (if -(2 ^ 62) ≤ n ∧ n ≤ LIM then some (rngL 0 n.toNat) else none) = _
    rw [if_pos ⟨by omega, by show n ≤ (16777216 : Nat); omega⟩]
  · unfold rngL
    have e0 : (fun k : Nat => AV.int (0 + (k : Int))) = fun k : Nat => AV.int (k : Int) := by funext k; rw [Int.zero_add]
    rw [e0]
    refine compL_map (fun k : Nat => AV.int (k : Int)) (fun k => (wipeE e own).set i (some (.val (.int (k : Int))))) P G _ (fun x _ => ?_) (fun x hx => ht x ?_) fun x hx => hg x ?_
    · show (if i < (wipeE e own).length then _ else none) = _
      rw [if_pos (wipeE_lt hi)]
    · have := List.mem_range.mp hx; omega
    · have := List.mem_range.mp hx; omega
theorem comp_rng {src : IE} {i : Nat} {g : IE} {own : List Nat} {v : Bool} {e : En} {h : AH} {n : Int} (G : Nat → AV) (h1 : ev (pureI g) src e h = .ok (.tup [.int n]) h) (hn : 0 ≤ n ∧ n ≤ 1000000) (hi : i < e.length)
    (hg : ∀ j : Nat, (j : Int) < n → ev false g ((wipeE e own).set i (some (.val (.int (j : Int))))) h = .ok (G j) h) :
    ev v (.comp .rng1 src (.nm i) (.con (.bl true)) g own) e h = .ok (.lst ((List.range n.toNat).map G)) h := by
  have := comp_rngP (t := .con (.bl true)) (own := own) (v := v) (fun _ => true) G h1 hn hi (fun j _ => rfl) fun j hj _ => hg j hj
  rw [this]
  have : (List.range n.toNat).filter (fun _ => true) = List.range n.toNat := by simp
  rw [this]
/-- over a list, a tuple, the script -/
theorem comp_seqP {α : Type} {src : IE} {i : Nat} {t g : IE} {own : List Nat} {v : Bool} {e : En} {h : AH} {d : AV} {l : List α} (inj : α → AV) (P : α → Bool) (G : α → AV) (h1 : ev (pureI t && pureI g) src e h = .ok (.tup [d]) h) (hd : itemsA .seq [d] = some (l.map inj)) (hi : i < e.length)
    (ht : ∀ x ∈ l, ev true t ((wipeE e own).set i (some (.val (inj x)))) h = .ok (.bl (P x)) h) (hg : ∀ x ∈ l, P x = true → ev false g ((wipeE e own).set i (some (.val (inj x)))) h = .ok (G x) h) :
    ev v (.comp .seq src (.nm i) t g own) e h = .ok (.lst ((l.filter P).map G)) h := by
  refine comp_ok h1 hd (compL_map inj (fun x => (wipeE e own).set i (some (.val (inj x)))) P G _ (fun x _ => ?_) ht hg)
  show (if i < (wipeE e own).length then _ else none) = _
  rw [if_pos (wipeE_lt hi)]
theorem comp_seq {α : Type} {src : IE} {i : Nat} {g : IE} {own : List Nat} {v : Bool} {e : En} {h : AH} {d : AV} {l : List α} (inj : α → AV) (G : α → AV) (h1 : ev (pureI g) src e h = .ok (.tup [d]) h) (hd : itemsA .seq [d] = some (l.map inj)) (hi : i < e.length)
    (hg : ∀ x ∈ l, ev false g ((wipeE e own).set i (some (.val (inj x)))) h = .ok (G x) h) :
    ev v (.comp .seq src (.nm i) (.con (.bl true)) g own) e h = .ok (.lst (l.map G)) h := by
  have := comp_seqP (t := .con (.bl true)) (own := own) (v := v) inj (fun _ => true) G h1 hd hi (fun j _ => rfl) fun j hj _ => hg j hj
  rw [this]
  have : l.filter (fun _ => true) = l := by simp
  rw [this]
theorem place_eq {ns : List Int} (hl : ns.length ≤ 63) (a : Int) (h : AH) : fPlace [.scr ns, .int a] h = .ok (pl (placeV ns a)) h := by
  unfold fPlace runDef iPlace
  have d1 := drawn_lt (ns := ns) (k := a) (m := 4) (by decide)
  have ed := fun k m (hm : 0 < m) => drawn_eq hl k m hm h
  simp only [List.map_cons, List.map_nil, List.length_cons, List.length_nil]
  simp [pureI]
  rw [comp_rng (n := drawn ns a 4) (fun j => .str (lett (drawn ns (a + 1 + (j : Int)) 3))) (by simp [pureI, ed]) ⟨d1.1, by omega⟩ (by simp) fun j _ => ?_]
  · simp [pl, placeV]
  · have d2 := drawn_lt (ns := ns) (k := a + 1 + (j : Int)) (m := 3) (by decide)
    have at_ : atI (("abc" : Str).cps.toList) (drawn ns (a + 1 + (j : Int)) 3) = some (((("abc" : Str).cps.toList)[(drawn ns (a + 1 + (j : Int)) 3).toNat]?).getD 0) := atI_in d2.1 (by
      have : (("abc" : Str).cps.toList).length = 3 := by decide +kernel
      omega) 0
    have hL : ("abc" : Str).length ≤ 16777216 := by decide +kernel
    simp [pureI, wipeE, ed, at_, hL, lett]
/-! ### loops -/
theorem forL_nil (s : AV → En → AH → RS) (e : En) (h : AH) : forL s [] e h = .nx e h := rfl
theorem forL_cons (s : AV → En → AH → RS) (x : AV) (r : List AV) (e : En) (h : AH) : forL s (x :: r) e h = match s x e h with
    | .nx e' h' => forL s r e' h'
    | .cnt e' h' => forL s r e' h'
    | .brk e' h' => .nx e' h'
    | q => q := rfl
def stepF (t : Tg) (b : IS) : AV → En → AH → RS := fun x e1 h2 => match setTg t x e1 with | some e2 => ex b e2 h2 | none => .bad
@[simp] theorem step_nm (i : Nat) (b : IS) (x : AV) (e : En) (h : AH) : stepF (.nm i) b x e h = if i < e.length then ex b (e.set i (some (.val x))) h else .bad := by
  unfold stepF
  rw [set_nm]
  by_cases c : i < e.length
  · rw [if_pos c, if_pos c]
  · rw [if_neg c, if_neg c]
theorem for_ok {t : Tg} {it : It} {src : IE} {b : IS} {e : En} {h : AH} {xs l : List AV} (h1 : ev false src e h = .ok (.tup xs) h) (h2 : itemsA it xs = some l) : ex (.fors t it src b) e h = forL (stepF t b) l e h := by
  rw [ex_fors, h1]
  show R.thn (itR it (.tup xs) h) _ _ = _
  unfold itR
  simp only [h2, okO_some, thn_ok]
  rfl
/-- a tuple, a list of texts walked by one name -/
theorem for_pl {i : Nat} {src : IE} {b : IS} {e : En} {h : AH} {l : List Str} (h1 : ev false src e h = .ok (.tup [pl l]) h) : ex (.fors (.nm i) .seq src b) e h = forL (stepF (.nm i) b) (l.map .str) e h := for_ok h1 rfl
theorem run_eq (n : Nat) (b : IS) (args : List AV) (h : AH) : runDef n b args h = match ex b (args.map (fun d => some (.val d)) ++ List.replicate (n - args.length) none) h with
  | .ret d h => .ok d h
  | .nx _ h => .ok .non h
  | .exc c _ h => .exc c h
  | _ => .bad := rfl
/-! ### parts of lists -/
@[simp] theorem cut_to {α : Type} (l : List α) (n : Nat) : cutA l none (some (n : Int)) = l.take n := by
  unfold cutA
  rw [show HT.sIx l.length 0 none = 0 from rfl, HT.sIx_nat, List.drop_zero, Nat.sub_zero]
  by_cases h : n ≤ l.length
  · rw [Nat.min_eq_left h]
  · rw [Nat.min_eq_right (by omega), List.take_length, List.take_of_length_le (by omega)]
@[simp] theorem cut_from {α : Type} (l : List α) (n : Nat) : cutA l (some (n : Int)) none = l.drop n := by
  unfold cutA
  rw [show HT.sIx l.length l.length none = l.length from rfl, HT.sIx_nat]
  by_cases h : n ≤ l.length
  · rw [Nat.min_eq_left h, List.take_of_length_le (by rw [List.length_drop]; exact Nat.le_refl _)]
  · rw [Nat.min_eq_right (by omega), Nat.sub_self, List.take_zero, List.drop_of_length_le (by omega)]
@[simp] theorem cut_init {α : Type} (l : List α) : cutA l none (some (-1)) = l.dropLast := by
  unfold cutA
  have : HT.sIx l.length l.length (some (-1)) = l.length - 1 := by
    show (if (-1 : Int) < 0 then ((-1 : Int) + (l.length : Int)).toNat else min (-1 : Int).toNat l.length) = _
    rw [if_pos (by decide)]
    omega
  rw [show HT.sIx l.length 0 none = 0 from rfl, this, List.drop_zero, Nat.sub_zero, List.dropLast_eq_take]
@[simp] theorem cut_map {α β : Type} (f : α → β) (l : List α) (a b : Option Int) : cutA (l.map f) a b = (cutA l a b).map f := by
  unfold cutA
  rw [List.length_map, List.map_take, List.map_drop]
@[simp] theorem atI_nat {α : Type} (l : List α) (n : Nat) : atI l (n : Int) = l[n]? := by
  unfold atI ixN
  rw [if_pos (by omega)]
  by_cases h : n < l.length
  · rw [if_pos (by omega), Int.toNat_natCast]; rfl
  · rw [if_neg (by omega)]
    simp
    omega
theorem whileL_succ (c : En → AH → R AV) (b : En → AH → RS) (n : Nat) (e : En) (h : AH) : whileL c b (n + 1) e h = (c e h).thn e fun x h1 => match x with
    | .bl false => .nx e h1
    | .bl true => (match b e h1 with
      | .nx e' h' => whileL c b n e' h'
      | .cnt e' h' => whileL c b n e' h'
      | .brk e' h' => .nx e' h'
      | q => q)
    | _ => .bad := rfl
theorem cut_toI {α : Type} (l : List α) {i : Int} (h : 0 ≤ i) : cutA l none (some i) = l.take i.toNat := by
  have : i = ((i.toNat : Nat) : Int) := by omega
  rw [this, cut_to]
  rfl
theorem ex_seq_of {a b : IS} {e e' : En} {h h' : AH} (q : ex a e h = .nx e' h') : ex (.seq a b) e h = ex b e' h' := by rw [ex_seq, q, seq_nx]
theorem ex_if_no {c : IE} {a b : IS} {e : En} {h h' : AH} (q : ev true c e h = .ok (.bl false) h') : ex (.ifs c a b) e h = ex b e h' := by rw [ex_ifs, q]; rfl
theorem ex_if_yes {c : IE} {a b : IS} {e : En} {h h' : AH} (q : ev true c e h = .ok (.bl true) h') : ex (.ifs c a b) e h = ex a e h' := by rw [ex_ifs, q]; rfl
theorem run_of {n : Nat} {b : IS} {args : List AV} {h h' : AH} {d : AV} (q : ex b (args.map (fun d => some (.val d)) ++ List.replicate (n - args.length) none) h = .ret d h') : runDef n b args h = .ok d h' := by rw [run_eq, q]
theorem allStr_map (l : List Str) : allStr (l.map .str) = some l := by
  induction l with
  | nil => rfl
  | cons x r ih =>
    show (allStr (r.map .str)).map (x :: ·) = _
    rw [ih]; rfl
@[simp] theorem join_lst (s : Str) (l : List Str) (h : AH) : doBm .join (.str s) [.lst (l.map .str)] h = if (l.map (·.length)).sum + l.length * s.length ≤ 16777216 then .ok (.str (Txt.join s l)) h else .bad := by
  simp only [doBm, allStr_map]
@[simp] theorem join_tup (s : Str) (l : List Str) (h : AH) : doBm .join (.str s) [.tup (l.map .str)] h = if (l.map (·.length)).sum + l.length * s.length ≤ 16777216 then .ok (.str (Txt.join s l)) h else .bad := by
  simp only [doBm, allStr_map]
@[simp] theorem bmOk_join (s : Str) : bmOk .join (.str s) = true := rfl
@[simp] theorem isBool_bl (b : Bool) (h : AH) : doBi .isBool [.bl b] h = .ok (.bl true) h := rfl
theorem sgn_len (c : Nat) : (sgn c).length = 1 := rfl
theorem lett_len (i : Int) : (lett i).length = 1 := rfl
theorem placeV_mem {ns : List Int} {a : Int} {w : Str} (h : w ∈ placeV ns a) : w.length = 1 := by
  unfold placeV at h
  obtain ⟨j, _, rfl⟩ := List.mem_map.mp h
  exact lett_len _
theorem str_len (s : Str) : s.length = (TL.tl s).length := by
  show s.cps.size = s.cps.toList.length
  rw [Array.length_toList]
theorem app_len (a b : Str) : (a ++ b).length = a.length + b.length := by rw [str_len, TL.tl_append, List.length_append, ← str_len, ← str_len]
@[simp] theorem len_str (s : Str) (h : AH) : doBi .len [.str s] h = if s.length ≤ LIM then .ok (.int (s.length : Int)) h else .bad := by
  show okO ((if s.length ≤ LIM then some s.length else none).map fun (n : Nat) => AV.int (n : Int)) h = _
  split <;> rfl
@[simp] theorem sli_str (s : Str) (a b : Option Int) (h : AH) : sliA (.str s) a b h = if s.length ≤ LIM then .ok (.str ⟨(cutA s.cps.toList a b).toArray⟩) h else .bad := rfl
theorem inL_str (x : Str) (l : List Str) : inL (.str x) (l.map .str) = some (decide (x ∈ l)) := inL_of good_str (by decide) x l
/-- a loop whose body never leaves it -/
theorem forL_inv {s : AV → En → AH → RS} {h : AH} (I : En → Prop) : ∀ (l : List AV), (∀ x ∈ l, ∀ e, I e → ∃ e', s x e h = .nx e' h ∧ I e') → ∀ e, I e → ∃ e', forL s l e h = .nx e' h ∧ I e'
  | [], _, e, he => ⟨e, rfl, he⟩
  | x :: r, hs, e, he => by
    obtain ⟨e1, q1, i1⟩ := hs x List.mem_cons_self e he
    rw [forL_cons, q1]
    exact forL_inv I r (fun y hy => hs y (List.mem_cons_of_mem _ hy)) e1 i1
section
variable (h : AH)
@[simp] theorem isn_non : doCmp .isn .non .non h = .ok (.bl true) h := rfl
@[simp] theorem isnn_non : doCmp .isnn .non .non h = .ok (.bl false) h := rfl
@[simp] theorem isn_tup (x : List AV) : doCmp .isn (.tup x) .non h = .ok (.bl false) h := rfl
@[simp] theorem isnn_tup (x : List AV) : doCmp .isnn (.tup x) .non h = .ok (.bl true) h := rfl
@[simp] theorem isn_lst (x : List AV) : doCmp .isn (.lst x) .non h = .ok (.bl false) h := rfl
@[simp] theorem isnn_lst (x : List AV) : doCmp .isnn (.lst x) .non h = .ok (.bl true) h := rfl
@[simp] theorem isn_int (x : Int) : doCmp .isn (.int x) .non h = .ok (.bl false) h := rfl
@[simp] theorem isnn_int (x : Int) : doCmp .isnn (.int x) .non h = .ok (.bl true) h := rfl
@[simp] theorem isn_str (x : Str) : doCmp .isn (.str x) .non h = .ok (.bl false) h := rfl
@[simp] theorem isnn_str (x : Str) : doCmp .isnn (.str x) .non h = .ok (.bl true) h := rfl
@[simp] theorem isn_bl (x : Bool) : doCmp .isn (.bl x) .non h = .ok (.bl false) h := rfl
@[simp] theorem isnn_bl (x : Bool) : doCmp .isnn (.bl x) .non h = .ok (.bl true) h := rfl
end
@[simp] theorem atI_zero {α : Type} (l : List α) : atI l 0 = l[0]? := atI_nat l 0
@[simp] theorem atI_one {α : Type} (l : List α) : atI l 1 = l[1]? := atI_nat l 1
@[simp] theorem atI_two {α : Type} (l : List α) : atI l 2 = l[2]? := atI_nat l 2
@[simp] theorem atI_three {α : Type} (l : List α) : atI l 3 = l[3]? := atI_nat l 3
theorem allBl_map (l : List Bool) : allBl (l.map .bl) = some l := by
  induction l with
  | nil => rfl
  | cons x r ih =>
    show (allBl (r.map .bl)).map (x :: ·) = _
    rw [ih]; rfl
theorem all_bls {α : Type} (f : α → Bool) (l : List α) (h : AH) : doBi .all [.lst (l.map fun x => .bl (f x))] h = .ok (.bl (l.all f)) h := by
  show okO ((allBl (l.map fun x => AV.bl (f x))).map fun bs => AV.bl (bs.all id)) h = _
  have : (l.map fun x => AV.bl (f x)) = (l.map f).map .bl := by rw [List.map_map]; rfl
  rw [this, allBl_map]
  show R.ok (AV.bl ((l.map f).all id)) h = _
  rw [List.all_map]
  rfl
section
variable (h : AH)
@[simp] theorem isStr_str (s : Str) : doBi .isStr [.str s] h = .ok (.bl true) h := rfl
@[simp] theorem isTup_tup (s : List AV) : doBi .isTup [.tup s] h = .ok (.bl true) h := rfl
theorem in_sign (c : Nat) (s : Str) : doCmp .inn (.str (sgn c)) (.str s) h = .ok (.bl (decide (c ∈ s.cps.toList))) h := rfl
end
end Ab

set_option maxHeartbeats 4000000
/-! AbP: the program's functions of places: what each tells. -/
namespace Pr
open PySem L2 Ab
def b_led_1 : IS :=
  (.ifs (.cmp .eq (.slot 2) (.con (.str "..")))
  (.seq (.ifs (.cmp .eq (.slot 0) (.tup .nil))
      (.ret (.con .non))
      .skip)
    (.asg (.nm 0) (.sli (.slot 0) (.con .non) (.bnd (.neg (.con (.int 1)))))))
  (.ifs (.cmp .ne (.slot 2) (.con (.str ".")))
    (.seq (.asg (.nm 0) (.bin .add (.slot 0) (.tup (.cons (.slot 2) .nil))))
      (.ifs (.cmp .gt (.bi .len (.cons (.slot 0) .nil)) (.con (.int 6)))
      (.ret (.con .non))
      .skip))
    .skip))
def i_led : IS :=
  (.seq (.fors (.nm 2) .seq (.cons (.slot 1) .nil) b_led_1)
  (.ret (.slot 0)))
def f_led : Sem := runDef 3 i_led
def i_is_under : IS :=
  (.ret (.cmp .eq (.sli (.slot 0) (.con .non) (.bnd (.bi .len (.cons (.slot 1) .nil)))) (.slot 1)))
def f_is_under : Sem := runDef 2 i_is_under
def b_steps_to_1 : IS :=
  (.asg (.nm 2) (.bin .add (.slot 2) (.con (.int 1))))
def k_steps_to_1 : IE := (.and (.cmp .lt (.slot 2) (.bi .min2 (.cons (.bi .len (.cons (.slot 0) .nil)) (.cons (.bi .len (.cons (.slot 1) .nil)) .nil)))) (.cmp .eq (.sub (.slot 0) (.slot 2)) (.sub (.slot 1) (.slot 2))))
def i_steps_to : IS :=
  (.seq (.asg (.nm 2) (.con (.int 0)))
  (.seq (.whil k_steps_to_1 b_steps_to_1)
  (.ret (.bin .add (.bin .mul (.tup (.cons (.con (.str "..")) .nil)) (.bin .sub (.bi .len (.cons (.slot 0) .nil)) (.slot 2))) (.sli (.slot 1) (.bnd (.slot 2)) (.con .non))))))
def f_steps_to : Sem := runDef 3 i_steps_to
def i_place_text : IS :=
  (.ret (.bin .add (.con (.str "/")) (.bm .join (.con (.str "/")) (.cons (.slot 0) .nil))))
def f_place_text : Sem := runDef 1 i_place_text
def i_is_word : IS :=
  (.ret (.and (.bi .isStr (.cons (.slot 0) .nil)) (.and (.chain .le .le (.con (.int 1)) (.bi .len (.cons (.slot 0) .nil)) (.con (.int 4))) (.bi .all (.cons (.comp .seq (.cons (.slot 0) .nil) (.nm 1) (.con (.bl true)) (.cmp .inn (.slot 1) (.con (.str "abcdefghijklmnopqrstuvwxyz"))) [1]) .nil)))))
def f_is_word : Sem := runDef 2 i_is_word
def i_is_place : IS :=
  (.ret (.and (.bi .isTup (.cons (.slot 0) .nil)) (.and (.cmp .le (.bi .len (.cons (.slot 0) .nil)) (.con (.int 6))) (.bi .all (.cons (.comp .seq (.cons (.slot 0) .nil) (.nm 1) (.con (.bl true)) (.call f_is_word (.cons (.slot 1) .nil)) [1]) .nil)))))
def f_is_place : Sem := runDef 2 i_is_place
theorem dot_ne : ¬ (("." : Str) = "..") := by decide +kernel
def ledF : List Str → List Str → Option (List Str)
  | p, [] => some p
  | p, s :: r => if s = ".." then (if p = [] then none else ledF p.dropLast r) else if s = "." then ledF p r else if 6 < p.length + 1 then none else ledF (p ++ [s]) r
def optP : Option (List Str) → AV
  | some q => pl q
  | none => .non
theorem led_step (p s0 : List Str) (x : Str) (h : AH) (hp : p.length ≤ 6) : ex b_led_1 [some (.val (pl p)), some (.val (pl s0)), some (.val (.str x))] h =
    if x = ".." then (if p = [] then .ret .non h else .nx [some (.val (pl p.dropLast)), some (.val (pl s0)), some (.val (.str x))] h) else if x = "." then .nx [some (.val (pl p)), some (.val (pl s0)), some (.val (.str x))] h
    else if 6 < p.length + 1 then .ret .non h else .nx [some (.val (pl (p ++ [x]))), some (.val (pl s0)), some (.val (.str x))] h := by
  have hL : p.length + 1 ≤ 16777216 := by omega
  by_cases c1 : x = ".."
  · by_cases c2 : p = []
    · simp [b_led_1, pureI, c1, c2]
    · simp [b_led_1, pureI, c1, c2]
  · by_cases c2 : x = "."
    · simp [b_led_1, pureI, c1, c2, dot_ne]
    · by_cases c3 : 6 < p.length + 1
      · have c4 : (6 : Int) < p.length + 1 := by omega
        simp [b_led_1, pureI, c1, c2, c3, hL, c4]
      · have c4 : ¬ (6 : Int) < p.length + 1 := by omega
        simp [b_led_1, pureI, c1, c2, c3, hL, c4]
theorem led_loop (s0 : List Str) (h : AH) (s : List Str) : ∀ (p : List Str) (v : Option FV), p.length ≤ 6 →
    (match ledF p s with
    | some q => ∃ v', forL (stepF (.nm 2) b_led_1) (s.map .str) [some (.val (pl p)), some (.val (pl s0)), v] h = .nx [some (.val (pl q)), some (.val (pl s0)), v'] h
    | none => forL (stepF (.nm 2) b_led_1) (s.map .str) [some (.val (pl p)), some (.val (pl s0)), v] h = .ret .non h) := by
  induction s with
  | nil => intro p v hp; exact ⟨v, rfl⟩
  | cons x r ih =>
    intro p v hp
    have e1 : stepF (.nm 2) b_led_1 (.str x) [some (.val (pl p)), some (.val (pl s0)), v] h = ex b_led_1 [some (.val (pl p)), some (.val (pl s0)), some (.val (.str x))] h := by rw [step_nm]; rfl
    rw [List.map_cons, forL_cons, e1, led_step p s0 x h hp]
    unfold ledF
    by_cases c1 : x = ".."
    · rw [if_pos c1, if_pos c1]
      by_cases c2 : p = []
      · rw [if_pos c2, if_pos c2]
      · rw [if_neg c2, if_neg c2]
        exact ih p.dropLast (some (.val (.str x))) (by rw [List.length_dropLast]; omega)
    · rw [if_neg c1, if_neg c1]
      by_cases c2 : x = "."
      · rw [if_pos c2, if_pos c2]
        exact ih p (some (.val (.str x))) hp
      · rw [if_neg c2, if_neg c2]
        by_cases c3 : 6 < p.length + 1
        · rw [if_pos c3, if_pos c3]
        · rw [if_neg c3, if_neg c3]
          exact ih (p ++ [x]) (some (.val (.str x))) (by rw [List.length_append]; simp; omega)
theorem led_eq (p s : List Str) (h : AH) (hp : p.length ≤ 6) : f_led [pl p, pl s] h = .ok (optP (ledF p s)) h := by
  unfold f_led
  rw [run_eq]
  have l := led_loop s h s p none hp
  have e1 : ex i_led [some (.val (pl p)), some (.val (pl s)), none] h = (forL (stepF (.nm 2) b_led_1) (s.map .str) [some (.val (pl p)), some (.val (pl s)), none] h).seq (ex (.ret (.slot 0))) := by
    unfold i_led
    rw [ex_seq, for_pl (l := s) (by simp [pureI])]
  show (match ex i_led [some (.val (pl p)), some (.val (pl s)), none] h with | .ret d h => _ | .nx _ h => _ | .exc c _ h => _ | _ => _) = _
  rw [e1]
  cases q : ledF p s with
  | some r =>
    rw [q] at l
    obtain ⟨v', l⟩ := l
    rw [l]
    simp [optP]
  | none =>
    rw [q] at l
    rw [l]
    simp [optP]
theorem under_eq (p q : List Str) (h : AH) : f_is_under [pl p, pl q] h = .ok (.bl (decide (p.take q.length = q))) h := by
  unfold f_is_under
  rw [run_eq]
  simp [i_is_under, pureI, ← List.map_take]
/-! the fewest steps -/
def cp : List Str → List Str → Nat
  | x :: p, y :: q => if x = y then cp p q + 1 else 0
  | _, _ => 0
theorem cp_le : ∀ p q : List Str, cp p q ≤ p.length ∧ cp p q ≤ q.length
  | [], _ => ⟨Nat.zero_le _, Nat.zero_le _⟩
  | _ :: _, [] => ⟨Nat.zero_le _, Nat.zero_le _⟩
  | x :: p, y :: q => by
    have := cp_le p q
    unfold cp
    split <;> simp <;> omega
theorem cp_iff : ∀ (p q : List Str) (i : Nat), i ≤ cp p q → i < p.length → i < q.length → (p[i]? = q[i]? ↔ i < cp p q)
  | [], _, i, _, h, _ => by simp at h
  | _ :: _, [], i, _, _, h => by simp at h
  | x :: p, y :: q, i, h0, h1, h2 => by
    unfold cp at h0 ⊢
    by_cases c : x = y
    · rw [if_pos c] at h0 ⊢
      cases i with
      | zero => simp [c]
      | succ i =>
        have := cp_iff p q i (by omega) (by simpa using h1) (by simpa using h2)
        simp only [List.getElem?_cons_succ, this]
        omega
    · rw [if_neg c] at h0 ⊢
      have : i = 0 := by omega
      subst this
      simp [c]
theorem cond_steps (p q : List Str) (i : Nat) (h : AH) (hi : i ≤ cp p q) : ev true k_steps_to_1 [some (.val (pl p)), some (.val (pl q)), some (.val (.int (i : Int)))] h = .ok (.bl (decide (i < cp p q))) h := by
  have := cp_le p q
  by_cases c : i < p.length ∧ i < q.length
  · have e1 : ((i : Int) < if q.length < p.length then (q.length : Int) else (p.length : Int)) := by split <;> omega
    have e2 := cp_iff p q i hi c.1 c.2
    have e3 : (p[i]'c.1 = q[i]'c.2) ↔ i < cp p q := by
      rw [← e2, List.getElem?_eq_getElem c.1, List.getElem?_eq_getElem c.2]
      simp
    simp [k_steps_to_1, pureI, e1, c.1, c.2, e3]
  · have e1 : ¬ ((i : Int) < if q.length < p.length then (q.length : Int) else (p.length : Int)) := by split <;> omega
    have e2 : ¬ i < cp p q := by omega
    simp [k_steps_to_1, pureI, e1, e2]
theorem steps_loop (p q : List Str) (h : AH) : ∀ (n i : Nat), i ≤ cp p q → cp p q - i < n → whileL (ev true k_steps_to_1) (ex b_steps_to_1) n [some (.val (pl p)), some (.val (pl q)), some (.val (.int (i : Int)))] h = .nx [some (.val (pl p)), some (.val (pl q)), some (.val (.int (cp p q : Int)))] h
  | 0, i, _, h1 => by omega
  | n + 1, i, h0, h1 => by
    rw [whileL_succ, cond_steps p q i h h0, thn_ok]
    by_cases c : i < cp p q
    · have eb : ex b_steps_to_1 [some (.val (pl p)), some (.val (pl q)), some (.val (.int (i : Int)))] h = .nx [some (.val (pl p)), some (.val (pl q)), some (.val (.int ((i + 1 : Nat) : Int)))] h := by simp [b_steps_to_1, pureI]
      simp only [c, decide_true, eb]
      exact steps_loop p q h n (i + 1) (by omega) (by omega)
    · have : i = cp p q := by omega
      subst this
      simp
def dots (n : Nat) : List Str := List.replicate n ".."
theorem rep_dots (n : Nat) : (List.replicate n [AV.str ".."]).flatten = (dots n).map .str := by
  induction n with
  | zero => rfl
  | succ n ih => rw [List.replicate_succ, List.flatten_cons, ih]; rfl
theorem steps_eq (p q : List Str) (h : AH) (hp : p.length ≤ 100) (hq : q.length ≤ 100) : f_steps_to [pl p, pl q] h = .ok (pl (dots (p.length - cp p q) ++ q.drop (cp p q))) h := by
  have hc := cp_le p q
  unfold f_steps_to
  rw [run_eq]
  have e1 : ex i_steps_to [some (.val (pl p)), some (.val (pl q)), none] h = ex (.ret (.bin .add (.bin .mul (.tup (.cons (.con (.str "..")) .nil)) (.bin .sub (.bi .len (.cons (.slot 0) .nil)) (.slot 2))) (.sli (.slot 1) (.bnd (.slot 2)) (.con .non)))) [some (.val (pl p)), some (.val (pl q)), some (.val (.int (cp p q : Int)))] h := by
    unfold i_steps_to
    have ea : ex (.asg (.nm 2) (.con (.int 0))) [some (.val (pl p)), some (.val (pl q)), none] h = .nx [some (.val (pl p)), some (.val (pl q)), some (.val (.int ((0 : Nat) : Int)))] h := by simp
    rw [ex_seq, ea, seq_nx, ex_seq, ex_whil, steps_loop p q h FUEL 0 (Nat.zero_le _) (by unfold FUEL; omega), seq_nx]
  show (match ex i_steps_to [some (.val (pl p)), some (.val (pl q)), none] h with | .ret d h => _ | .nx _ h => _ | .exc c _ h => _ | _ => _) = _
  rw [e1]
  have e2 : ((p.length : Int) - (cp p q : Int)).toNat = p.length - cp p q := by omega
  have e3 : -1000 ≤ (p.length : Int) - (cp p q : Int) ∧ (p.length : Int) - (cp p q : Int) ≤ 1000 := by omega
  have e4 : p.length - cp p q + (q.length - cp p q) ≤ 16777216 := by omega
  simp [pureI, e2, e3, rep_dots, dots, e4, ← List.map_drop]
/-! texts -/
def words1 (p : List Str) : Prop := ∀ w ∈ p, w.length = 1
theorem sum1 : ∀ {p : List Str}, words1 p → (p.map (·.length)).sum = p.length
  | [], _ => rfl
  | w :: p, h => by
    rw [List.map_cons, List.sum_cons, sum1 (fun x hx => h x (List.mem_cons_of_mem _ hx)), h w List.mem_cons_self, List.length_cons]
    omega
def slash (p : List Str) : Str := p.foldl (fun t w => t ++ "/" ++ w) ""
theorem fold_tl (p : List Str) : ∀ t : Str, TL.tl (p.foldl (fun t w => t ++ "/" ++ w) t) = TL.tl t ++ (p.map TL.tl).flatMap (47 :: ·) := by
  induction p with
  | nil => intro t; simp
  | cons w r ih =>
    intro t
    rw [List.foldl_cons, ih, TL.tl_append, TL.tl_append, List.map_cons, List.flatMap_cons]
    have : TL.tl ("/" : Str) = [47] := by decide +kernel
    rw [this]
    simp
theorem join_flat : ∀ L : List (List Nat), L ≠ [] → 47 :: TL.joinL [47] L = L.flatMap (47 :: ·)
  | [], h => absurd rfl h
  | [a], _ => by simp [TL.joinL]
  | a :: b :: r, _ => by
    have := join_flat (b :: r) (by simp)
    rw [List.flatMap_cons, ← this]
    simp [TL.joinL]
theorem text_eq (p : List Str) : ("/" : Str) ++ Txt.join "/" p = slash p ++ repS "/" (if p = [] then 1 else 0) := by
  have t1 : TL.tl ("/" : Str) = [47] := by decide +kernel
  refine TL.ext_tl ?_
  rw [TL.tl_append, TL.tl_append, TL.join_eq, TL.tl_join, slash, fold_tl, t1]
  have t0 : TL.tl ("" : Str) = [] := by decide +kernel
  rw [t0]
  cases p with
  | nil =>
    have : TL.tl (repS "/" (if ([] : List Str) = [] then 1 else 0)) = [47] := by rw [if_pos rfl]; decide +kernel
    rw [this]; simp [TL.joinL]
  | cons w r =>
    have : TL.tl (repS "/" (if (w :: r) = [] then 1 else 0)) = [] := by rw [if_neg (by simp)]; decide +kernel
    rw [this, List.append_nil, List.nil_append]
    exact join_flat ((w :: r).map TL.tl) (by simp)
theorem slash1 : ("/" : Str).length = 1 := by decide +kernel
theorem join_len {p : List Str} (h : words1 p) : (Txt.join "/" p).length ≤ 2 * p.length := by
  rw [str_len, TL.join_eq, TL.tl_join]
  have t1 : TL.tl ("/" : Str) = [47] := by decide +kernel
  rw [t1]
  cases p with
  | nil => simp [TL.joinL]
  | cons w r =>
    have e := congrArg List.length (join_flat ((w :: r).map TL.tl) (by simp))
    have : ∀ (p : List Str), words1 p → ((p.map TL.tl).flatMap (47 :: ·)).length = 2 * p.length := by
      intro p
      induction p with
      | nil => intro _; rfl
      | cons x q ih =>
        intro h
        have e1 := h x List.mem_cons_self
        rw [str_len] at e1
        rw [List.map_cons, List.flatMap_cons, List.length_append, ih fun y hy => h y (List.mem_cons_of_mem _ hy), List.length_cons, e1, List.length_cons]
        omega
    rw [this _ h, List.length_cons] at e
    omega
theorem text_fn (p : List Str) (h : AH) (hp : p.length ≤ 12) (hw : words1 p) : f_place_text [pl p] h = .ok (.str (("/" : Str) ++ Txt.join "/" p)) h := by
  unfold f_place_text
  refine run_of ?_
  have e1 : (p.map (·.length)).sum + p.length * ("/" : Str).length ≤ 16777216 := by rw [sum1 hw, slash1]; omega
  have e2 : ("/" : Str).length + (Txt.join "/" p).length ≤ 16777216 := by rw [slash1]; have := join_len hw; omega
  simp [i_place_text, pureI, e1, e2]
/-! how many beginnings are alike -/
theorem take_iff : ∀ (p q : List Str) (k : Nat), k < p.length → k < q.length → (p.take (k + 1) = q.take (k + 1) ↔ k < cp p q)
  | [], _, _, h, _ => by simp at h
  | _ :: _, [], _, _, h => by simp at h
  | x :: p, y :: q, 0, _, _ => by
    unfold cp
    by_cases c : x = y <;> simp [c]
  | x :: p, y :: q, k + 1, h1, h2 => by
    have := take_iff p q k (by simpa using h1) (by simpa using h2)
    unfold cp
    by_cases c : x = y
    · simp only [List.take_succ_cons, c, if_true, List.cons.injEq, true_and, this]
      omega
    · simp only [List.take_succ_cons, c, if_false, List.cons.injEq, false_and]
      simp
theorem filter_lt (n c : Nat) (h : c ≤ n) : ((List.range n).filter (fun k => decide (k < c))).length = c := by
  induction n with
  | zero => simp; omega
  | succ n ih =>
    rw [List.range_succ, List.filter_append, List.length_append]
    by_cases q : c ≤ n
    · rw [ih q]
      simp [q]
    · have : c = n + 1 := by omega
      subst this
      have e : (List.range n).filter (fun k => decide (k < n + 1)) = List.range n := by
        rw [List.filter_eq_self]
        intro a ha
        have := List.mem_range.mp ha
        simp; omega
      rw [e]
      simp
theorem many_eq (p q : List Str) : ((List.range (min p.length q.length)).filter (fun k => decide (p.take (k + 1) = q.take (k + 1)))).length = cp p q := by
  have hc := cp_le p q
  have : (List.range (min p.length q.length)).filter (fun k => decide (p.take (k + 1) = q.take (k + 1))) = (List.range (min p.length q.length)).filter (fun k => decide (k < cp p q)) := by
    refine List.filter_congr fun k hk => ?_
    have hk := List.mem_range.mp hk
    rw [decide_eq_decide]
    exact take_iff p q k (by omega) (by omega)
  rw [this, filter_lt _ _ (by omega)]
/-! words of one letter -/
def okp (p : List Str) : Prop := p.length ≤ 6 ∧ words1 p
theorem okp_take {p : List Str} (h : okp p) (n : Nat) : okp (p.take n) := ⟨by rw [List.length_take]; have := h.1; omega, fun w hw => h.2 w (List.mem_of_mem_take hw)⟩
theorem okp_nil : okp [] := ⟨Nat.zero_le _, fun _ h => (nomatch h)⟩
theorem okp_place (ns : List Int) (a : Int) : okp (placeV ns a) := ⟨by have := placeV_len ns a; omega, fun w hw => placeV_mem hw⟩
theorem words1_app {p q : List Str} (h : words1 p) (h' : words1 q) : words1 (p ++ q) := fun w hw => (List.mem_append.mp hw).elim (h w) (h' w)
def T (p : List Str) : Str := ("/" : Str) ++ Txt.join "/" p
def u (p q : List Str) : Bool := decide (p.take q.length = q)
theorem u_iff {p q : List Str} : u p q = true ↔ q <+: p := by
  unfold u
  rw [decide_eq_true_iff]
  constructor
  · intro h; rw [← h]; exact List.take_prefix _ _
  · rintro ⟨t, rfl⟩; simp
theorem u_refl (p : List Str) : u p p = true := u_iff.mpr (List.prefix_refl p)
theorem u_nil (p : List Str) : u p [] = true := u_iff.mpr (List.nil_prefix)
theorem u_anti {p q : List Str} (h : u p q = true) (h' : u q p = true) : p = q := (u_iff.mp h').eq_of_length_le (u_iff.mp h).length_le
theorem u_trans {p q r : List Str} (h : u p q = true) (h' : u q r = true) : u p r = true := u_iff.mpr ((u_iff.mp h').trans (u_iff.mp h))
theorem u_both {p q r : List Str} (h : u p q = true) (h' : u p r = true) : u q r = true ∨ u r q = true := (List.prefix_or_prefix_of_prefix (u_iff.mp h) (u_iff.mp h')).symm.imp u_iff.mpr u_iff.mpr
theorem cp_u : ∀ {q p : List Str}, u p q = true ↔ cp q p = q.length
  | [], p => by simp [u_nil, cp]
  | x :: q, [] => by simp [u, cp]
  | x :: q, y :: p => by
    have ih := cp_u (q := q) (p := p)
    unfold u at ih ⊢
    unfold cp
    by_cases c : x = y
    · subst c
      simp only [if_true, List.length_cons, List.take_succ_cons, List.cons.injEq, true_and]
      rw [ih]; omega
    · have c' : ¬ y = x := fun z => c z.symm
      simp [c, c']
theorem dotdot (p : List Str) (h : words1 p) : (".." : Str) ∉ p := fun z => by
  have := h _ z
  have e : (".." : Str).length = 2 := by decide +kernel
  omega
theorem steps_dots {p q : List Str} (h : okp p) : (".." : Str) ∈ dots (q.length - cp q p) ++ p.drop (cp q p) ↔ u p q = false := by
  have hc := cp_le q p
  have n1 : (".." : Str) ∉ p.drop (cp q p) := fun z => dotdot p h.2 (List.mem_of_mem_drop z)
  rw [List.mem_append]
  have : (".." : Str) ∈ dots (q.length - cp q p) ↔ cp q p ≠ q.length := by
    unfold dots
    rw [List.mem_replicate]
    constructor
    · rintro ⟨z, _⟩; omega
    · intro z; exact ⟨by omega, rfl⟩
  rw [this]
  constructor
  · rintro (z | z)
    · cases q : u p _ with
      | false => rfl
      | true => exact absurd (cp_u.mp q) z
    · exact absurd z n1
  · intro z
    left
    intro w
    rw [cp_u.mpr w] at z; cases z
theorem T_tl {p : List Str} (h : p ≠ []) : TL.tl (T p) = (p.map TL.tl).flatMap (47 :: ·) := by
  unfold T
  have t1 : TL.tl ("/" : Str) = [47] := by decide +kernel
  rw [TL.tl_append, TL.join_eq, TL.tl_join, t1]
  exact join_flat _ (by simp [h])
theorem T_len {p : List Str} (h : okp p) : (T p).length ≤ 20 := by
  unfold T
  rw [app_len, slash1]
  have := join_len h.2
  have := h.1
  omega
theorem T_cut {p q : List Str} (h : u p q = true) (hq : q ≠ []) : (⟨(cutA (T p).cps.toList none (some ((T q).length : Int))).toArray⟩ : Str) = T q := by
  obtain ⟨t, rfl⟩ := u_iff.mp h
  refine TL.ext_tl ?_
  rw [TL.tl_mk, cut_to, str_len]
  show ((TL.tl (T (q ++ t))).take _) = _
  rw [T_tl hq, T_tl (by simp [hq]), List.map_append, List.flatMap_append, List.take_left]
theorem fT {p : List Str} (h : okp p) (a : AH) : f_place_text [pl p] a = .ok (.str (T p)) a := text_fn p a (by have := h.1; omega) h.2
theorem fU (p q : List Str) (a : AH) : f_is_under [pl p, pl q] a = .ok (.bl (u p q)) a := under_eq p q a
/-! words and places, known -/
def LET : Str := "abcdefghijklmnopqrstuvwxyz"
def wordB (w : Str) : Bool := decide (1 ≤ w.length ∧ w.length ≤ 4) && w.cps.toList.all fun c => decide (c ∈ LET.cps.toList)
theorem word_eq (w : Str) (h : AH) (hw : w.length ≤ 16777216) : f_is_word [.str w] h = .ok (.bl (wordB w)) h := by
  unfold f_is_word
  refine run_of ?_
  unfold i_is_word
  have hc : ∀ (e : En), e = [some (.val (.str w)), none] → ev true (.comp .seq (.cons (.slot 0) .nil) (.nm 1) (.con (.bl true)) (.cmp .inn (.slot 1) (.con (.str "abcdefghijklmnopqrstuvwxyz"))) [1]) e h = .ok (.lst (w.cps.toList.map fun c => .bl (decide (c ∈ LET.cps.toList)))) h := by
    intro e he
    subst he
    refine comp_seq (d := .str w) (fun c => AV.str (sgn c)) (fun c => .bl (decide (c ∈ LET.cps.toList))) (by simp [pureI]) ?_ (by simp) fun c _ => ?_
    · show (if w.length ≤ LIM then some (w.cps.toList.map fun c => AV.str (sgn c)) else none) = _
      rw [if_pos (by simpa using hw)]
    · simp [pureI, wipeE, in_sign, LET]
  have hc := hc _ rfl
  have ha := all_bls (fun c => decide (c ∈ LET.cps.toList)) w.cps.toList h
  by_cases c1 : 1 ≤ w.length
  · have c1' : (1 : Int) ≤ (w.length : Int) := by omega
    by_cases c2 : w.length ≤ 4
    · have c2' : (w.length : Int) ≤ 4 := by omega
      have ha' : doBi .all [.lst (w.cps.toList.map fun c => AV.bl (decide (c ∈ LET.cps)))] h = .ok (.bl (w.cps.all fun c => decide (c ∈ LET.cps))) h := by simpa using ha
      simp [pureI, hw, c1', c2', hc, ha', wordB, c1, c2]
    · have c2' : ¬ (w.length : Int) ≤ 4 := by omega
      simp [pureI, hw, c1', c2', wordB, c1, c2]
  · have c1' : ¬ (1 : Int) ≤ (w.length : Int) := by omega
    simp [pureI, hw, c1', wordB, c1]
def placeB (p : List Str) : Bool := decide (p.length ≤ 6) && p.all wordB
theorem isplace_eq (p : List Str) (h : AH) (hp : ∀ w ∈ p, w.length ≤ 16777216) : f_is_place [pl p] h = .ok (.bl (placeB p)) h := by
  unfold f_is_place
  refine run_of ?_
  unfold i_is_place
  have hc : ∀ (e : En), e = [some (.val (pl p)), none] → ev true (.comp .seq (.cons (.slot 0) .nil) (.nm 1) (.con (.bl true)) (.call f_is_word (.cons (.slot 1) .nil)) [1]) e h = .ok (.lst (p.map fun w => .bl (wordB w))) h := by
    intro e he
    subst he
    refine comp_seq (d := pl p) AV.str (fun w => .bl (wordB w)) (by simp [pureI]) rfl (by simp) fun w hw => ?_
    have := word_eq w h (hp w hw)
    simp [pureI, wipeE, this]
  have hc := hc _ rfl
  have ha := all_bls wordB p h
  simp only [pl_def] at hc
  by_cases c1 : p.length ≤ 6
  · have c1' : (p.length : Int) ≤ 6 := by omega
    simp [pureI, c1', hc, ha, placeB, c1]
  · have c1' : ¬ (p.length : Int) ≤ 6 := by omega
    simp [pureI, c1', placeB, c1]
/-! the fewest steps lead there, and no fewer do -/
def word (w : Str) : Prop := ¬ w = ".." ∧ ¬ w = "."
theorem ledF_nil (p : List Str) : ledF p [] = some p := rfl
theorem ledF_cons (p : List Str) (s : Str) (r : List Str) : ledF p (s :: r) = if s = ".." then (if p = [] then none else ledF p.dropLast r) else if s = "." then ledF p r else if 6 < p.length + 1 then none else ledF (p ++ [s]) r := rfl
theorem cp_cons (x y : Str) (p q : List Str) : cp (x :: p) (y :: q) = if x = y then cp p q + 1 else 0 := rfl
theorem cp_nil (q : List Str) : cp [] q = 0 := by cases q <;> rfl
theorem led_down : ∀ (s p : List Str), (∀ w ∈ s, word w) → p.length + s.length ≤ 6 → ledF p s = some (p ++ s)
  | [], p, _, _ => by simp [ledF]
  | w :: s, p, h, hl => by
    have hw := h w List.mem_cons_self
    rw [List.length_cons] at hl
    unfold ledF
    rw [if_neg hw.1, if_neg hw.2, if_neg (by omega), led_down s (p ++ [w]) (fun x hx => h x (List.mem_cons_of_mem _ hx)) (by rw [List.length_append]; simp; omega), List.append_assoc]
    rfl
theorem led_up : ∀ (n : Nat) (s p : List Str), n ≤ p.length → ledF p (dots n ++ s) = ledF (p.take (p.length - n)) s
  | 0, s, p, _ => by simp [dots]
  | n + 1, s, p, h => by
    have hp : p ≠ [] := fun z => by subst z; simp at h
    have e : dots (n + 1) ++ s = (".." : Str) :: (dots n ++ s) := rfl
    rw [e, ledF_cons, if_pos rfl, if_neg hp, led_up n s p.dropLast (by rw [List.length_dropLast]; omega)]
    congr 1
    rw [List.length_dropLast, List.dropLast_eq_take, List.take_take]
    congr 1
    omega
theorem led_none_up : ∀ (n : Nat) (p : List Str), p.length < n → ledF p (dots n) = none
  | 0, p, h => by omega
  | n + 1, p, h => by
    show ledF p (".." :: dots n) = none
    unfold ledF
    rw [if_pos rfl]
    by_cases c : p = []
    · rw [if_pos c]
    · rw [if_neg c]
      exact led_none_up n p.dropLast (by
        have : 0 < p.length := List.length_pos_iff.mpr c
        rw [List.length_dropLast]; omega)
theorem led_app : ∀ (s r p : List Str), ledF p (s ++ r) = (ledF p s).bind fun q => ledF q r
  | [], r, p => by simp [ledF]
  | w :: s, r, p => by
    rw [List.cons_append, ledF_cons, ledF_cons]
    split
    · split
      · rfl
      · exact led_app s r _
    · split
      · exact led_app s r _
      · split
        · rfl
        · exact led_app s r _
theorem cp_take : ∀ p q : List Str, p.take (cp p q) = q.take (cp p q)
  | [], q => by simp [cp]
  | x :: p, [] => by simp [cp]
  | x :: p, y :: q => by
    unfold cp
    by_cases c : x = y
    · rw [if_pos c, List.take_succ_cons, List.take_succ_cons, cp_take p q, c]
    · rw [if_neg c]; rfl
def wayV (p q : List Str) : List Str := dots (p.length - cp p q) ++ q.drop (cp p q)
theorem led_way {p q : List Str} (hw : ∀ w ∈ q, word w) (hq : q.length ≤ 6) : ledF p (wayV p q) = some q := by
  have hc := cp_le p q
  unfold wayV
  rw [led_up _ _ _ (by omega)]
  have : p.length - (p.length - cp p q) = cp p q := by omega
  rw [this, led_down _ _ (fun w hx => hw w (List.mem_of_mem_drop hx)) (by rw [List.length_take, List.length_drop]; omega), cp_take, List.take_append_drop]
theorem cp_self : ∀ p : List Str, cp p p = p.length
  | [] => rfl
  | x :: p => by unfold cp; rw [if_pos rfl, cp_self p]; rfl
theorem way_nil {p q : List Str} : wayV p q = [] ↔ p = q := by
  have hc := cp_le p q
  unfold wayV
  rw [List.append_eq_nil_iff]
  constructor
  · rintro ⟨h1, h2⟩
    have l1 := congrArg List.length h1
    have l2 := congrArg List.length h2
    unfold dots at l1
    rw [List.length_replicate, List.length_nil] at l1
    rw [List.length_drop, List.length_nil] at l2
    have e := cp_take p q
    rw [List.take_of_length_le (by omega), List.take_of_length_le (by omega)] at e
    exact e
  · rintro rfl
    rw [cp_self]
    simp [dots]
theorem way_len (p q : List Str) : (wayV p q).length = p.length - cp p q + (q.length - cp p q) := by
  unfold wayV dots
  rw [List.length_append, List.length_replicate, List.length_drop]
theorem cp_snoc : ∀ (p q : List Str) (w : Str), cp p q ≤ cp (p ++ [w]) q ∧ cp (p ++ [w]) q ≤ cp p q + 1
  | [], [], w => by simp [cp]
  | [], y :: q, w => by
    rw [List.nil_append, cp_nil, cp_cons, cp_nil]
    split <;> omega
  | x :: p, [], w => by simp [cp]
  | x :: p, y :: q, w => by
    have := cp_snoc p q w
    rw [List.cons_append]
    unfold cp
    split <;> omega
/-- no fewer steps lead there -/
theorem led_far : ∀ (s p t : List Str), ledF p s = some t → p.length + t.length ≤ s.length + 2 * cp p t
  | [], p, t, h => by
    have h : some p = some t := by unfold ledF at h; exact h
    cases h
    rw [cp_self]; simp; omega
  | w :: s, p, t, h => by
    unfold ledF at h
    rw [List.length_cons]
    split at h
    · split at h
      · cases h
      · rename_i c
        have ih := led_far s p.dropLast t h
        have e := List.dropLast_concat_getLast c
        have hs := cp_snoc p.dropLast t (p.getLast c)
        rw [e] at hs
        rw [List.length_dropLast] at ih
        omega
    · split at h
      · have ih := led_far s p t h
        omega
      · split at h
        · cases h
        · have ih := led_far s (p ++ [w]) t h
          have hs := cp_snoc p t w
          rw [List.length_append] at ih
          simp at ih
          omega
theorem led_mem : ∀ (s p t : List Str), ledF p s = some t → p.length ≤ 6 → t.length ≤ 6 ∧ ∀ w ∈ t, w ∈ p ∨ (w ∈ s ∧ word w)
  | [], p, t, h, hp => by
    have h : some p = some t := by unfold ledF at h; exact h
    cases h
    exact ⟨hp, fun w hw => .inl hw⟩
  | x :: s, p, t, h, hp => by
    unfold ledF at h
    split at h
    · split at h
      · cases h
      · obtain ⟨h1, h2⟩ := led_mem s p.dropLast t h (by rw [List.length_dropLast]; omega)
        exact ⟨h1, fun w hw => (h2 w hw).imp (fun z => (List.dropLast_sublist _).subset z) fun z => ⟨List.mem_cons_of_mem _ z.1, z.2⟩⟩
    · split at h
      · obtain ⟨h1, h2⟩ := led_mem s p t h hp
        exact ⟨h1, fun w hw => (h2 w hw).imp id fun z => ⟨List.mem_cons_of_mem _ z.1, z.2⟩⟩
      · split at h
        · cases h
        · rename_i c1 c2 c3
          obtain ⟨h1, h2⟩ := led_mem s (p ++ [x]) t h (by rw [List.length_append]; simp; omega)
          refine ⟨h1, fun w hw => ?_⟩
          rcases h2 w hw with z | z
          · rcases List.mem_append.mp z with z | z
            · exact .inl z
            · have : w = x := by simpa using z
              subst this
              exact .inr ⟨List.mem_cons_self, c1, c2⟩
          · exact .inr ⟨List.mem_cons_of_mem _ z.1, z.2⟩
/-- texts tell places apart -/
theorem flat_inj : ∀ (L M : List (List Nat)), (∀ a ∈ L, a.length = 1) → (∀ a ∈ M, a.length = 1) → L.flatMap (47 :: ·) = M.flatMap (47 :: ·) → L = M
  | [], [], _, _, _ => rfl
  | [], b :: M, _, _, h => by simp at h
  | a :: L, [], _, _, h => by simp at h
  | a :: L, b :: M, ha, hb, h => by
    rw [List.flatMap_cons, List.flatMap_cons] at h
    have h1 := ha a List.mem_cons_self
    have h2 := hb b List.mem_cons_self
    have := List.append_inj h (by rw [List.length_cons, List.length_cons, h1, h2])
    have e1 : a = b := (List.cons.inj this.1).2
    rw [e1, flat_inj L M (fun x hx => ha x (List.mem_cons_of_mem _ hx)) (fun x hx => hb x (List.mem_cons_of_mem _ hx)) this.2]
theorem T_inj {p q : List Str} (hp : words1 p) (hq : words1 q) (h : T p = T q) : p = q := by
  have hT : TL.tl (T []) = [47] := by decide +kernel
  have l : ∀ {p : List Str}, words1 p → p ≠ [] → (TL.tl (T p)).length ≥ 2 := fun {p} hp hn => by
    rw [T_tl hn]
    cases p with
    | nil => exact absurd rfl hn
    | cons w r =>
      have := hp w List.mem_cons_self
      rw [str_len] at this
      rw [List.map_cons, List.flatMap_cons, List.length_append, List.length_cons, this]
      omega
  have w1 : ∀ {p : List Str}, words1 p → ∀ a ∈ p.map TL.tl, a.length = 1 := fun {p} hp a ha => by
    obtain ⟨w, hw, rfl⟩ := List.mem_map.mp ha
    rw [← str_len]; exact hp w hw
  by_cases c1 : p = []
  · by_cases c2 : q = []
    · rw [c1, c2]
    · have := l hq c2
      rw [← h, c1, hT] at this
      simp at this
  · by_cases c2 : q = []
    · have := l hp c1
      rw [h, c2, hT] at this
      simp at this
    · have e := congrArg TL.tl h
      rw [T_tl c1, T_tl c2] at e
      have e2 := flat_inj _ _ (w1 hp) (w1 hq) e
      exact TL.map_tl_inj e2
theorem eqA_opt (o : Option (List Str)) : eqA (optP o) (optP o) = some true := by
  cases o with
  | none => rfl
  | some q => simp [optP]
theorem fresh_opt (v : Bool) (o : Option (List Str)) (h : AH) : fresh v (optP o) h = .ok (optP o) h := by
  cases o <;> simp [optP]
theorem led_over {w : Str} (hw : word w) : ∀ (n : Nat) (p : List Str), p.length ≤ 6 → 6 < p.length + n → ledF p (List.replicate n w) = none
  | 0, p, h, h' => by omega
  | n + 1, p, h, h' => by
    rw [List.replicate_succ, ledF_cons, if_neg hw.1, if_neg hw.2]
    by_cases c : 6 < p.length + 1
    · rw [if_pos c]
    · rw [if_neg c]
      exact led_over hw n _ (by rw [List.length_append]; simp; omega) (by rw [List.length_append]; simp; omega)
theorem u_way {p q : List Str} : u q p = true ↔ wayV p q = q.drop p.length ∧ p.length ≤ q.length := by
  have hc := cp_le p q
  rw [cp_u]
  constructor
  · intro h
    refine ⟨?_, by omega⟩
    unfold wayV
    rw [h, Nat.sub_self]
    simp [dots]
  · rintro ⟨h1, h2⟩
    have l := congrArg List.length h1
    rw [way_len, List.length_drop] at l
    omega
end Pr

set_option maxHeartbeats 4000000
/-! AbS: equality by parts; objects of the heap, read. -/
namespace Ab
open PySem L2
def eqN (n : Nat) (x y : AV) : Option Bool := match toPD n x, toPD n y with
  | some d, some e => some (PyData.eqv d e)
  | _, _ => none
def eqL (n : Nat) (l m : List AV) : Option Bool := match l.mapM (toPD n), m.mapM (toPD n) with
  | some d, some e => some (PyData.eqvAll d e)
  | _, _ => none
def isD (n : Nat) (x : AV) : Bool := (toPD n x).isSome
def isDs (n : Nat) (l : List AV) : Bool := (l.mapM (toPD n)).isSome
theorem pd_tup (n : Nat) (l : List AV) : toPD (n + 1) (.tup l) = (l.mapM (toPD n)).map PyData.tuple := rfl
theorem pd_lst (n : Nat) (l : List AV) : toPD (n + 1) (.lst l) = (l.mapM (toPD n)).map PyData.list := rfl
theorem eqA_N (x y : AV) : eqA x y = eqN 30 x y := rfl
@[simp] theorem eqN_tup (n : Nat) (l m : List AV) : eqN (n + 1) (.tup l) (.tup m) = eqL n l m := by
  unfold eqN eqL
  rw [pd_tup, pd_tup]
  cases l.mapM (toPD n) <;> cases m.mapM (toPD n) <;> simp [PyData.eqv]
@[simp] theorem eqN_lst (n : Nat) (l m : List AV) : eqN (n + 1) (.lst l) (.lst m) = eqL n l m := by
  unfold eqN eqL
  rw [pd_lst, pd_lst]
  cases l.mapM (toPD n) <;> cases m.mapM (toPD n) <;> simp [PyData.eqv]
@[simp] theorem eqA_tup (l m : List AV) : eqA (.tup l) (.tup m) = eqL 29 l m := by rw [eqA_N]; exact eqN_tup 29 l m
@[simp] theorem eqA_lst (l m : List AV) : eqA (.lst l) (.lst m) = eqL 29 l m := by rw [eqA_N]; exact eqN_lst 29 l m
@[simp] theorem eqL_nil (n : Nat) : eqL n [] [] = some true := by simp [eqL, PyData.eqvAll]
theorem eqL_cons (n : Nat) (a b : AV) (l m : List AV) : eqL n (a :: l) (b :: m) = (eqN n a b).bind fun p => (eqL n l m).map (p && ·) := by
  unfold eqL eqN
  rw [List.mapM_cons, List.mapM_cons]
  cases toPD n a <;> cases toPD n b <;> cases l.mapM (toPD n) <;> cases m.mapM (toPD n) <;> simp [PyData.eqvAll]
@[simp] theorem eqL_cn (n : Nat) (a : AV) (l : List AV) : eqL n (a :: l) [] = if isDs n (a :: l) = true then some false else none := by
  unfold eqL isDs
  rw [List.mapM_cons]
  cases toPD n a <;> cases l.mapM (toPD n) <;> simp [PyData.eqvAll]
@[simp] theorem eqL_nc (n : Nat) (a : AV) (l : List AV) : eqL n [] (a :: l) = if isDs n (a :: l) = true then some false else none := by
  unfold eqL isDs
  rw [List.mapM_cons]
  cases toPD n a <;> cases l.mapM (toPD n) <;> simp [PyData.eqvAll]
theorem eqL_map {α : Type} [DecidableEq α] {f : α → AV} {d n : Nat} (h : Good f d) (hn : d ≤ n) (l m : List α) : eqL n (l.map f) (m.map f) = some (decide (l = m)) := by
  obtain ⟨g, h1, h2⟩ := h.ex
  unfold eqL
  rw [mapM_of (g := g) (fun x => h1 n x hn), mapM_of (g := g) (fun x => h1 n x hn)]
  simp only [eqvAll_of h2]
theorem eqN_of {α : Type} [DecidableEq α] {f : α → AV} {d n : Nat} (h : Good f d) (hn : d ≤ n) (x y : α) : eqN n (f x) (f y) = some (decide (x = y)) := by
  obtain ⟨g, h1, h2⟩ := h.ex
  unfold eqN
  rw [h1 n x hn, h1 n y hn]
  simp only [h2]
theorem isDs_map {α : Type} {f : α → AV} {n : Nat} (h : ∀ x, isD n (f x) = true) : ∀ l : List α, isDs n (l.map f) = true
  | [] => rfl
  | x :: l => by
    have ih := isDs_map h l
    have hx := h x
    unfold isDs isD at *
    rw [List.map_cons, List.mapM_cons]
    obtain ⟨d, hd⟩ := Option.isSome_iff_exists.mp hx
    obtain ⟨e, he⟩ := Option.isSome_iff_exists.mp ih
    rw [hd, he]; rfl
@[simp] theorem isDs_cons (n : Nat) (a : AV) (l : List AV) : isDs n (a :: l) = (isD n a && isDs n l) := by
  unfold isDs isD
  rw [List.mapM_cons]
  cases toPD n a <;> cases l.mapM (toPD n) <;> simp
@[simp] theorem isDs_nil (n : Nat) : isDs n [] = true := rfl
@[simp] theorem isD_str (n : Nat) (s : Str) : isD n (.str s) = true := by unfold isD; rw [toPD_str]; rfl
@[simp] theorem isD_int (n : Nat) (s : Int) : isD n (.int s) = true := by unfold isD; rw [toPD_int]; rfl
@[simp] theorem isD_bl (n : Nat) (s : Bool) : isD n (.bl s) = true := by unfold isD; rw [toPD_bl]; rfl
@[simp] theorem isD_non (n : Nat) : isD n .non = true := by unfold isD; rw [toPD_non]; rfl
@[simp] theorem isD_tup (n : Nat) (l : List AV) : isD (n + 1) (.tup l) = isDs n l := by unfold isD isDs; rw [pd_tup]; cases l.mapM (toPD n) <;> rfl
@[simp] theorem isD_lst (n : Nat) (l : List AV) : isD (n + 1) (.lst l) = isDs n l := by unfold isD isDs; rw [pd_lst]; cases l.mapM (toPD n) <;> rfl
@[simp] theorem isDs_str (n : Nat) (l : List Str) : isDs n (l.map .str) = true := isDs_map (isD_str n) l
@[simp] theorem eqN_str (n : Nat) (x y : Str) : eqN n (.str x) (.str y) = some (decide (x = y)) := eqN_of good_str (Nat.zero_le _) x y
@[simp] theorem eqN_int (n : Nat) (x y : Int) : eqN n (.int x) (.int y) = some (decide (x = y)) := eqN_of good_int (Nat.zero_le _) x y
@[simp] theorem eqN_bl (n : Nat) (x y : Bool) : eqN n (.bl x) (.bl y) = some (decide (x = y)) := eqN_of good_bl (Nat.zero_le _) x y
@[simp] theorem eqN_non (n : Nat) : eqN n .non .non = some true := by unfold eqN; rw [toPD_non]; simp [PyData.eqv]
theorem isD_some {n : Nat} {x : AV} (h : isD n x = true) : ∃ d, toPD n x = some d := Option.isSome_iff_exists.mp h
/-- values of unlike kinds -/
def kindA : AV → Nat
  | .non => 0 | .bl _ => 1 | .int _ => 1 | .str _ => 2 | .tup _ => 3 | .lst _ => 4 | .scr _ => 4 | _ => 5
def kindD : PyData → Nat
  | .none => 0 | .bool _ => 1 | .int _ => 1 | .str _ => 2 | .tuple _ => 3 | .list _ => 4 | .dict _ => 6
theorem kind_pd {n : Nat} {x : AV} {d : PyData} (h : toPD n x = some d) : kindD d = kindA x := by
  cases n with
  | zero => cases x <;> first | (cases h; rfl) | cases h
  | succ n =>
    cases x with
    | tup l => rw [pd_tup] at h; cases q : l.mapM (toPD n) <;> rw [q] at h <;> cases h; rfl
    | lst l => rw [pd_lst] at h; cases q : l.mapM (toPD n) <;> rw [q] at h <;> cases h; rfl
    | _ => first | (cases h; rfl) | cases h
theorem eqv_kind {d e : PyData} (h : kindD d ≠ kindD e) : PyData.eqv d e = false := by
  cases d <;> cases e <;> first | (exact absurd rfl h) | (simp [PyData.eqv])
theorem eqN_kind {n : Nat} {x y : AV} (h : kindA x ≠ kindA y) (hx : isD n x = true) (hy : isD n y = true) : eqN n x y = some false := by
  obtain ⟨d, hd⟩ := isD_some hx
  obtain ⟨e, he⟩ := isD_some hy
  unfold eqN
  rw [hd, he]
  simp only [Option.some.injEq]
  exact eqv_kind (by rw [kind_pd hd, kind_pd he]; exact h)
theorem eqN_kind' {n : Nat} {x y : AV} (h : kindA x ≠ kindA y) : eqN n x y = if (isD n x && isD n y) = true then some false else none := by
  by_cases c : (isD n x && isD n y) = true
  · rw [if_pos c]
    rw [Bool.and_eq_true] at c
    exact eqN_kind h c.1 c.2
  · rw [if_neg c]
    unfold eqN isD at *
    cases q : toPD n x <;> cases q2 : toPD n y <;> simp [q, q2] at c ⊢
section
variable (n : Nat) (s t : Str) (i j : Int) (b c : Bool) (l m : List AV)
@[simp] theorem eqN_ns : eqN n .non (.str s) = some false := eqN_kind (by simp [kindA]) (by simp) (by simp)
@[simp] theorem eqN_sn : eqN n (.str s) .non = some false := eqN_kind (by simp [kindA]) (by simp) (by simp)
@[simp] theorem eqN_ni : eqN n .non (.int i) = some false := eqN_kind (by simp [kindA]) (by simp) (by simp)
@[simp] theorem eqN_in : eqN n (.int i) .non = some false := eqN_kind (by simp [kindA]) (by simp) (by simp)
@[simp] theorem eqN_nt : eqN n .non (.tup l) = if isD n (.tup l) = true then some false else none := by rw [eqN_kind' (by simp [kindA])]; simp
@[simp] theorem eqN_tn : eqN n (.tup l) .non = if isD n (.tup l) = true then some false else none := by rw [eqN_kind' (by simp [kindA])]; simp
@[simp] theorem eqN_st : eqN n (.str s) (.tup l) = if isD n (.tup l) = true then some false else none := by rw [eqN_kind' (by simp [kindA])]; simp
@[simp] theorem eqN_ts : eqN n (.tup l) (.str s) = if isD n (.tup l) = true then some false else none := by rw [eqN_kind' (by simp [kindA])]; simp
@[simp] theorem eqN_it : eqN n (.int i) (.tup l) = if isD n (.tup l) = true then some false else none := by rw [eqN_kind' (by simp [kindA])]; simp
@[simp] theorem eqN_ti : eqN n (.tup l) (.int i) = if isD n (.tup l) = true then some false else none := by rw [eqN_kind' (by simp [kindA])]; simp
@[simp] theorem eqN_is : eqN n (.int i) (.str s) = some false := eqN_kind (by simp [kindA]) (by simp) (by simp)
@[simp] theorem eqN_si : eqN n (.str s) (.int i) = some false := eqN_kind (by simp [kindA]) (by simp) (by simp)
@[simp] theorem eqN_lt : eqN n (.lst l) (.tup m) = if (isD n (.lst l) && isD n (.tup m)) = true then some false else none := by rw [eqN_kind' (by simp [kindA])]
@[simp] theorem eqN_tl : eqN n (.tup l) (.lst m) = if (isD n (.tup l) && isD n (.lst m)) = true then some false else none := by rw [eqN_kind' (by simp [kindA])]
@[simp] theorem eqA_ns : eqA .non (.str s) = some false := eqN_ns 30 s
@[simp] theorem eqA_sn : eqA (.str s) .non = some false := eqN_sn 30 s
@[simp] theorem eqA_ni : eqA .non (.int i) = some false := eqN_ni 30 i
@[simp] theorem eqA_in : eqA (.int i) .non = some false := eqN_in 30 i
@[simp] theorem eqA_nt : eqA .non (.tup l) = if isDs 29 l = true then some false else none := by rw [eqA_N, eqN_nt]; simp
@[simp] theorem eqA_tn' : eqA (.tup l) .non = if isDs 29 l = true then some false else none := by rw [eqA_N, eqN_tn]; simp
@[simp] theorem eqA_st : eqA (.str s) (.tup l) = if isDs 29 l = true then some false else none := by rw [eqA_N, eqN_st]; simp
@[simp] theorem eqA_ts : eqA (.tup l) (.str s) = if isDs 29 l = true then some false else none := by rw [eqA_N, eqN_ts]; simp
@[simp] theorem eqA_it : eqA (.int i) (.tup l) = if isDs 29 l = true then some false else none := by rw [eqA_N, eqN_it]; simp
@[simp] theorem eqA_ti : eqA (.tup l) (.int i) = if isDs 29 l = true then some false else none := by rw [eqA_N, eqN_ti]; simp
@[simp] theorem eqA_is : eqA (.int i) (.str s) = some false := eqN_is 30 s i
@[simp] theorem eqA_si : eqA (.str s) (.int i) = some false := eqN_si 30 s i
end
@[simp] theorem eqL_cc (n : Nat) (a b : AV) (l m : List AV) : eqL n (a :: l) (b :: m) = (eqN n a b).bind fun p => (eqL n l m).map (p && ·) := eqL_cons n a b l m
@[simp] theorem eqL_strs (n : Nat) (x y : List Str) : eqL n (x.map .str) (y.map .str) = some (decide (x = y)) := eqL_map good_str (Nat.zero_le _) x y
@[simp] theorem eqL_strs_nil (n : Nat) (x : List Str) : eqL n (x.map .str) [] = some (decide (x = [])) := eqL_strs n x []
@[simp] theorem eqL_nil_strs (n : Nat) (x : List Str) : eqL n [] (x.map .str) = some (decide ([] = x)) := eqL_strs n [] x
@[simp] theorem eqL_strs_1 (n : Nat) (x : List Str) (a : Str) : eqL n (x.map .str) [.str a] = some (decide (x = [a])) := eqL_strs n x [a]
@[simp] theorem eqL_1_strs (n : Nat) (x : List Str) (a : Str) : eqL n [.str a] (x.map .str) = some (decide ([a] = x)) := eqL_strs n [a] x
@[simp] theorem eqL_strs_2 (n : Nat) (x : List Str) (a b : Str) : eqL n (x.map .str) [.str a, .str b] = some (decide (x = [a, b])) := eqL_strs n x [a, b]
@[simp] theorem eqL_2_strs (n : Nat) (x : List Str) (a b : Str) : eqL n [.str a, .str b] (x.map .str) = some (decide ([a, b] = x)) := eqL_strs n [a, b] x
@[simp] theorem eqL_strs_c (n : Nat) (x y : List Str) (a : Str) : eqL n (x.map .str) (.str a :: y.map .str) = some (decide (x = a :: y)) := eqL_strs n x (a :: y)
@[simp] theorem eqL_c_strs (n : Nat) (x y : List Str) (a : Str) : eqL n (.str a :: x.map .str) (y.map .str) = some (decide (a :: x = y)) := eqL_strs n (a :: x) y
/-- places -/
def plA (p : List Str) : AV := .tup (p.map .str)
@[simp] theorem plA_def (p : List Str) : plA p = .tup (p.map .str) := rfl
theorem good_pl : Good plA 1 := good_tup good_str
@[simp] theorem isDs_pls (n : Nat) (l : List (List Str)) : isDs (n + 1) (l.map plA) = true := isDs_map (fun x => by simp) l
@[simp] theorem eqL_pls (n : Nat) (x y : List (List Str)) : eqL (n + 1) (x.map plA) (y.map plA) = some (decide (x = y)) := eqL_map good_pl (by omega) x y
@[simp] theorem eqL_pls_nil (n : Nat) (x : List (List Str)) : eqL (n + 1) (x.map plA) [] = some (decide (x = [])) := eqL_pls n x []
@[simp] theorem optP_isn (o : Option (List Str)) (h : AH) : doCmp .isn (Pr.optP o) .non h = .ok (.bl o.isNone) h := by cases o <;> rfl
@[simp] theorem optP_isnn (o : Option (List Str)) (h : AH) : doCmp .isnn (Pr.optP o) .non h = .ok (.bl o.isSome) h := by cases o <;> rfl
theorem inL_cons (x a : AV) (l : List AV) : inL x (a :: l) = (eqN 30 a x).bind fun p => (inL x l).map (p || ·) := by
  unfold inL eqN
  rw [List.mapM_cons]
  unfold DEEP
  cases toPD 30 x <;> cases toPD 30 a <;> cases l.mapM (toPD 30) <;> simp
@[simp] theorem inL_nil (x : AV) : inL x [] = if isD 30 x = true then some false else none := by
  unfold inL isD DEEP
  cases toPD 30 x <;> simp
@[simp] theorem inL_cc (x a : AV) (l : List AV) : inL x (a :: l) = (eqN 30 a x).bind fun p => (inL x l).map (p || ·) := inL_cons x a l
@[simp] theorem inL_strs (x : Str) (l : List Str) : inL (.str x) (l.map .str) = some (decide (x ∈ l)) := inL_str x l
@[simp] theorem inL_pls (x : List Str) (l : List (List Str)) : inL (.tup (x.map .str)) (l.map plA) = some (decide (x ∈ l)) := by
  have := inL_of good_pl (by decide) x l
  rw [show AV.tup (x.map .str) = plA x from rfl, this]
  congr 1
  exact decide_eq_decide.mpr Iff.rfl
section
variable (h : AH) (l : List AV) (s : Str) (i : Int) (b : Bool)
@[simp] theorem isStr_tup : doBi .isStr [.tup l] h = .ok (.bl false) h := rfl
@[simp] theorem isStr_lst : doBi .isStr [.lst l] h = .ok (.bl false) h := rfl
@[simp] theorem isStr_int : doBi .isStr [.int i] h = .ok (.bl false) h := rfl
@[simp] theorem isStr_bl : doBi .isStr [.bl b] h = .ok (.bl false) h := rfl
@[simp] theorem isStr_non : doBi .isStr [.non] h = .ok (.bl false) h := rfl
@[simp] theorem isTup_str : doBi .isTup [.str s] h = .ok (.bl false) h := rfl
@[simp] theorem isTup_int : doBi .isTup [.int i] h = .ok (.bl false) h := rfl
@[simp] theorem isTup_non : doBi .isTup [.non] h = .ok (.bl false) h := rfl
@[simp] theorem isTup_lst : doBi .isTup [.lst l] h = .ok (.bl false) h := rfl
@[simp] theorem isInt_int : doBi .isInt [.int i] h = .ok (.bl true) h := rfl
@[simp] theorem isInt_str : doBi .isInt [.str s] h = .ok (.bl false) h := rfl
@[simp] theorem isInt_tup : doBi .isInt [.tup l] h = .ok (.bl false) h := rfl
@[simp] theorem isInt_bl : doBi .isInt [.bl b] h = .ok (.bl true) h := rfl
@[simp] theorem isBool_int : doBi .isBool [.int i] h = .ok (.bl false) h := rfl
end
/-! where, how often -/
theorem datL_good {α : Type} [DecidableEq α] {f : α → AV} {d : Nat} (h : Good f d) (hd : d ≤ 30) : ∃ g : α → PyData, (∀ (l : List α) (x : α), datL (l.map f) (f x) = some (l.map g, g x)) ∧ ∀ x y, PyData.eqv (g x) (g y) = decide (x = y) := by
  obtain ⟨g, h1, h2⟩ := h.ex
  refine ⟨g, fun l x => ?_, h2⟩
  unfold datL DEEP
  rw [mapM_of (g := g) (fun x => h1 30 x hd), h1 30 x hd]
theorem index_good {α : Type} [DecidableEq α] {f : α → AV} {d : Nat} (hg : Good f d) (hd : d ≤ 30) (l : List α) (x : α) (h : AH) : doBm .index (.lst (l.map f)) [f x] h = match l.findIdx? (fun y => decide (y = x)) with | some j => .ok (.int (j : Int)) h | none => .bad := by
  obtain ⟨g, h1, h2⟩ := datL_good hg hd
  show (match datL (l.map f) (f x) with | some p => (match p.1.findIdx? (fun z => PyData.eqv z p.2) with | some j => R.ok (AV.int (j : Int)) h | none => .bad) | none => .bad) = _
  rw [h1]
  simp only [List.findIdx?_map]
  have : ((fun z => PyData.eqv z (g x)) ∘ g) = fun y => decide (y = x) := by funext y; exact h2 y x
  rw [this]
theorem count_good {α : Type} [DecidableEq α] {f : α → AV} {d : Nat} (hg : Good f d) (hd : d ≤ 30) (l : List α) (x : α) (h : AH) : doBm .count (.lst (l.map f)) [f x] h = .ok (.int ((l.countP fun y => decide (y = x) : Nat) : Int)) h := by
  obtain ⟨g, h1, h2⟩ := datL_good hg hd
  show (match datL (l.map f) (f x) with | some p => R.ok (AV.int ((p.1.countP fun z => PyData.eqv z p.2 : Nat) : Int)) h | none => .bad) = _
  rw [h1]
  simp only [List.countP_map]
  have : ((fun z => PyData.eqv z (g x)) ∘ g) = fun y => decide (y = x) := by funext y; exact h2 y x
  rw [this]
@[simp] theorem bmOk_index (l : List AV) : bmOk .index (.lst l) = true := rfl
@[simp] theorem bmOk_count (l : List AV) : bmOk .count (.lst l) = true := rfl
@[simp] theorem lrng1_int (j : Int) (h : AH) : doBi .lrng1 [.int j] h = if -(2 ^ 62) ≤ j ∧ j ≤ LIM then .ok (.lst (rngL 0 j.toNat)) h else .bad := rfl
@[simp] theorem lrng2_int (i j : Int) (h : AH) : doBi .lrng2 [.int i, .int j] h = if -(2 ^ 62) ≤ i ∧ i < 2 ^ 62 ∧ -(2 ^ 62) ≤ j ∧ j < 2 ^ 62 ∧ j - i ≤ LIM then .ok (.lst (rngL i (j - i).toNat)) h else .bad := rfl
/-! places read -/
def unS : AV → Str
  | .str s => s
  | _ => ""
def unPl : AV → List Str
  | .tup l => l.map unS
  | _ => []
def IsPl (x : AV) : Prop := ∃ p, x = plA p
@[simp] theorem unPl_pl (p : List Str) : unPl (.tup (p.map .str)) = p := by
  show (p.map .str).map unS = p
  rw [List.map_map]
  have : unS ∘ AV.str = id := rfl
  rw [this, List.map_id]
@[simp] theorem unPl_nil : unPl (.tup []) = [] := rfl
@[simp] theorem unPl_cons (s : Str) (l : List AV) : unPl (.tup (.str s :: l)) = s :: unPl (.tup l) := rfl
@[simp] theorem isPl_pl (p : List Str) : IsPl (.tup (p.map .str)) := ⟨p, rfl⟩
@[simp] theorem isPl_nil : IsPl (.tup []) := ⟨[], rfl⟩
@[simp] theorem isPl_cons (s : Str) (l : List AV) : IsPl (.tup (.str s :: l)) ↔ IsPl (.tup l) := by
  constructor
  · rintro ⟨p, hp⟩
    cases p with
    | nil => cases hp
    | cons a p => cases hp; exact ⟨p, rfl⟩
  · rintro ⟨p, hp⟩
    cases hp
    exact ⟨s :: p, rfl⟩
theorem IsPl.eq {x : AV} (h : IsPl x) : x = .tup ((unPl x).map .str) := by
  obtain ⟨p, rfl⟩ := h
  simp
/-! loops -/
theorem forL_idxG {α : Type} {s : AV → En → AH → RS} {inj : α → AV} (I : Nat → En → AH → Prop) : ∀ (l : List α) (k : Nat) (e : En) (h : AH), (∀ j x, l[j]? = some x → ∀ e h, I (k + j) e h → ∃ e' h', s (inj x) e h = .nx e' h' ∧ I (k + j + 1) e' h') → I k e h → ∃ e' h', forL s (l.map inj) e h = .nx e' h' ∧ I (k + l.length) e' h'
  | [], k, e, h, _, i => ⟨e, h, rfl, i⟩
  | x :: l, k, e, h, hs, i => by
    obtain ⟨e1, h1, q1, i1⟩ := hs 0 x rfl e h i
    obtain ⟨e2, h2, q2, i2⟩ := forL_idxG I l (k + 1) e1 h1 (fun j y hy e h z => by
      have := hs (j + 1) y (by simpa using hy) e h (by rw [show k + (j + 1) = k + 1 + j by omega]; exact z)
      rw [show k + (j + 1) + 1 = k + 1 + j + 1 by omega] at this
      exact this) i1
    refine ⟨e2, h2, ?_, ?_⟩
    · rw [List.map_cons, forL_cons, q1]; exact q2
    · rw [List.length_cons, show k + (l.length + 1) = k + 1 + l.length by omega]; exact i2
theorem forL_lst {α : Type} {s : AV → En → AH → RS} {inj : α → AV} (I : Nat → En → AH → Prop) (l : List α) {e : En} {h : AH} (hs : ∀ j x, l[j]? = some x → ∀ e h, I j e h → ∃ e' h', s (inj x) e h = .nx e' h' ∧ I (j + 1) e' h') (i : I 0 e h) : ∃ e' h', forL s (l.map inj) e h = .nx e' h' ∧ I l.length e' h' := by
  have := forL_idxG (inj := inj) I l 0 e h (fun j x hx e h z => by rw [Nat.zero_add] at z ⊢; exact hs j x hx e h z) i
  rw [Nat.zero_add] at this
  exact this
theorem forL_rng {s : AV → En → AH → RS} (I : Nat → En → AH → Prop) (n : Nat) {e : En} {h : AH} (hs : ∀ j, j < n → ∀ e h, I j e h → ∃ e' h', s (.int (j : Int)) e h = .nx e' h' ∧ I (j + 1) e' h') (i : I 0 e h) : ∃ e' h', forL s (rngL 0 n) e h = .nx e' h' ∧ I n e' h' := by
  have := forL_lst (s := s) (inj := fun (k : Nat) => AV.int (0 + (k : Int))) I (List.range n) (e := e) (h := h) (fun j x hx e h z => by
    have hj : j < n := by have := (List.getElem?_eq_some_iff.mp hx).1; simpa using this
    have hx : x = j := by rw [List.getElem?_range hj] at hx; exact (Option.some.inj hx).symm
    subst hx
    rw [Int.zero_add]
    exact hs x hj e h z) i
  rw [List.length_range] at this
  exact this
/-- how often a law's loop goes: max(1, min(most, len(script))) -/
def loopN (ns : List Int) (k : Int) : Nat := (if (if (ns.length : Int) < k then (ns.length : Int) else k) > 1 then (if (ns.length : Int) < k then (ns.length : Int) else k) else 1).toNat
theorem for_loopN {ns : List Int} (hl : ns.length ≤ 63) (k : Int) (h0 : 1 ≤ k) (h1 : k ≤ 100) {i : Nat} {b : IS} {e : En} {h : AH} (hs : e[0]? = some (some (.val (.scr ns)))) :
    ex (.fors (.nm i) .rng1 (.cons (.bi .max2 (.cons (.con (.int 1)) (.cons (.bi .min2 (.cons (.con (.int k)) (.cons (.bi .len (.cons (.slot 0) .nil)) .nil))) .nil))) .nil) b) e h = forL (stepF (.nm i) b) (rngL 0 (loopN ns k)) e h := by
  refine for_ok (xs := [.int (if (if (ns.length : Int) < k then (ns.length : Int) else k) > 1 then (if (ns.length : Int) < k then (ns.length : Int) else k) else 1)]) ?_ ?_
  · simp [pureI, slot_val hs, hs]
  · unfold itemsA loopN
    have hm : (if (if (ns.length : Int) < k then (ns.length : Int) else k) > 1 then (if (ns.length : Int) < k then (ns.length : Int) else k) else 1) ≤ 100 ∧ 1 ≤ (if (if (ns.length : Int) < k then (ns.length : Int) else k) > 1 then (if (ns.length : Int) < k then (ns.length : Int) else k) else 1) := by
      split <;> (try split) <;> omega
    simp only
    rw [if_pos ⟨by omega, by rw [lim_def]; omega⟩]
/-! objects -/
@[simp] theorem madeR_ok (n : Nat) (h : AH) : madeR n (.ok .non h) = .ok (.ref n) h := rfl
theorem fld_at {cs : List Nat} {v : Bool} {n : Nat} {f : Str} {h : AH} {c : Nat} {fs : List (Str × FV)} (hn : h[n]? = some (.ins c fs)) (hc : cs.contains c = true) : fldV cs v (.ref n) f h = match lookF f fs with
    | some (.val d) => .ok (if v then vw h d else d) h
    | some (.own c) => if v then .ok c h else .bad
    | _ => .bad := by
  unfold fldV
  simp only [hn, hc, if_true]
  try rfl
theorem fld_val {cs : List Nat} {v : Bool} {n : Nat} {f : Str} {h : AH} {c : Nat} {fs : List (Str × FV)} {d : AV} (hn : h[n]? = some (.ins c fs)) (hc : cs.contains c = true) (hf : lookF f fs = some (.val d)) : fldV cs v (.ref n) f h = fresh v d h := by
  rw [fld_at hn hc, hf]; rfl
theorem fld_own {cs : List Nat} {n : Nat} {f : Str} {h : AH} {c : Nat} {fs : List (Str × FV)} {d : AV} (hn : h[n]? = some (.ins c fs)) (hc : cs.contains c = true) (hf : lookF f fs = some (.own d)) : fldV cs true (.ref n) f h = .ok d h := by
  rw [fld_at hn hc, hf]; rfl
theorem putO_at {cs : List Nat} {n : Nat} {f : Str} {h : AH} {c : Nat} {fs : List (Str × FV)} {v : FV} (hn : h[n]? = some (.ins c fs)) (hc : cs.contains c = true) (hl : fs.length < 1000) : putO cs (.ref n) f v h = some (h.set n (.ins c (putFA f v fs))) := by
  unfold putO
  simp only [hn]
  rw [if_pos ⟨hc, hl⟩]
theorem meth_at {m : Str} {tbl : List (Nat × Sem)} {n : Nat} {h : AH} {c : Nat} {fs : List (Str × FV)} {F : Sem} (hn : h[n]? = some (.ins c fs)) (hf : lookF m fs = none) (ht : tbl.lookup c = some F) : methOf m tbl (.ref n) h = some (n, F) := by
  unfold methOf
  simp only [hn, hf, ht]
  rfl
theorem fset_at {cs : List Nat} {n : Nat} {f : Str} {h h' : AH} {c : Nat} {fs : List (Str × FV)} {o a : IE} {e : En} {d : AV} (ha : ev false a e h = .ok d h') (ho : ev false o e h' = .ok (.ref n) h') (hn : h'[n]? = some (.ins c fs)) (hc : cs.contains c = true) (hl : fs.length < 1000) : ex (.fset cs o f a) e h = .nx e (h'.set n (.ins c (putFA f (.val d) fs))) := by
  show (ev false a e h).thn e _ = _
  rw [ha, thn_ok, ho, thn_ok, putO_at hn hc hl]
theorem fown_at {cs : List Nat} {n : Nat} {f : Str} {h h' : AH} {c : Nat} {fs : List (Str × FV)} {o a : IE} {e : En} {d : AV} (ha : ev false a e h = .ok d h') (hd : isC d = true) (ho : ev false o e h' = .ok (.ref n) h') (hn : h'[n]? = some (.ins c fs)) (hc : cs.contains c = true) (hl : fs.length < 1000) : ex (.fown cs o f a) e h = .nx e (h'.set n (.ins c (putFA f (.own d) fs))) := by
  show ((ev false a e h).bind ownR).thn e _ = _
  rw [ha, R.bind_ok]
  unfold ownR
  rw [if_pos hd, thn_ok, ho, thn_ok, putO_at hn hc hl]
end Ab

set_option maxHeartbeats 4000000
/-! PqBook: books, by what they tell. -/
namespace Pr
open PySem L2 Ab
def i_Book_init : IS :=
  (.seq (.fset [0] (.slot 0) "most" (.slot 2))
  (.seq (.fown [0] (.slot 0) "rows" (.lst (.cons (.tup (.cons (.slot 1) (.cons (.con (.int 0)) .nil))) .nil)))
  (.fset [0] (.slot 0) "at" (.con (.int 0)))))
def f_Book_init : Sem := runDef 3 i_Book_init
def i_Book_now : IS :=
  (.ret (.sub (.sub (.fld [0] (.slot 0) "rows") (.fld [0] (.slot 0) "at")) (.con (.int 0))))
def f_Book_now : Sem := runDef 1 i_Book_now
def i_Book_entries : IS :=
  (.ret (.comp .seq (.cons (.fld [0] (.slot 0) "rows") .nil) (.tp [1, 2]) (.con (.bl true)) (.slot 1) [1, 2]))
def f_Book_entries : Sem := runDef 3 i_Book_entries
def i_Book_number : IS :=
  (.ret (.fld [0] (.slot 0) "at"))
def f_Book_number : Sem := runDef 1 i_Book_number
def i_Book_can_go : IS :=
  (.ret (.chain .le .lt (.con (.int 0)) (.bin .add (.fld [0] (.slot 0) "at") (.slot 1)) (.bi .len (.cons (.fld [0] (.slot 0) "rows") .nil))))
def f_Book_can_go : Sem := runDef 2 i_Book_can_go
def i_Book_go : IS :=
  (.seq (.ifs (.not (.meth "can_go" [(0, f_Book_can_go)] (.slot 0) (.cons (.slot 1) .nil)))
    (.rais 1)
    .skip)
  (.seq (.fset [0] (.slot 0) "at" (.bin .add (.fld [0] (.slot 0) "at") (.slot 1)))
  (.ret (.meth "now" [(0, f_Book_now)] (.slot 0) .nil))))
def f_Book_go : Sem := runDef 2 i_Book_go
def i_Book_visit : IS :=
  (.seq (.fown [0] (.slot 0) "rows" (.sli (.bin .add (.sli (.fld [0] (.slot 0) "rows") (.con .non) (.bnd (.bin .add (.fld [0] (.slot 0) "at") (.con (.int 1))))) (.lst (.cons (.tup (.cons (.slot 1) (.cons (.con (.int 0)) .nil))) .nil))) (.bnd (.bin .sub (.con (.int 0)) (.fld [0] (.slot 0) "most"))) (.con .non)))
  (.fset [0] (.slot 0) "at" (.bin .sub (.bi .len (.cons (.fld [0] (.slot 0) "rows") .nil)) (.con (.int 1)))))
def f_Book_visit : Sem := runDef 2 i_Book_visit
def i_Book_marked : IS :=
  (.ret (.sub (.sub (.fld [0] (.slot 0) "rows") (.fld [0] (.slot 0) "at")) (.con (.int 1))))
def f_Book_marked : Sem := runDef 1 i_Book_marked
structure Bk where
  most : Nat
  rows : List (List Str × Int)
  at_ : Nat
deriving DecidableEq
instance : Inhabited Bk := ⟨⟨0, [], 0⟩⟩
def rowA (r : List Str × Int) : AV := .tup [plA r.1, .int r.2]
def bookF (a b c : FV) : List (Str × FV) := [("most", a), ("rows", b), ("at", c)]
def bookO (b : Bk) : AO := .ins 0 (bookF (.val (.int (b.most : Int))) (.own (.lst (b.rows.map rowA))) (.val (.int (b.at_ : Int))))
structure Bk.Ok (b : Bk) : Prop where
  m0 : 0 < b.most
  m1 : b.most ≤ 100
  at1 : b.at_ < b.rows.length
  len : b.rows.length ≤ b.most
theorem lk_most (a b c : FV) : lookF "most" (bookF a b c) = some a := by kernel_rfl
theorem lk_rows (a b c : FV) : lookF "rows" (bookF a b c) = some b := by kernel_rfl
theorem lk_at (a b c : FV) : lookF "at" (bookF a b c) = some c := by kernel_rfl
theorem pf_most (a b c d : FV) : putFA "most" d (bookF a b c) = bookF d b c := by kernel_rfl
theorem pf_rows (a b c d : FV) : putFA "rows" d (bookF a b c) = bookF a d c := by kernel_rfl
theorem pf_at (a b c d : FV) : putFA "at" d (bookF a b c) = bookF a b d := by kernel_rfl
theorem pf_bk2 (a b : FV) : putFA "rows" b [("most", a)] = ([("most", a), ("rows", b)] : List (Str × FV)) := by kernel_rfl
theorem pf_bk3 (a b c : FV) : putFA "at" c [("most", a), ("rows", b)] = bookF a b c := by kernel_rfl
theorem bk_meth (a b c : FV) : lookF "now" (bookF a b c) = none ∧ lookF "can_go" (bookF a b c) = none ∧ lookF "entries" (bookF a b c) = none ∧ lookF "number" (bookF a b c) = none ∧ lookF "visit" (bookF a b c) = none ∧ lookF "go" (bookF a b c) = none ∧ lookF "marked" (bookF a b c) = none := ⟨by kernel_rfl, by kernel_rfl, by kernel_rfl, by kernel_rfl, by kernel_rfl, by kernel_rfl, by kernel_rfl⟩
def Bk.now (b : Bk) : List Str := ((b.rows[b.at_]?).getD ([], 0)).1
def Bk.marked (b : Bk) : Int := ((b.rows[b.at_]?).getD ([], 0)).2
def Bk.entries (b : Bk) : List (List Str) := b.rows.map (·.1)
def Bk.can (b : Bk) (k : Int) : Bool := decide (0 ≤ (b.at_ : Int) + k ∧ (b.at_ : Int) + k < b.rows.length)
def Bk.goto (b : Bk) (k : Int) : Bk := { b with at_ := ((b.at_ : Int) + k).toNat }
def Bk.visit (b : Bk) (p : List Str) : Bk :=
  let r := b.rows.take (b.at_ + 1) ++ [(p, 0)]
  let r' := r.drop (r.length - b.most)
  ⟨b.most, r', r'.length - 1⟩
theorem Bk.row (b : Bk) (ok : b.Ok) : b.rows[b.at_]? = some (b.now, b.marked) := by
  have := ok.at1
  unfold Bk.now Bk.marked
  rw [List.getElem?_eq_getElem this]
  rfl
theorem Bk.visit_ok {b : Bk} (ok : b.Ok) (p : List Str) : (b.visit p).Ok := by
  have h0 := ok.m0
  have h1 := ok.m1
  have h2 := ok.at1
  have h3 := ok.len
  refine ⟨h0, h1, ?_, ?_⟩ <;> simp [Bk.visit] <;> omega
theorem Bk.goto_ok {b : Bk} (ok : b.Ok) {k : Int} (h : b.can k = true) : (b.goto k).Ok := by
  have h0 := ok.m0
  have h1 := ok.m1
  have h2 := ok.at1
  have h3 := ok.len
  unfold Bk.can at h
  simp at h
  refine ⟨h0, h1, ?_, h3⟩
  simp [Bk.goto]
  omega
section
variable {h : AH} {n : Nat} {b : Bk}
theorem bk_lt {x : AO} (hn : h[n]? = some x) : n < h.length := (List.getElem?_eq_some_iff.mp hn).1
theorem bk_rows (hn : h[n]? = some (bookO b)) : fldV [0] true (.ref n) "rows" h = .ok (.lst (b.rows.map rowA)) h := fld_own hn rfl (lk_rows _ _ _)
theorem bk_at (hn : h[n]? = some (bookO b)) (v : Bool) : fldV [0] v (.ref n) "at" h = .ok (.int (b.at_ : Int)) h := by rw [fld_val hn rfl (lk_at _ _ _)]; simp
theorem bk_most (hn : h[n]? = some (bookO b)) (v : Bool) : fldV [0] v (.ref n) "most" h = .ok (.int (b.most : Int)) h := by rw [fld_val hn rfl (lk_most _ _ _)]; simp
@[simp] theorem fresh_f (d : AV) (h : AH) : fresh false d h = .ok d h := rfl
theorem Book_now (hn : h[n]? = some (bookO b)) (ok : b.Ok) : f_Book_now [.ref n] h = .ok (plA b.now) h := by
  refine run_of ?_
  have h1 := b.row ok
  simp [i_Book_now, pureI, bk_rows hn, bk_at hn, h1, rowA]
theorem Book_marked (hn : h[n]? = some (bookO b)) (ok : b.Ok) : f_Book_marked [.ref n] h = .ok (.int b.marked) h := by
  refine run_of ?_
  have h1 := b.row ok
  simp [i_Book_marked, pureI, bk_rows hn, bk_at hn, h1, rowA]
theorem Book_number (hn : h[n]? = some (bookO b)) : f_Book_number [.ref n] h = .ok (.int (b.at_ : Int)) h := by
  refine run_of ?_
  simp [i_Book_number, pureI, bk_at hn]
theorem Book_can (hn : h[n]? = some (bookO b)) (k : Int) : f_Book_can_go [.ref n, .int k] h = .ok (.bl (b.can k)) h := by
  refine run_of ?_
  by_cases c : 0 ≤ (b.at_ : Int) + k <;> simp [i_Book_can_go, pureI, bk_rows hn, bk_at hn, Bk.can, c]
theorem Book_entries (hn : h[n]? = some (bookO b)) : f_Book_entries [.ref n] h = .ok (.lst (b.entries.map plA)) h := by
  refine run_of ?_
  have hr := bk_rows hn
  have hc : ev false (.comp .seq (.cons (.fld [0] (.slot 0) "rows") .nil) (.tp [1, 2]) (.con (.bl true)) (.slot 1) [1, 2]) [some (.val (.ref n)), none, none] h = .ok (.lst (b.rows.map fun r => plA r.1)) h := by
    refine comp_ok (xs := [.lst (b.rows.map rowA)]) (l := b.rows.map rowA) (by simp [pureI, hr]) rfl ?_
    exact compL_all rowA (fun r => [some (.val (.ref n)), some (.val (plA r.1)), some (.val (.int r.2))]) (fun r => plA r.1) b.rows (fun x _ => rfl) (fun x _ => by simp)
  have e : b.entries.map plA = b.rows.map fun r => plA r.1 := by unfold Bk.entries; rw [List.map_map]; rfl
  rw [e]
  show ex (.ret _) _ h = _
  rw [ex_ret]
  simp only [List.map_cons, List.map_nil, List.length_cons, List.length_nil]
  rw [show ([some (FV.val (AV.ref n))] ++ List.replicate (3 - (0 + 1)) none : En) = [some (.val (.ref n)), none, none] from rfl, hc]
  rfl
theorem Book_go (hn : h[n]? = some (bookO b)) (ok : b.Ok) (k : Int) : f_Book_go [.ref n, .int k] h = if b.can k = true then .ok (plA (b.goto k).now) (h.set n (bookO (b.goto k))) else .exc 1 h := by
  have hc := Book_can hn k
  have hl := bk_lt hn
  have hm : methOf "can_go" [(0, f_Book_can_go)] (.ref n) h = some (n, f_Book_can_go) := meth_at hn (bk_meth _ _ _).2.1 rfl
  unfold f_Book_go
  rw [run_eq]
  by_cases c : b.can k = true
  · have hat : ((b.at_ : Int) + k) = ((b.goto k).at_ : Int) := by
      unfold Bk.can at c
      simp at c
      simp [Bk.goto]
      omega
    have e1 : h.set n (.ins 0 (putFA "at" (.val (.int ((b.at_ : Int) + k))) (bookF (.val (.int (b.most : Int))) (.own (.lst (b.rows.map rowA))) (.val (.int (b.at_ : Int)))))) = h.set n (bookO (b.goto k)) := by rw [pf_at, hat]; rfl
    have hf := fset_at (cs := [0]) (o := .slot 0) (f := "at") (a := .bin .add (.fld [0] (.slot 0) "at") (.slot 1)) (e := [some (.val (.ref n)), some (.val (.int k))]) (d := .int ((b.at_ : Int) + k)) (h := h) (h' := h) (by simp [pureI, bk_at hn]) (by simp) hn rfl (by simp [bookF])
    rw [e1] at hf
    have hn2 : (h.set n (bookO (b.goto k)))[n]? = some (bookO (b.goto k)) := by rw [List.getElem?_set_self hl]
    have hm2 : methOf "now" [(0, f_Book_now)] (.ref n) (h.set n (bookO (b.goto k))) = some (n, f_Book_now) := meth_at hn2 (bk_meth _ _ _).1 rfl
    have h2 := Book_now hn2 (Bk.goto_ok ok c)
    rw [if_pos c]
    simp [i_Book_go, hm, hc, c, hf, hm2, h2]
  · rw [if_neg c]
    simp [i_Book_go, hm, hc, c]
theorem cut_neg {α : Type} (l : List α) {k : Nat} (hk : 0 < k) : cutA l (some (-(k : Int))) none = l.drop (l.length - k) := by
  unfold cutA
  have : HT.sIx l.length 0 (some (-(k : Int))) = l.length - k := by
    show (if (-(k : Int)) < 0 then ((-(k : Int)) + (l.length : Int)).toNat else min (-(k : Int)).toNat l.length) = _
    rw [if_pos (by omega)]
    omega
  rw [show HT.sIx l.length l.length none = l.length from rfl, this, List.take_of_length_le (by rw [List.length_drop]; omega)]
theorem Book_visit (hn : h[n]? = some (bookO b)) (ok : b.Ok) (p : List Str) : f_Book_visit [.ref n, plA p] h = .ok .non (h.set n (bookO (b.visit p))) := by
  have hl := bk_lt hn
  have h0 := ok.m0
  have h1 := ok.m1
  have h2 := ok.at1
  have h3 := ok.len
  unfold f_Book_visit
  rw [run_eq]
  have e0 : ev false (.sli (.bin .add (.sli (.fld [0] (.slot 0) "rows") (.con .non) (.bnd (.bin .add (.fld [0] (.slot 0) "at") (.con (.int 1))))) (.lst (.cons (.tup (.cons (.slot 1) (.cons (.con (.int 0)) .nil))) .nil))) (.bnd (.bin .sub (.con (.int 0)) (.fld [0] (.slot 0) "most"))) (.con .non)) [some (.val (.ref n)), some (.val (plA p))] h = .ok (.lst ((b.visit p).rows.map rowA)) h := by
    have c1 : cutA b.rows none (some ((b.at_ : Int) + 1)) = b.rows.take (b.at_ + 1) := cut_to b.rows (b.at_ + 1)
    have c2 := fun l : List AV => cut_neg l h0
    have c3 : min (b.at_ + 1) b.rows.length + 1 ≤ 16777216 := by omega
    simp [pureI, bk_rows hn, bk_at hn, bk_most hn, c1, c2, c3]
    simp [Bk.visit, rowA, List.map_drop, List.map_take]
  have hf := fown_at (cs := [0]) (o := .slot 0) (f := "rows") (h := h) (h' := h) e0 rfl (by simp) hn rfl (by simp [bookF])
  rw [pf_rows] at hf
  have hn2 : (h.set n (bookO ⟨b.most, (b.visit p).rows, b.at_⟩))[n]? = some (bookO ⟨b.most, (b.visit p).rows, b.at_⟩) := List.getElem?_set_self hl
  have hlen : 1 ≤ (b.visit p).rows.length := by have := (Bk.visit_ok ok p).at1; omega
  have e2 : (((b.visit p).rows.length : Int) - 1) = ((b.visit p).at_ : Int) := by
    have : (b.visit p).at_ = (b.visit p).rows.length - 1 := rfl
    omega
  have e3 : ev false (.bin .sub (.bi .len (.cons (.fld [0] (.slot 0) "rows") .nil)) (.con (.int 1))) [some (.val (.ref n)), some (.val (plA p))] (h.set n (bookO ⟨b.most, (b.visit p).rows, b.at_⟩)) = .ok (.int ((b.visit p).at_ : Int)) (h.set n (bookO ⟨b.most, (b.visit p).rows, b.at_⟩)) := by
    simp [pureI, bk_rows hn2, e2]
  have hf2 := fset_at (cs := [0]) (o := .slot 0) (f := "at") e3 (by simp) hn2 rfl (by simp [bookF])
  rw [pf_at, List.set_set] at hf2
  simp only [List.map_cons, List.map_nil, List.length_cons, List.length_nil]
  unfold i_Book_visit
  rw [ex_seq, show ([some (FV.val (AV.ref n)), some (.val (plA p))] ++ List.replicate (2 - (0 + 1 + 1)) none : En) = [some (.val (.ref n)), some (.val (plA p))] from rfl, hf, seq_nx]
  exact congrArg (fun r : RS => match r with | .ret d h => R.ok d h | .nx _ h => .ok .non h | .exc c _ h => .exc c h | _ => .bad) hf2
theorem Book_init (hn : h[n]? = some (.ins 0 [])) (p : List Str) (m : Int) (hm : 0 ≤ m) : f_Book_init [.ref n, plA p, .int m] h = .ok .non (h.set n (bookO ⟨m.toNat, [(p, 0)], 0⟩)) := by
  have hl := bk_lt hn
  unfold f_Book_init
  rw [run_eq]
  let e : En := [some (.val (.ref n)), some (.val (plA p)), some (.val (.int m))]
  have s1 : ex (.fset [0] (.slot 0) "most" (.slot 2)) e h = .nx e (h.set n (.ins 0 [("most", .val (.int m))])) := fset_at (by simp [e]) (by simp [e]) hn rfl (by simp)
  have hn1 : (h.set n (.ins 0 [("most", .val (.int m))]))[n]? = some (.ins 0 [("most", .val (.int m))]) := List.getElem?_set_self hl
  have s2 : ex (.fown [0] (.slot 0) "rows" (.lst (.cons (.tup (.cons (.slot 1) (.cons (.con (.int 0)) .nil))) .nil))) e (h.set n (.ins 0 [("most", .val (.int m))])) = .nx e _ := fown_at (d := .lst [rowA (p, 0)]) (h' := h.set n (.ins 0 [("most", .val (.int m))])) (by simp [e, pureI, rowA]) rfl (by simp [e]) hn1 rfl (by simp)
  rw [pf_bk2, List.set_set] at s2
  have hn2 : (h.set n (.ins 0 [("most", .val (.int m)), ("rows", .own (.lst [rowA (p, 0)]))]))[n]? = some (.ins 0 [("most", .val (.int m)), ("rows", .own (.lst [rowA (p, 0)]))]) := List.getElem?_set_self hl
  have s3 : ex (.fset [0] (.slot 0) "at" (.con (.int 0))) e (h.set n (.ins 0 [("most", .val (.int m)), ("rows", .own (.lst [rowA (p, 0)]))])) = .nx e _ := fset_at (d := .int 0) (h' := (h.set n (.ins 0 [("most", .val (.int m)), ("rows", .own (.lst [rowA (p, 0)]))]))) (by simp) (by simp [e]) hn2 rfl (by simp)
  rw [pf_bk3, List.set_set] at s3
  simp only [List.map_cons, List.map_nil, List.length_cons, List.length_nil]
  have em : ((m.toNat : Nat) : Int) = m := by omega
  unfold i_Book_init
  rw [ex_seq, show ([some (FV.val (AV.ref n)), some (.val (plA p)), some (.val (.int m))] ++ List.replicate (3 - (0 + 1 + 1 + 1)) none : En) = [some (.val (.ref n)), some (.val (plA p)), some (.val (.int m))] from rfl]
  show (match ((ex (.fset [0] (.slot 0) "most" (.slot 2)) e h).seq _ : RS) with | .ret d h => R.ok d h | .nx _ h => .ok .non h | .exc c _ h => .exc c h | _ => .bad) = _
  rw [s1, seq_nx, ex_seq, s2, seq_nx, s3]
  show R.ok AV.non _ = _
  unfold bookO
  rw [em]
  rfl
end
/-! read off the heap -/
def unRow : AV → List Str × Int
  | .tup [x, .int i] => (unPl x, i)
  | _ => ([], 0)
def unBk : AO → Bk
  | .ins _ [(_, .val (.int m)), (_, .own (.lst r)), (_, .val (.int a))] => ⟨m.toNat, r.map unRow, a.toNat⟩
  | _ => default
@[simp] theorem unBk_bk (b : Bk) : unBk (bookO b) = b := by
  have e : unRow ∘ rowA = id := by
    funext r
    obtain ⟨p, i⟩ := r
    show (unPl (plA p), i) = _
    simp
  show Bk.mk _ ((b.rows.map rowA).map unRow) _ = b
  rw [List.map_map, e, List.map_id]
  simp
def IsBk (x : AO) : Prop := ∃ b : Bk, x = bookO b ∧ b.Ok
@[simp] theorem isBk_bk (b : Bk) : IsBk (bookO b) ↔ b.Ok := by
  constructor
  · rintro ⟨c, h1, h2⟩
    have := congrArg unBk h1
    rw [unBk_bk, unBk_bk] at this
    subst this
    exact h2
  · intro h; exact ⟨b, rfl, h⟩
/-- the book at a place of the heap -/
def bkAt (h : AH) (n : Nat) : Bk := unBk ((h[n]?).getD .gone)
def IsBkAt (h : AH) (n : Nat) : Prop := IsBk ((h[n]?).getD .gone)
theorem IsBkAt.of {h : AH} {n : Nat} (q : IsBkAt h n) : h[n]? = some (bookO (bkAt h n)) ∧ (bkAt h n).Ok := by
  unfold IsBkAt bkAt at *
  cases e : h[n]? with
  | none =>
    rw [e] at q
    obtain ⟨b, hb, _⟩ := q
    cases hb
  | some x =>
    rw [e] at q
    obtain ⟨b, hb, ok⟩ := q
    have hb : x = bookO b := hb
    subst hb
    simpa using ok
@[simp] theorem bkAt_z (x : AO) (h : AH) : bkAt (x :: h) 0 = unBk x := rfl
@[simp] theorem bkAt_s (x : AO) (h : AH) (n : Nat) : bkAt (x :: h) (n + 1) = bkAt h n := rfl
@[simp] theorem isBkAt_z (x : AO) (h : AH) : IsBkAt (x :: h) 0 ↔ IsBk x := Iff.rfl
@[simp] theorem isBkAt_s (x : AO) (h : AH) (n : Nat) : IsBkAt (x :: h) (n + 1) ↔ IsBkAt h n := Iff.rfl
section
variable {h : AH} {n : Nat}
theorem s_now (q : IsBkAt h n) : f_Book_now [.ref n] h = .ok (plA (bkAt h n).now) h := Book_now q.of.1 q.of.2
theorem s_marked (q : IsBkAt h n) : f_Book_marked [.ref n] h = .ok (.int (bkAt h n).marked) h := Book_marked q.of.1 q.of.2
theorem s_number (q : IsBkAt h n) : f_Book_number [.ref n] h = .ok (.int ((bkAt h n).at_ : Int)) h := Book_number q.of.1
theorem s_can (q : IsBkAt h n) (k : Int) : f_Book_can_go [.ref n, .int k] h = .ok (.bl ((bkAt h n).can k)) h := Book_can q.of.1 k
theorem s_entries (q : IsBkAt h n) : f_Book_entries [.ref n] h = .ok (.lst ((bkAt h n).entries.map plA)) h := Book_entries q.of.1
theorem s_go (q : IsBkAt h n) (k : Int) : f_Book_go [.ref n, .int k] h = if (bkAt h n).can k = true then .ok (plA ((bkAt h n).goto k).now) (h.set n (bookO ((bkAt h n).goto k))) else .exc 1 h := Book_go q.of.1 q.of.2 k
theorem s_visit (q : IsBkAt h n) (x : AV) (hx : IsPl x) : f_Book_visit [.ref n, x] h = .ok .non (h.set n (bookO ((bkAt h n).visit (unPl x)))) := by
  have := Book_visit q.of.1 q.of.2 (unPl x)
  rw [plA_def, ← hx.eq] at this
  exact this
theorem s_init (q : h[n]? = some (.ins 0 [])) (x : AV) (hx : IsPl x) (m : Int) (hm : 0 ≤ m) : f_Book_init [.ref n, x, .int m] h = .ok .non (h.set n (bookO ⟨m.toNat, [(unPl x, 0)], 0⟩)) := by
  have := Book_init q (unPl x) m hm
  rw [plA_def, ← hx.eq] at this
  exact this
end
end Pr

set_option maxHeartbeats 4000000
/-! PqGuard: guards and guarded books. -/
namespace Pr
open PySem L2 Ab
def f_l_drawn : Sem := fDrawn
def f_l_place : Sem := fPlace
def b_says_1 : IS :=
  (.ifs (.and (.call f_is_under (.cons (.slot 1) (.cons (.sub (.slot 3) (.con (.int 0))) .nil))) (.call f_is_under (.cons (.slot 2) (.cons (.sub (.slot 3) (.con (.int 1))) .nil))))
  (.ret (.sub (.slot 3) (.con (.int 2))))
  .skip)
def i_says : IS :=
  (.seq (.fors (.nm 3) .seq (.cons (.slot 0) .nil) b_says_1)
  (.ret (.con (.str "let"))))
def f_says : Sem := runDef 4 i_says
def b_verdict_1 : IS :=
  (.seq (.asg (.nm 4) (.call f_says (.cons (.slot 0) (.cons (.slot 1) (.cons (.slot 2) .nil)))))
  (.seq (.ifs (.bi .isStr (.cons (.slot 4) .nil))
    (.ret (.tup (.cons (.slot 4) (.cons (.slot 2) .nil))))
    .skip)
  (.asg (.nm 2) (.slot 4))))
def i_verdict : IS :=
  (.seq (.fors (.nm 3) .rng1 (.cons (.bin .add (.con (.int 6)) (.con (.int 1))) .nil) b_verdict_1)
  (.rais 4))
def f_verdict : Sem := runDef 5 i_verdict
def i_GuardedBook_init : IS :=
  (.seq (.fset [1] (.slot 0) "guards" (.slot 3))
  (.seq (.fset [1] (.slot 0) "book" (.make 0 f_Book_init (.cons (.slot 1) (.cons (.slot 2) .nil))))
  (.fset [1] (.slot 0) "asked" (.con .non))))
def f_GuardedBook_init : Sem := runDef 4 i_GuardedBook_init
def i_GuardedBook_now : IS :=
  (.ret (.meth "now" [(0, f_Book_now)] (.fld [1] (.slot 0) "book") .nil))
def f_GuardedBook_now : Sem := runDef 1 i_GuardedBook_now
def i_GuardedBook_entries : IS :=
  (.ret (.meth "entries" [(0, f_Book_entries)] (.fld [1] (.slot 0) "book") .nil))
def f_GuardedBook_entries : Sem := runDef 1 i_GuardedBook_entries
def i_GuardedBook_number : IS :=
  (.ret (.meth "number" [(0, f_Book_number)] (.fld [1] (.slot 0) "book") .nil))
def f_GuardedBook_number : Sem := runDef 1 i_GuardedBook_number
def i_GuardedBook_waits : IS :=
  (.ret (.ite (.cmp .isn (.fld [1] (.slot 0) "asked") (.con .non)) (.con .non) (.sub (.fld [1] (.slot 0) "asked") (.con (.int 0)))))
def f_GuardedBook_waits : Sem := runDef 1 i_GuardedBook_waits
def i_GuardedBook_done : IS :=
  (.ifs (.cmp .isn (.slot 2) (.con .non))
  (.drop (.meth "visit" [(0, f_Book_visit)] (.fld [1] (.slot 0) "book") (.cons (.slot 1) .nil)))
  (.drop (.meth "go" [(0, f_Book_go)] (.fld [1] (.slot 0) "book") (.cons (.slot 2) .nil))))
def f_GuardedBook_done : Sem := runDef 3 i_GuardedBook_done
def i_GuardedBook_tried : IS :=
  (.seq (.fset [1] (.slot 0) "asked" (.ite (.cmp .eq (.slot 1) (.con (.str "ask"))) (.tup (.cons (.slot 2) (.cons (.slot 3) .nil))) (.con .non)))
  (.seq (.ifs (.cmp .eq (.slot 1) (.con (.str "let")))
    (.drop (.meth "done" [(1, f_GuardedBook_done)] (.slot 0) (.cons (.slot 2) (.cons (.slot 3) .nil))))
    .skip)
  (.ret (.slot 1))))
def f_GuardedBook_tried : Sem := runDef 4 i_GuardedBook_tried
def i_GuardedBook_visit : IS :=
  (.seq (.asg (.tp [2, 3]) (.call f_verdict (.cons (.fld [1] (.slot 0) "guards") (.cons (.meth "now" [(1, f_GuardedBook_now)] (.slot 0) .nil) (.cons (.slot 1) .nil)))))
  (.ret (.meth "tried" [(1, f_GuardedBook_tried)] (.slot 0) (.cons (.slot 2) (.cons (.slot 3) (.cons (.con .non) .nil))))))
def f_GuardedBook_visit : Sem := runDef 4 i_GuardedBook_visit
def i_GuardedBook_go : IS :=
  (.seq (.ifs (.not (.meth "can_go" [(0, f_Book_can_go)] (.fld [1] (.slot 0) "book") (.cons (.slot 1) .nil)))
    (.rais 1)
    .skip)
  (.seq (.asg (.nm 2) (.sub (.meth "entries" [(0, f_Book_entries)] (.fld [1] (.slot 0) "book") .nil) (.bin .add (.meth "number" [(0, f_Book_number)] (.fld [1] (.slot 0) "book") .nil) (.slot 1))))
  (.seq (.asg (.tp [3, 4]) (.call f_verdict (.cons (.fld [1] (.slot 0) "guards") (.cons (.meth "now" [(1, f_GuardedBook_now)] (.slot 0) .nil) (.cons (.slot 2) .nil)))))
  (.ret (.meth "tried" [(1, f_GuardedBook_tried)] (.slot 0) (.cons (.slot 3) (.cons (.slot 4) (.cons (.ite (.cmp .eq (.slot 4) (.slot 2)) (.slot 1) (.con .non)) .nil))))))))
def f_GuardedBook_go : Sem := runDef 5 i_GuardedBook_go
def i_GuardedBook_answer : IS :=
  (.seq (.ifs (.cmp .isn (.fld [1] (.slot 0) "asked") (.con .non))
    (.rais 5)
    .skip)
  (.seq (.asg (.tp [2, 3]) (.fld [1] (.slot 0) "asked"))
  (.seq (.fset [1] (.slot 0) "asked" (.con .non))
  (.seq (.ifs (.slot 1)
    (.drop (.meth "done" [(1, f_GuardedBook_done)] (.slot 0) (.cons (.slot 2) (.cons (.slot 3) .nil))))
    .skip)
  (.ret (.meth "now" [(1, f_GuardedBook_now)] (.slot 0) .nil))))))
def f_GuardedBook_answer : Sem := runDef 4 i_GuardedBook_answer

def b_l_guards_1 : IS :=
  (.seq (.asg (.nm 4) (.bin .add (.bin .add (.slot 1) (.con (.int 1))) (.bin .mul (.con (.int 20)) (.slot 3))))
  (.seq (.asg (.nm 5) (.sub (.lst (.cons (.con (.str "let")) (.cons (.con (.str "stop")) (.cons (.con (.str "ask")) (.cons (.con (.str "ask")) .nil))))) (.call f_l_drawn (.cons (.slot 0) (.cons (.bin .add (.slot 4) (.con (.int 1))) (.cons (.con (.int 4)) .nil))))))
  (.seq (.ifs (.cmp .eq (.call f_l_drawn (.cons (.slot 0) (.cons (.bin .add (.slot 4) (.con (.int 2))) (.cons (.con (.int 3)) .nil)))) (.con (.int 0)))
    (.asg (.nm 5) (.call f_l_place (.cons (.slot 0) (.cons (.bin .add (.slot 4) (.con (.int 3))) .nil))))
    .skip)
  (.seq (.asg (.nm 6) (.tup (.cons (.sli (.call f_l_place (.cons (.slot 0) (.cons (.bin .add (.slot 4) (.con (.int 8))) .nil))) (.con .non) (.bnd (.con (.int 2)))) (.cons (.sli (.call f_l_place (.cons (.slot 0) (.cons (.bin .add (.slot 4) (.con (.int 13))) .nil))) (.con .non) (.bnd (.con (.int 2)))) .nil))))
  (.asg (.nm 2) (.bin .add (.slot 2) (.tup (.cons (.bin .add (.slot 6) (.tup (.cons (.slot 5) .nil))) .nil))))))))
def i_l_guards : IS :=
  (.seq (.asg (.nm 2) (.tup .nil))
  (.seq (.fors (.nm 3) .rng1 (.cons (.call f_l_drawn (.cons (.slot 0) (.cons (.slot 1) (.cons (.con (.int 6)) .nil)))) .nil) b_l_guards_1)
  (.ret (.slot 2))))
def f_l_guards : Sem := runDef 7 i_l_guards
abbrev Say := Str ⊕ List Str
def sayA : Say → AV
  | .inl s => .str s
  | .inr p => .tup (p.map .str)
abbrev Grd := List Str × List Str × Say
def gA (g : Grd) : AV := .tup [.tup (g.1.map .str), .tup (g.2.1.map .str), sayA g.2.2]
def findG : List Grd → List Str → List Str → Option Say
  | [], _, _ => none
  | g :: r, a, c => if u a g.1 && u c g.2.1 then some g.2.2 else findG r a c
def saysF (gs : List Grd) (a c : List Str) : Say := (findG gs a c).getD (.inl "let")
@[simp] theorem fresh_say (v : Bool) (s : Say) (h : AH) : fresh v (sayA s) h = .ok (sayA s) h := by cases s <;> cases v <;> rfl
theorem says_step (a c : List Str) (h : AH) (g : Grd) (x : AV) (v : Option FV) :
    stepF (.nm 3) b_says_1 (gA g) [some (.val x), some (.val (pl a)), some (.val (pl c)), v] h = if u a g.1 && u c g.2.1 then .ret (sayA g.2.2) h else .nx [some (.val x), some (.val (pl a)), some (.val (pl c)), some (.val (gA g))] h := by
  have hu := fun p q => fU p q h
  simp only [pl_def] at hu
  rw [step_nm]
  unfold b_says_1
  cases h1 : u a g.1 <;> cases h2 : u c g.2.1 <;> simp [pureI, hu, h1, h2, gA]
theorem says_loop (a c : List Str) (h : AH) : ∀ (gs : List Grd) (x : AV) (v : Option FV), ∃ v',
    forL (stepF (.nm 3) b_says_1) (gs.map gA) [some (.val x), some (.val (pl a)), some (.val (pl c)), v] h = (match findG gs a c with
      | some s => .ret (sayA s) h
      | none => .nx [some (.val x), some (.val (pl a)), some (.val (pl c)), v'] h)
  | [], x, v => ⟨v, rfl⟩
  | g :: r, x, v => by
    obtain ⟨v', ih⟩ := says_loop a c h r x (some (.val (gA g)))
    refine ⟨v', ?_⟩
    rw [List.map_cons, forL_cons, says_step]
    unfold findG
    cases q : (u a g.1 && u c g.2.1) with
    | true => rfl
    | false => exact ih
theorem says_eq (gs : List Grd) (a c : List Str) (h : AH) : f_says [.tup (gs.map gA), pl a, pl c] h = .ok (sayA (saysF gs a c)) h := by
  unfold f_says
  refine run_of ?_
  obtain ⟨v', q⟩ := says_loop a c h gs (.tup (gs.map gA)) none
  have z : ex (.fors (.nm 3) .seq (.cons (.slot 0) .nil) b_says_1) [some (.val (.tup (gs.map gA))), some (.val (pl a)), some (.val (pl c)), none] h = forL (stepF (.nm 3) b_says_1) (gs.map gA) [some (.val (.tup (gs.map gA))), some (.val (pl a)), some (.val (pl c)), none] h := by
    rw [for_ok (l := gs.map gA) (xs := [.tup (gs.map gA)]) (by simp [pureI]) rfl]
  show ex i_says [some (.val (.tup (gs.map gA))), some (.val (pl a)), some (.val (pl c)), none] h = _
  unfold i_says saysF
  rw [ex_seq, z, q]
  cases findG gs a c <;> rfl
def verF (gs : List Grd) (a : List Str) : Nat → List Str → Option (Str × List Str)
  | 0, _ => none
  | n + 1, c => match saysF gs a c with
    | .inl s => some (s, c)
    | .inr c' => verF gs a n c'
def toldA : Option (Str × List Str) → AV
  | some p => .tup [.str p.1, .tup (p.2.map .str)]
  | none => .non
theorem ver_loop (gs : List Grd) (a : List Str) (h : AH) : ∀ (n k : Nat) (c : List Str) (v3 v4 : Option FV), ∃ w2 w3 w4,
    forL (stepF (.nm 3) b_verdict_1) ((List.range' k n).map fun (i : Nat) => AV.int (i : Int)) [some (.val (.tup (gs.map gA))), some (.val (pl a)), some (.val (pl c)), v3, v4] h = (match verF gs a n c with
      | some p => .ret (toldA (some p)) h
      | none => .nx [some (.val (.tup (gs.map gA))), some (.val (pl a)), w2, w3, w4] h)
  | 0, k, c, v3, v4 => ⟨_, _, _, rfl⟩
  | n + 1, k, c, v3, v4 => by
    have hs := fun c => says_eq gs a c h
    simp only [pl_def] at hs
    cases q : saysF gs a c with
    | inl s =>
      refine ⟨none, none, none, ?_⟩
      rw [List.range'_succ, List.map_cons, forL_cons, step_nm]
      have e : ex b_verdict_1 ([some (.val (.tup (gs.map gA))), some (.val (pl a)), some (.val (pl c)), v3, v4].set 3 (some (.val (.int (k : Int))))) h = .ret (toldA (some (s, c))) h := by
        unfold b_verdict_1
        simp [pureI, hs, q, sayA, toldA]
      rw [if_pos (by simp), e]
      unfold verF
      rw [q]
    | inr c' =>
      obtain ⟨w2, w3, w4, ih⟩ := ver_loop gs a h n (k + 1) c' (some (.val (.int (k : Int)))) (some (.val (pl c')))
      refine ⟨w2, w3, w4, ?_⟩
      rw [List.range'_succ, List.map_cons, forL_cons, step_nm]
      have e : ex b_verdict_1 ([some (.val (.tup (gs.map gA))), some (.val (pl a)), some (.val (pl c)), v3, v4].set 3 (some (.val (.int (k : Int))))) h = .nx [some (.val (.tup (gs.map gA))), some (.val (pl a)), some (.val (pl c')), some (.val (.int (k : Int))), some (.val (pl c'))] h := by
        unfold b_verdict_1
        have : doBi .isStr [AV.tup (c'.map .str)] h = .ok (.bl false) h := rfl
        simp [pureI, hs, q, sayA, this]
      rw [if_pos (by simp), e]
      unfold verF
      rw [q]
      exact ih
theorem ver_eq (gs : List Grd) (a c : List Str) (h : AH) : f_verdict [.tup (gs.map gA), pl a, pl c] h = (match verF gs a 7 c with
    | some p => .ok (toldA (some p)) h
    | none => .exc 4 h) := by
  obtain ⟨w2, w3, w4, q⟩ := ver_loop gs a h 7 0 c none none
  have z : ex (.fors (.nm 3) .rng1 (.cons (.bin .add (.con (.int 6)) (.con (.int 1))) .nil) b_verdict_1) [some (.val (.tup (gs.map gA))), some (.val (pl a)), some (.val (pl c)), none, none] h = forL (stepF (.nm 3) b_verdict_1) ((List.range' 0 7).map fun (i : Nat) => AV.int (i : Int)) [some (.val (.tup (gs.map gA))), some (.val (pl a)), some (.val (pl c)), none, none] h := by
    rw [for_ok (xs := [.int 7]) (l := (List.range' 0 7).map fun (i : Nat) => AV.int (i : Int)) (by simp [pureI]) rfl]
  unfold f_verdict
  rw [run_eq]
  have : ex i_verdict [some (.val (.tup (gs.map gA))), some (.val (pl a)), some (.val (pl c)), none, none] h = (match verF gs a 7 c with
      | some p => .ret (toldA (some p)) h
      | none => .exc 4 [some (.val (.tup (gs.map gA))), some (.val (pl a)), w2, w3, w4] h) := by
    unfold i_verdict
    rw [ex_seq, z, q]
    cases verF gs a 7 c <;> rfl
  show (match ex i_verdict [some (.val (.tup (gs.map gA))), some (.val (pl a)), some (.val (pl c)), none, none] h with
    | .ret d h => R.ok d h
    | .nx _ h => .ok .non h
    | .exc c _ h => .exc c h
    | _ => .bad) = _
  rw [this]
  cases verF gs a 7 c <;> rfl
def OkG (g : Grd) : Prop := (match g.2.2 with
  | .inl s => s = "let" ∨ s = "stop" ∨ s = "ask"
  | .inr p => okp p) ∧ okp g.1 ∧ okp g.2.1
theorem cut2 (l : List Str) : cutA l none (some 2) = l.take 2 := by
  have := cut_toI l (i := 2) (by decide)
  exact this
theorem guard_step (ns : List Int) (hl : ns.length ≤ 63) (k : Int) (h : AH) (x : Nat) (gs : List Grd) (hg : ∀ g ∈ gs, OkG g) (hn : gs.length ≤ 1000) (v3 v4 v5 v6 : Option FV) :
    ∃ g w3 w4 w5 w6, OkG g ∧ stepF (.nm 3) b_l_guards_1 (.int (x : Int)) [some (.val (.scr ns)), some (.val (.int k)), some (.val (.tup (gs.map gA))), v3, v4, v5, v6] h = .nx [some (.val (.scr ns)), some (.val (.int k)), some (.val (.tup ((gs ++ [g]).map gA))), w3, w4, w5, w6] h := by
  have ed := fun k m (hm : 0 < m) => drawn_eq hl k m hm h
  have epl := fun a => place_eq hl a h
  rw [show fDrawn = f_l_drawn from rfl] at ed
  rw [show fPlace = f_l_place from rfl] at epl
  simp only [pl_def] at epl
  generalize hb : k + 1 + 20 * (x : Int) = b
  have d1 := drawn_lt (ns := ns) (k := b + 1) (m := 4) (by decide)
  have e1 := ed (b + 1) 4 (by decide)
  have e2 := ed (b + 2) 3 (by decide)
  have hm : (x : Int) < 18446744073709551616 ∨ True := Or.inr trivial
  rw [step_nm, if_pos (by simp)]
  unfold b_l_guards_1
  have hq : gs.length + 1 ≤ 16777216 := by omega
  have atq : ∃ s : Str, atI [AV.str "let", .str "stop", .str "ask", .str "ask"] (drawn ns (b + 1) 4) = some (.str s) ∧ (s = "let" ∨ s = "stop" ∨ s = "ask") := by
    have : drawn ns (b + 1) 4 = 0 ∨ drawn ns (b + 1) 4 = 1 ∨ drawn ns (b + 1) 4 = 2 ∨ drawn ns (b + 1) 4 = 3 := by omega
    rcases this with q | q | q | q <;> rw [q] <;> simp
  obtain ⟨s, a1, a2⟩ := atq
  by_cases c : drawn ns (b + 2) 3 = 0
  · refine ⟨((placeV ns (b + 8)).take 2, (placeV ns (b + 13)).take 2, .inr (placeV ns (b + 3))), some (.val (.int x)), some (.val (.int b)), some (.val (pl (placeV ns (b + 3)))), some (.val (.tup [pl ((placeV ns (b + 8)).take 2), pl ((placeV ns (b + 13)).take 2)])), ⟨okp_place ns _, okp_take (okp_place ns _) 2, okp_take (okp_place ns _) 2⟩, ?_⟩
    simp [pureI, hb, e1, e2, a1, c, epl, hq, gA, sayA, cut2, List.map_take]
  · refine ⟨((placeV ns (b + 8)).take 2, (placeV ns (b + 13)).take 2, .inl s), some (.val (.int x)), some (.val (.int b)), some (.val (.str s)), some (.val (.tup [pl ((placeV ns (b + 8)).take 2), pl ((placeV ns (b + 13)).take 2)])), ⟨a2, okp_take (okp_place ns _) 2, okp_take (okp_place ns _) 2⟩, ?_⟩
    simp [pureI, hb, e1, e2, a1, c, epl, hq, gA, sayA, cut2, List.map_take]
theorem guards_eq (ns : List Int) (hl : ns.length ≤ 63) (k : Int) (h : AH) : ∃ gs : List Grd, gs.length ≤ 5 ∧ (∀ g ∈ gs, OkG g) ∧ f_l_guards [.scr ns, .int k] h = .ok (.tup (gs.map gA)) h := by
  have d := drawn_lt (ns := ns) (k := k) (m := 6) (by decide)
  have ed := drawn_eq hl k 6 (by decide) h
  rw [show fDrawn = f_l_drawn from rfl] at ed
  obtain ⟨e', h', q, gs, w3, w4, w5, w6, rfl, rfl, q2, q3⟩ := forL_rng (s := stepF (.nm 3) b_l_guards_1) (h := h) (e := [some (.val (.scr ns)), some (.val (.int k)), some (.val (.tup [])), none, none, none, none])
    (fun n e h' => ∃ gs w3 w4 w5 w6, e = [some (.val (.scr ns)), some (.val (.int k)), some (.val (.tup (List.map gA gs))), w3, w4, w5, w6] ∧ h' = h ∧ gs.length = n ∧ ∀ g ∈ gs, OkG g) (drawn ns k 6).toNat
    (fun j hj e h' ⟨gs, w3, w4, w5, w6, e1, e2, e3, e4⟩ => by
      subst e1 e2
      obtain ⟨g, x3, x4, x5, x6, og, q⟩ := guard_step ns hl k h' j gs e4 (by omega) w3 w4 w5 w6
      exact ⟨_, _, q, gs ++ [g], x3, x4, x5, x6, rfl, rfl, by simp [e3], fun z hz => by
        rcases List.mem_append.mp hz with z1 | z1
        · exact e4 z z1
        · have : z = g := by simpa using z1
          subst this; exact og⟩)
    ⟨[], none, none, none, none, rfl, rfl, rfl, fun _ h => (nomatch h)⟩
  refine ⟨gs, by omega, q3, ?_⟩
  refine run_of ?_
  unfold i_l_guards
  have e1 : ex (.asg (.nm 2) (.tup .nil)) [some (.val (.scr ns)), some (.val (.int k)), none, none, none, none, none] h' = .nx [some (.val (.scr ns)), some (.val (.int k)), some (.val (.tup [])), none, none, none, none] h' := by simp
  show ex _ [some (.val (.scr ns)), some (.val (.int k)), none, none, none, none, none] h' = _
  have hr : (drawn ns k 6) ≤ 16777216 := by omega
  have hr2 : -4611686018427387904 ≤ (drawn ns k 6) := by omega
  rw [ex_seq, e1, seq_nx, ex_seq, for_ok (xs := [.int (drawn ns k 6)]) (l := rngL 0 (drawn ns k 6).toNat) (by simp [pureI, ed]) (by simp [itemsA, hr, hr2]), q, seq_nx]
  simp
end Pr

set_option maxHeartbeats 4000000
/-! PqGuard2: guarded books, by what they tell. -/
namespace Pr
open PySem L2 Ab
def fieldNames : List Str := ["most", "rows", "at", "guards", "book", "asked", "many", "wanted", "here", "held", "gone", "coming", "links"]
def isM (m : Str) : Bool := fieldNames.all fun f => decide (f ≠ m)
theorem lookF_none {m : Str} (hm : isM m = true) : ∀ {fs : List (Str × FV)}, (∀ p ∈ fs, p.1 ∈ fieldNames) → lookF m fs = none
  | [], _ => rfl
  | (f, v) :: fs, h => by
    have h1 := h (f, v) List.mem_cons_self
    unfold isM at hm
    rw [List.all_eq_true] at hm
    have h2 := hm f h1
    show (if f = m then _ else _) = none
    rw [if_neg (by simpa using h2)]
    exact lookF_none (by unfold isM; rw [List.all_eq_true]; exact hm) fun p hp => h p (List.mem_cons_of_mem _ hp)
theorem meth_obj {h : AH} {n c : Nat} {fs : List (Str × FV)} {m : Str} {tbl : List (Nat × Sem)} (hn : h[n]? = some (.ins c fs)) (hf : ∀ p ∈ fs, p.1 ∈ fieldNames) (hm : isM m = true) : methOf m tbl (.ref n) h = (tbl.lookup c).map fun F => (n, F) := by
  unfold methOf
  simp only [hn, lookF_none hm hf]
  rfl
@[simp] theorem isM_now : isM "now" = true := by decide +kernel
@[simp] theorem isM_entries : isM "entries" = true := by decide +kernel
@[simp] theorem isM_number : isM "number" = true := by decide +kernel
@[simp] theorem isM_visit : isM "visit" = true := by decide +kernel
@[simp] theorem isM_go : isM "go" = true := by decide +kernel
@[simp] theorem isM_can_go : isM "can_go" = true := by decide +kernel
@[simp] theorem isM_waits : isM "waits" = true := by decide +kernel
@[simp] theorem isM_answer : isM "answer" = true := by decide +kernel
@[simp] theorem isM_done : isM "done" = true := by decide +kernel
@[simp] theorem isM_tried : isM "tried" = true := by decide +kernel
@[simp] theorem isM_mark : isM "mark" = true := by decide +kernel
@[simp] theorem isM_marked : isM "marked" = true := by decide +kernel
@[simp] theorem isM_replace : isM "replace" = true := by decide +kernel
@[simp] theorem isM_nearest : isM "nearest" = true := by decide +kernel
@[simp] theorem isM_drop : isM "drop" = true := by decide +kernel
@[simp] theorem isM_tidy : isM "tidy" = true := by decide +kernel
@[simp] theorem isM_ask : isM "ask" = true := by decide +kernel
@[simp] theorem isM_ask_go : isM "ask_go" = true := by decide +kernel
@[simp] theorem isM_came : isM "came" = true := by decide +kernel
@[simp] theorem isM_failed : isM "failed" = true := by decide +kernel
@[simp] theorem isM_stop : isM "stop" = true := by decide +kernel
@[simp] theorem isM_waiting : isM "waiting" = true := by decide +kernel
theorem bookF_names (a b c : FV) : ∀ p ∈ bookF a b c, p.1 ∈ fieldNames := fun p hp => by
  simp only [bookF, List.mem_cons, List.not_mem_nil, or_false] at hp
  rcases hp with rfl | rfl | rfl <;> simp [fieldNames]
theorem meth_bk {h : AH} {n : Nat} {m : Str} {tbl : List (Nat × Sem)} (q : IsBkAt h n) (hm : isM m = true) : methOf m tbl (.ref n) h = (tbl.lookup 0).map fun F => (n, F) := meth_obj q.of.1 (bookF_names _ _ _) hm
/-! guarded books -/
structure Gb where
  gs : List Grd
  m : Nat
  asked : Option (List Str × Option Int)
def byA : Option Int → AV
  | none => .non
  | some i => .int i
@[simp] theorem byA_none : byA none = .non := rfl
@[simp] theorem byA_some (i : Int) : byA (some i) = .int i := rfl
def askA : Option (List Str × Option Int) → AV
  | none => .non
  | some p => .tup [plA p.1, byA p.2]
@[simp] theorem askA_none : askA none = .non := rfl
@[simp] theorem askA_some (p : List Str × Option Int) : askA (some p) = .tup [plA p.1, byA p.2] := rfl
def gbF (a b c : FV) : List (Str × FV) := [("guards", a), ("book", b), ("asked", c)]
def gbO (g : Gb) : AO := .ins 1 (gbF (.val (.tup (g.gs.map gA))) (.val (.ref g.m)) (.val (askA g.asked)))
theorem lk_guards (a b c : FV) : lookF "guards" (gbF a b c) = some a := by kernel_rfl
theorem lk_book (a b c : FV) : lookF "book" (gbF a b c) = some b := by kernel_rfl
theorem lk_asked (a b c : FV) : lookF "asked" (gbF a b c) = some c := by kernel_rfl
theorem pf_asked (a b c d : FV) : putFA "asked" d (gbF a b c) = gbF a b d := by kernel_rfl
theorem pf_gb2 (a b : FV) : putFA "book" b [("guards", a)] = ([("guards", a), ("book", b)] : List (Str × FV)) := by kernel_rfl
theorem pf_gb3 (a b c : FV) : putFA "asked" c [("guards", a), ("book", b)] = gbF a b c := by kernel_rfl
theorem gbF_names (a b c : FV) : ∀ p ∈ gbF a b c, p.1 ∈ fieldNames := fun p hp => by
  simp only [gbF, List.mem_cons, List.not_mem_nil, or_false] at hp
  rcases hp with rfl | rfl | rfl <;> simp [fieldNames]
def unSay : AV → Say
  | .str s => .inl s
  | x => .inr (unPl x)
def unG : AV → Grd
  | .tup [x, y, z] => (unPl x, unPl y, unSay z)
  | _ => ([], [], .inl "")
def unBy : AV → Option Int
  | .int i => some i
  | _ => none
def unAsk : AV → Option (List Str × Option Int)
  | .tup [x, y] => some (unPl x, unBy y)
  | _ => none
def unGb : AO → Gb
  | .ins _ [(_, .val (.tup l)), (_, .val (.ref m)), (_, .val x)] => ⟨l.map unG, m, unAsk x⟩
  | _ => ⟨[], 0, none⟩
@[simp] theorem unG_g (g : Grd) : unG (gA g) = g := by
  obtain ⟨a, b, s⟩ := g
  cases s <;> simp [unG, gA, sayA, unSay]
@[simp] theorem unAsk_a (x : Option (List Str × Option Int)) : unAsk (askA x) = x := by
  cases x with
  | none => rfl
  | some p =>
    obtain ⟨a, b⟩ := p
    cases b <;> simp [unAsk, unBy]
@[simp] theorem unGb_gb (g : Gb) : unGb (gbO g) = g := by
  have e : (g.gs.map gA).map unG = g.gs := by
    rw [List.map_map]
    have : unG ∘ gA = id := by funext x; simp
    rw [this, List.map_id]
  show Gb.mk ((g.gs.map gA).map unG) g.m (unAsk (askA g.asked)) = g
  rw [e, unAsk_a]
def IsGb (x : AO) : Prop := ∃ g : Gb, x = gbO g
@[simp] theorem isGb_gb (g : Gb) : IsGb (gbO g) := ⟨g, rfl⟩
def gbAt (h : AH) (n : Nat) : Gb := unGb ((h[n]?).getD .gone)
def IsGbAt (h : AH) (n : Nat) : Prop := IsGb ((h[n]?).getD .gone) ∧ IsBkAt h (gbAt h n).m ∧ (gbAt h n).m ≠ n
@[simp] theorem gbAt_z (x : AO) (h : AH) : gbAt (x :: h) 0 = unGb x := rfl
@[simp] theorem gbAt_s (x : AO) (h : AH) (n : Nat) : gbAt (x :: h) (n + 1) = gbAt h n := rfl
theorem isGbAt_def (h : AH) (n : Nat) : IsGbAt h n ↔ IsGb ((h[n]?).getD .gone) ∧ IsBkAt h (gbAt h n).m ∧ (gbAt h n).m ≠ n := Iff.rfl
/-- the book of a guarded book -/
def gbk (h : AH) (n : Nat) : Bk := bkAt h (gbAt h n).m
theorem IsGbAt.of {h : AH} {n : Nat} (q : IsGbAt h n) : h[n]? = some (gbO (gbAt h n)) ∧ IsBkAt h (gbAt h n).m ∧ (gbAt h n).m ≠ n := by
  refine ⟨?_, q.2⟩
  obtain ⟨g, hg⟩ := q.1
  unfold gbAt
  cases e : h[n]? with
  | none => rw [e] at hg; cases hg
  | some x =>
    rw [e] at hg
    have hg : x = gbO g := hg
    subst hg
    simp
section
variable {h : AH} {n : Nat}
theorem meth_gb {m : Str} {tbl : List (Nat × Sem)} (q : IsGbAt h n) (hm : isM m = true) : methOf m tbl (.ref n) h = (tbl.lookup 1).map fun F => (n, F) := meth_obj q.of.1 (gbF_names _ _ _) hm
theorem gb_book {g : Gb} (hn : h[n]? = some (gbO g)) : fldV [1] false (.ref n) "book" h = .ok (.ref g.m) h := by rw [fld_val hn rfl (lk_book _ _ _)]; rfl
theorem gb_guards {g : Gb} (hn : h[n]? = some (gbO g)) (v : Bool) : fldV [1] v (.ref n) "guards" h = .ok (.tup (g.gs.map gA)) h := by rw [fld_val hn rfl (lk_guards _ _ _)]; simp
theorem gb_asked {g : Gb} (hn : h[n]? = some (gbO g)) (v : Bool) : fldV [1] v (.ref n) "asked" h = .ok (askA g.asked) h := by
  rw [fld_val hn rfl (lk_asked _ _ _)]
  cases g.asked <;> simp
theorem sg_now (q : IsGbAt h n) : f_GuardedBook_now [.ref n] h = .ok (plA (gbk h n).now) h := by
  obtain ⟨q1, q2, q3⟩ := q.of
  refine run_of ?_
  simp [i_GuardedBook_now, gb_book q1, meth_bk q2, s_now q2, gbk]
theorem sg_entries (q : IsGbAt h n) : f_GuardedBook_entries [.ref n] h = .ok (.lst ((gbk h n).entries.map plA)) h := by
  obtain ⟨q1, q2, q3⟩ := q.of
  refine run_of ?_
  simp [i_GuardedBook_entries, gb_book q1, meth_bk q2, s_entries q2, gbk]
theorem sg_number (q : IsGbAt h n) : f_GuardedBook_number [.ref n] h = .ok (.int ((gbk h n).at_ : Int)) h := by
  obtain ⟨q1, q2, q3⟩ := q.of
  refine run_of ?_
  simp [i_GuardedBook_number, gb_book q1, meth_bk q2, s_number q2, gbk]
theorem sg_waits (q : IsGbAt h n) : f_GuardedBook_waits [.ref n] h = .ok (optP ((gbAt h n).asked.map (·.1))) h := by
  obtain ⟨q1, q2, q3⟩ := q.of
  refine run_of ?_
  cases e : (gbAt h n).asked <;> simp [i_GuardedBook_waits, pureI, gb_asked q1, e, optP]
/-- the book behind a deed -/
def bkDo (b : Bk) (c : List Str) (k : Option Int) : Bk := match k with
  | none => b.visit c
  | some k => b.goto k
@[simp] theorem bkDo_none (b : Bk) (c : List Str) : bkDo b c none = b.visit c := rfl
@[simp] theorem bkDo_some (b : Bk) (c : List Str) (k : Int) : bkDo b c (some k) = b.goto k := rfl
def canDo (b : Bk) (k : Option Int) : Bool := match k with
  | none => true
  | some k => b.can k
@[simp] theorem canDo_none (b : Bk) : canDo b none = true := rfl
@[simp] theorem canDo_some (b : Bk) (k : Int) : canDo b (some k) = b.can k := rfl
theorem bkDo_ok {b : Bk} (ok : b.Ok) (c : List Str) {k : Option Int} (hk : canDo b k = true) : (bkDo b c k).Ok := by
  cases k with
  | none => exact Bk.visit_ok ok c
  | some k => exact Bk.goto_ok ok hk
theorem sg_done (q : IsGbAt h n) (c : List Str) (k : Option Int) (hk : canDo (gbk h n) k = true) : f_GuardedBook_done [.ref n, plA c, byA k] h = .ok .non (h.set (gbAt h n).m (bookO (bkDo (gbk h n) c k))) := by
  obtain ⟨q1, q2, q3⟩ := q.of
  unfold f_GuardedBook_done
  rw [run_eq]
  cases k with
  | none => simp [i_GuardedBook_done, pureI, gb_book q1, meth_bk q2, s_visit q2, gbk]
  | some k =>
    have hk : (bkAt h (gbAt h n).m).can k = true := hk
    simp [i_GuardedBook_done, pureI, gb_book q1, meth_bk q2, s_go q2, gbk, hk]
theorem set_bk (q : IsGbAt h n) (b : Bk) (ok : b.Ok) : IsGbAt (h.set (gbAt h n).m (bookO b)) n ∧ gbAt (h.set (gbAt h n).m (bookO b)) n = gbAt h n ∧ gbk (h.set (gbAt h n).m (bookO b)) n = b := by
  obtain ⟨q1, q2, q3⟩ := q.of
  have hl : (gbAt h n).m < h.length := bk_lt q2.of.1
  have e1 : (h.set (gbAt h n).m (bookO b))[n]? = h[n]? := List.getElem?_set_ne q3
  have e2 : gbAt (h.set (gbAt h n).m (bookO b)) n = gbAt h n := by unfold gbAt at *; rw [e1]
  refine ⟨⟨by rw [e1]; exact q.1, ?_, by rw [e2]; exact q3⟩, e2, ?_⟩
  · rw [e2]
    unfold IsBkAt
    rw [List.getElem?_set_self hl]
    exact ⟨b, rfl, ok⟩
  · unfold gbk bkAt
    rw [e2, List.getElem?_set_self hl]
    simp
theorem set_gb (q : IsGbAt h n) (g : Gb) (hg : g.m = (gbAt h n).m) : IsGbAt (h.set n (gbO g)) n ∧ gbAt (h.set n (gbO g)) n = g ∧ gbk (h.set n (gbO g)) n = gbk h n := by
  obtain ⟨q1, q2, q3⟩ := q.of
  have hl : n < h.length := bk_lt q1
  have e1 : (h.set n (gbO g))[n]? = some (gbO g) := List.getElem?_set_self hl
  have e2 : gbAt (h.set n (gbO g)) n = g := by unfold gbAt; rw [e1]; simp
  have e3 : (h.set n (gbO g))[(gbAt h n).m]? = h[(gbAt h n).m]? := List.getElem?_set_ne (fun z => q3 z.symm)
  refine ⟨⟨by rw [e1]; exact ⟨g, rfl⟩, ?_, by rw [e2, hg]; exact q3⟩, e2, ?_⟩
  · rw [e2, hg]
    unfold IsBkAt
    rw [e3]
    exact q2
  · unfold gbk bkAt
    rw [e2, hg, e3]
/-- what comes of a word -/
def gbTry (h : AH) (n : Nat) (w : Str) (c : List Str) (k : Option Int) : AH :=
  let h1 := h.set n (gbO { gbAt h n with asked := if w = "ask" then some (c, k) else none })
  if w = "let" then h1.set (gbAt h n).m (bookO (bkDo (gbk h n) c k)) else h1
theorem sg_tried (q : IsGbAt h n) (w : Str) (c : List Str) (k : Option Int) (hk : canDo (gbk h n) k = true) : f_GuardedBook_tried [.ref n, .str w, plA c, byA k] h = .ok (.str w) (gbTry h n w c k) := by
  obtain ⟨q1, q2, q3⟩ := q.of
  obtain ⟨p1, p2, p3⟩ := set_gb q { gbAt h n with asked := if w = "ask" then some (c, k) else none } rfl
  have hd := sg_done p1 c k (by rw [p3]; exact hk)
  rw [p2, p3] at hd
  have hf : fresh false (byA k) h = .ok (byA k) h := rfl
  have e1 : ex (.fset [1] (.slot 0) "asked" (.ite (.cmp .eq (.slot 1) (.con (.str "ask"))) (.tup (.cons (.slot 2) (.cons (.slot 3) .nil))) (.con .non))) [some (.val (.ref n)), some (.val (.str w)), some (.val (plA c)), some (.val (byA k))] h = .nx [some (.val (.ref n)), some (.val (.str w)), some (.val (plA c)), some (.val (byA k))] (h.set n (gbO { gbAt h n with asked := if w = "ask" then some (c, k) else none })) := by
    have := fset_at (cs := [1]) (o := .slot 0) (f := "asked") (a := .ite (.cmp .eq (.slot 1) (.con (.str "ask"))) (.tup (.cons (.slot 2) (.cons (.slot 3) .nil))) (.con .non)) (e := [some (.val (.ref n)), some (.val (.str w)), some (.val (plA c)), some (.val (byA k))]) (h := h) (h' := h) (d := askA (if w = "ask" then some (c, k) else none)) (by
      by_cases cw : w = "ask"
      · simp [pureI, cw]
      · simp [pureI, cw]) (by simp) q1 rfl (by simp [gbF])
    rw [pf_asked] at this
    exact this
  refine run_of ?_
  show ex i_GuardedBook_tried [some (.val (.ref n)), some (.val (.str w)), some (.val (plA c)), some (.val (byA k))] h = _
  unfold i_GuardedBook_tried gbTry
  rw [ex_seq, e1, seq_nx]
  have hm := meth_gb (m := "done") (tbl := [(1, f_GuardedBook_done)]) p1 isM_done
  by_cases cw : w = "let"
  · simp only [plA_def] at hd
    subst cw
    have : ¬ ("let" : Str) = "ask" := by decide +kernel
    simp only [this, if_false] at hd hm ⊢
    simp [pureI, hm, hd]
  · simp [pureI, cw]
/-- what a guarded book tells of a visit, a go -/
def gbOut (h : AH) (n : Nat) (r : Option (Str × List Str)) (k : List Str → Option Int) : R AV := match r with
  | none => .exc 4 h
  | some p => .ok (.str p.1) (gbTry h n p.1 p.2 (k p.2))
@[simp] theorem gbOut_none (h : AH) (n : Nat) (k : List Str → Option Int) : gbOut h n none k = .exc 4 h := rfl
@[simp] theorem gbOut_some (h : AH) (n : Nat) (p : Str × List Str) (k : List Str → Option Int) : gbOut h n (some p) k = .ok (.str p.1) (gbTry h n p.1 p.2 (k p.2)) := rfl
theorem GB_visit (q : IsGbAt h n) (p : List Str) : f_GuardedBook_visit [.ref n, plA p] h = gbOut h n (verF (gbAt h n).gs (gbk h n).now 7 p) fun _ => none := by
  obtain ⟨q1, q2, q3⟩ := q.of
  have hv := ver_eq (gbAt h n).gs (gbk h n).now p h
  have hm := meth_gb (m := "now") (tbl := [(1, f_GuardedBook_now)]) q isM_now
  have hm2 := meth_gb (m := "tried") (tbl := [(1, f_GuardedBook_tried)]) q isM_tried
  have hn := sg_now q
  simp only [plA_def, pl_def] at hv hn
  unfold f_GuardedBook_visit
  rw [run_eq]
  cases e : verF (gbAt h n).gs (gbk h n).now 7 p with
  | none =>
    rw [e] at hv
    simp [i_GuardedBook_visit, gb_guards q1, hm, hn, hv]
  | some r =>
    obtain ⟨w, c⟩ := r
    rw [e] at hv
    have ht := sg_tried q w c none rfl
    simp only [plA_def, byA_none] at ht
    simp [i_GuardedBook_visit, gb_guards q1, hm, hn, hv, toldA, setTg, setL, hm2, ht]
theorem Bk.at_goto {b : Bk} (ok : b.Ok) {k : Int} (hc : b.can k = true) : atI (b.entries.map plA) ((b.at_ : Int) + k) = some (.tup ((b.goto k).now.map .str)) := by
  have h1 := (Bk.goto_ok ok hc).at1
  have h2 : ((b.at_ : Int) + k) = (((b.goto k).at_ : Nat) : Int) := by
    unfold Bk.can at hc
    simp at hc
    simp [Bk.goto]
    omega
  have h3 : (b.goto k).rows = b.rows := rfl
  have h1 : (b.goto k).at_ < b.rows.length := h1
  rw [h2, Ab.atI_nat]
  unfold Bk.entries Bk.now
  rw [h3]
  simp [h1]
theorem GB_go (q : IsGbAt h n) (k : Int) : f_GuardedBook_go [.ref n, .int k] h = if (gbk h n).can k = true then gbOut h n (verF (gbAt h n).gs (gbk h n).now 7 ((gbk h n).goto k).now) (fun c => if c = ((gbk h n).goto k).now then some k else none) else .exc 1 h := by
  obtain ⟨q1, q2, q3⟩ := q.of
  have hv := ver_eq (gbAt h n).gs (gbk h n).now ((gbk h n).goto k).now h
  have hm := meth_gb (m := "now") (tbl := [(1, f_GuardedBook_now)]) q isM_now
  have hm2 := meth_gb (m := "tried") (tbl := [(1, f_GuardedBook_tried)]) q isM_tried
  have hn := sg_now q
  simp only [plA_def, pl_def] at hv hn
  unfold f_GuardedBook_go
  rw [run_eq]
  by_cases hc : (gbk h n).can k = true
  · rw [if_pos hc]
    have hc' : (bkAt h (gbAt h n).m).can k = true := hc
    have hat : atI ((gbk h n).entries.map plA) (((gbk h n).at_ : Int) + k) = some (plA ((gbk h n).goto k).now) := by
      have h1 := (Bk.goto_ok q2.of.2 hc).at1
      have h2 : (((gbk h n).at_ : Int) + k) = ((((gbk h n).goto k).at_ : Nat) : Int) := by
        unfold Bk.can at hc
        simp at hc
        simp [Bk.goto]
        omega
      have h3 : ((gbk h n).goto k).rows = (gbk h n).rows := rfl
      have h1 : ((gbk h n).goto k).at_ < (gbk h n).rows.length := h1
      rw [h2, Ab.atI_nat]
      unfold Bk.entries Bk.now
      rw [h3]
      simp [h1]
    generalize hp : ((gbk h n).goto k).now = p at *
    have e0 : ex (.ifs (.not (.meth "can_go" [(0, f_Book_can_go)] (.fld [1] (.slot 0) "book") (.cons (.slot 1) .nil))) (.rais 1) .skip) [some (.val (.ref n)), some (.val (.int k)), none, none, none] h = .nx [some (.val (.ref n)), some (.val (.int k)), none, none, none] h := by
      simp [gb_book q1, meth_bk q2, s_can q2, hc']
    have e1 : ex (.asg (.nm 2) (.sub (.meth "entries" [(0, f_Book_entries)] (.fld [1] (.slot 0) "book") .nil) (.bin .add (.meth "number" [(0, f_Book_number)] (.fld [1] (.slot 0) "book") .nil) (.slot 1)))) [some (.val (.ref n)), some (.val (.int k)), none, none, none] h = .nx [some (.val (.ref n)), some (.val (.int k)), some (.val (plA p)), none, none] h := by
      unfold gbk at hat
      simp only [plA_def] at hat
      simp [pureI, gb_book q1, meth_bk q2, s_entries q2, s_number q2, hat]
    show (match ex i_GuardedBook_go [some (.val (.ref n)), some (.val (.int k)), none, none, none] h with | .ret d h => R.ok d h | .nx _ h => .ok .non h | .exc c _ h => .exc c h | _ => .bad) = _
    unfold i_GuardedBook_go
    rw [ex_seq, e0, seq_nx, ex_seq, e1, seq_nx]
    cases e : verF (gbAt h n).gs (gbk h n).now 7 p with
    | none =>
      rw [e] at hv
      simp [gb_guards q1, hm, hn, hv]
    | some r =>
      obtain ⟨w, c⟩ := r
      rw [e] at hv
      have hk : canDo (gbk h n) (if c = p then some k else none) = true := by
        split
        · exact hc
        · rfl
      have ht := sg_tried q w c (if c = p then some k else none) hk
      by_cases cc : c = p
      · rw [if_pos cc] at ht
        simp only [plA_def, byA_some] at ht
        subst cc
        simp [gb_guards q1, hm, hn, hv, toldA, setTg, setL, pureI, hm2, ht]
      · rw [if_neg cc] at ht
        simp only [plA_def, byA_none] at ht
        simp [gb_guards q1, hm, hn, hv, toldA, setTg, setL, pureI, hm2, ht, cc]
  · rw [if_neg hc]
    have hc' : (bkAt h (gbAt h n).m).can k = false := by simpa [gbk] using hc
    simp [i_GuardedBook_go, gb_book q1, meth_bk q2, s_can q2, hc']
theorem GB_answer (q : IsGbAt h n) (y : Bool) (hk : ∀ p k, (gbAt h n).asked = some (p, k) → canDo (gbk h n) k = true) : f_GuardedBook_answer [.ref n, .bl y] h = match (gbAt h n).asked with
    | none => .exc 5 h
    | some (c, k) => .ok (plA (if y = true then bkDo (gbk h n) c k else gbk h n).now) (if y = true then (h.set n (gbO { gbAt h n with asked := none })).set (gbAt h n).m (bookO (bkDo (gbk h n) c k)) else h.set n (gbO { gbAt h n with asked := none })) := by
  obtain ⟨q1, q2, q3⟩ := q.of
  obtain ⟨p1, p2, p3⟩ := set_gb q { gbAt h n with asked := none } rfl
  unfold f_GuardedBook_answer
  rw [run_eq]
  cases e : (gbAt h n).asked with
  | none => simp [i_GuardedBook_answer, gb_asked q1, e]
  | some r =>
    obtain ⟨c, k⟩ := r
    have hk := hk c k e
    have hd := sg_done p1 c k (by rw [p3]; exact hk)
    rw [p2, p3] at hd
    have e2 : ex (.fset [1] (.slot 0) "asked" (.con .non)) [some (.val (.ref n)), some (.val (.bl y)), some (.val (plA c)), some (.val (byA k))] h = .nx [some (.val (.ref n)), some (.val (.bl y)), some (.val (plA c)), some (.val (byA k))] (h.set n (gbO { gbAt h n with asked := none })) := by
      have := fset_at (cs := [1]) (o := .slot 0) (f := "asked") (a := .con .non) (e := [some (.val (.ref n)), some (.val (.bl y)), some (.val (plA c)), some (.val (byA k))]) (h := h) (h' := h) (d := .non) (by simp) (by simp) q1 rfl (by simp [gbF])
      rw [pf_asked] at this
      exact this
    have hm := meth_gb (m := "done") (tbl := [(1, f_GuardedBook_done)]) p1 isM_done
    show (match ex i_GuardedBook_answer [some (.val (.ref n)), some (.val (.bl y)), none, none] h with | .ret d h => R.ok d h | .nx _ h => .ok .non h | .exc c _ h => .exc c h | _ => .bad) = _
    unfold i_GuardedBook_answer
    have e0 : ex (.ifs (.cmp .isn (.fld [1] (.slot 0) "asked") (.con .non)) (.rais 5) .skip) [some (.val (.ref n)), some (.val (.bl y)), none, none] h = .nx [some (.val (.ref n)), some (.val (.bl y)), none, none] h := by
      simp [pureI, gb_asked q1, e]
    have e1 : ex (.asg (.tp [2, 3]) (.fld [1] (.slot 0) "asked")) [some (.val (.ref n)), some (.val (.bl y)), none, none] h = .nx [some (.val (.ref n)), some (.val (.bl y)), some (.val (plA c)), some (.val (byA k))] h := by
      simp [pureI, gb_asked q1, e, setTg, setL]
    rw [ex_seq, e0, seq_nx, ex_seq, e1, seq_nx, ex_seq, e2, seq_nx]
    cases y with
    | false =>
      have hm2 := meth_gb (m := "now") (tbl := [(1, f_GuardedBook_now)]) p1 isM_now
      have hn := sg_now p1
      rw [p3] at hn
      simp only [plA_def] at hn
      simp [hm2, hn]
    | true =>
      obtain ⟨r1, r2, r3⟩ := set_bk p1 (bkDo (gbk h n) c k) (bkDo_ok q2.of.2 c hk)
      rw [p2] at r1 r2 r3
      have hm2 := meth_gb (m := "now") (tbl := [(1, f_GuardedBook_now)]) r1 isM_now
      have hn := sg_now r1
      rw [r3] at hn
      simp only [plA_def] at hn hd
      have e3 : ex (.ifs (.slot 1) (.drop (.meth "done" [(1, f_GuardedBook_done)] (.slot 0) (.cons (.slot 2) (.cons (.slot 3) .nil)))) .skip) [some (.val (.ref n)), some (.val (.bl true)), some (.val (plA c)), some (.val (byA k))] (h.set n (gbO { gbAt h n with asked := none })) = .nx [some (.val (.ref n)), some (.val (.bl true)), some (.val (plA c)), some (.val (byA k))] ((h.set n (gbO { gbAt h n with asked := none })).set (gbAt h n).m (bookO (bkDo (gbk h n) c k))) := by
        simp [hm, hd]
      rw [ex_seq, e3, seq_nx]
      simp [hm2, hn]
theorem GB_init (hn : h[n]? = some (.ins 1 [])) (p : List Str) (m : Int) (hm : 0 ≤ m) (gs : List Grd) : f_GuardedBook_init [.ref n, plA p, .int m, .tup (gs.map gA)] h = .ok .non ((h.set n (gbO ⟨gs, h.length, none⟩)) ++ [bookO ⟨m.toNat, [(p, 0)], 0⟩]) := by
  have hl := bk_lt hn
  unfold f_GuardedBook_init
  rw [run_eq]
  let e : En := [some (.val (.ref n)), some (.val (plA p)), some (.val (.int m)), some (.val (.tup (gs.map gA)))]
  have s1 : ex (.fset [1] (.slot 0) "guards" (.slot 3)) e h = .nx e (h.set n (.ins 1 [("guards", .val (.tup (gs.map gA)))])) := fset_at (by simp [e]) (by simp [e]) hn rfl (by simp)
  have hn1 : (h.set n (.ins 1 [("guards", .val (.tup (gs.map gA)))]))[n]? = some (.ins 1 [("guards", .val (.tup (gs.map gA)))]) := List.getElem?_set_self hl
  have hi := Book_init (h := h.set n (.ins 1 [("guards", .val (.tup (gs.map gA)))]) ++ ([AO.ins 0 []] : AH)) (n := h.length) (by rw [List.getElem?_append_right (by simp)]; simp) p m hm
  have es : (h.set n (.ins 1 [("guards", .val (.tup (gs.map gA)))]) ++ ([AO.ins 0 []] : AH)).set h.length (bookO ⟨m.toNat, [(p, 0)], 0⟩) = h.set n (.ins 1 [("guards", .val (.tup (gs.map gA)))]) ++ [bookO ⟨m.toNat, [(p, 0)], 0⟩] := by
    rw [List.set_append_right _ _ (by simp)]
    simp
  rw [es] at hi
  have s2 : ex (.fset [1] (.slot 0) "book" (.make 0 f_Book_init (.cons (.slot 1) (.cons (.slot 2) .nil)))) e (h.set n (.ins 1 [("guards", .val (.tup (gs.map gA)))])) = .nx e _ := fset_at (n := n) (d := .ref h.length) (h' := h.set n (.ins 1 [("guards", .val (.tup (gs.map gA)))]) ++ [bookO ⟨m.toNat, [(p, 0)], 0⟩]) (by
    simp only [plA_def] at hi
    simp [e, hi, madeR]) (by simp [e]) (by rw [List.getElem?_append_left (by simpa using hl)]; exact hn1) rfl (by simp)
  rw [pf_gb2, List.set_append_left _ _ (by simpa using hl), List.set_set] at s2
  have hn2 : (h.set n (.ins 1 [("guards", .val (.tup (gs.map gA))), ("book", .val (.ref h.length))]) ++ [bookO ⟨m.toNat, [(p, 0)], 0⟩])[n]? = some (.ins 1 [("guards", .val (.tup (gs.map gA))), ("book", .val (.ref h.length))]) := by
    rw [List.getElem?_append_left (by simpa using hl)]
    exact List.getElem?_set_self hl
  have s3 : ex (.fset [1] (.slot 0) "asked" (.con .non)) e (h.set n (.ins 1 [("guards", .val (.tup (gs.map gA))), ("book", .val (.ref h.length))]) ++ [bookO ⟨m.toNat, [(p, 0)], 0⟩]) = .nx e _ := fset_at (d := .non) (h' := (h.set n (.ins 1 [("guards", .val (.tup (gs.map gA))), ("book", .val (.ref h.length))]) ++ [bookO ⟨m.toNat, [(p, 0)], 0⟩])) (by simp) (by simp [e]) hn2 rfl (by simp)
  rw [pf_gb3, List.set_append_left _ _ (by simpa using hl), List.set_set] at s3
  show (match ex i_GuardedBook_init e h with | .ret d h => R.ok d h | .nx _ h => .ok .non h | .exc c _ h => .exc c h | _ => .bad) = _
  unfold i_GuardedBook_init
  rw [ex_seq, s1, seq_nx, ex_seq, s2, seq_nx, s3]
  rfl
/-! with values read off -/
def IsGs (x : AV) : Prop := ∃ gs : List Grd, x = .tup (gs.map gA)
def unGs : AV → List Grd
  | .tup l => l.map unG
  | _ => []
theorem unGs_map (gs : List Grd) : unGs (.tup (gs.map gA)) = gs := by
  show (gs.map gA).map unG = gs
  rw [List.map_map]
  have : unG ∘ gA = id := by funext x; simp
  rw [this, List.map_id]
def IsSay (x : AV) : Prop := ∃ s : Say, x = sayA s
@[simp] theorem isSay_str (s : Str) : IsSay (.str s) := ⟨.inl s, rfl⟩
@[simp] theorem isSay_tup (l : List AV) : IsSay (.tup l) ↔ IsPl (.tup l) := by
  constructor
  · rintro ⟨s, hs⟩
    cases s with
    | inl s => cases hs
    | inr p => exact ⟨p, hs⟩
  · rintro ⟨p, hp⟩; exact ⟨.inr p, hp⟩
@[simp] theorem unSay_str (s : Str) : unSay (.str s) = .inl s := rfl
@[simp] theorem unSay_tup (l : List AV) : unSay (.tup l) = .inr (unPl (.tup l)) := rfl
@[simp] theorem unSay_say (s : Say) : unSay (sayA s) = s := by cases s <;> simp [sayA]
@[simp] theorem isGs_map (gs : List Grd) : IsGs (.tup (gs.map gA)) := ⟨gs, rfl⟩
@[simp] theorem isGs_nil : IsGs (.tup []) := ⟨[], rfl⟩
@[simp] theorem isGs_cons (a b s : AV) (l : List AV) : IsGs (.tup (.tup [a, b, s] :: l)) ↔ IsPl a ∧ IsPl b ∧ IsSay s ∧ IsGs (.tup l) := by
  constructor
  · rintro ⟨gs, hg⟩
    cases gs with
    | nil => cases hg
    | cons g gs =>
      have e := AV.tup.inj hg
      rw [List.map_cons] at e
      obtain ⟨e1, e2⟩ := List.cons.inj e
      unfold gA at e1
      have e1 := AV.tup.inj e1
      simp only [List.cons.injEq, and_true] at e1
      obtain ⟨h1, h2, h3⟩ := e1
      exact ⟨⟨g.1, h1⟩, ⟨g.2.1, h2⟩, ⟨g.2.2, h3⟩, gs, by rw [e2]⟩
  · rintro ⟨⟨p, rfl⟩, ⟨p', rfl⟩, ⟨s, rfl⟩, gs, hg⟩
    refine ⟨(p, p', s) :: gs, ?_⟩
    rw [AV.tup.inj hg]; rfl
@[simp] theorem unGs_nil : unGs (.tup []) = [] := rfl
@[simp] theorem unGs_cons (a b s : AV) (l : List AV) : unGs (.tup (.tup [a, b, s] :: l)) = (unPl a, unPl b, unSay s) :: unGs (.tup l) := rfl
@[simp] theorem unGs_map' (gs : List Grd) : unGs (.tup (gs.map gA)) = gs := unGs_map gs
theorem s_GB_init (q : h[n]? = some (.ins 1 [])) (x y : AV) (hx : IsPl x) (m : Int) (hm : 0 ≤ m) (hy : IsGs y) : f_GuardedBook_init [.ref n, x, .int m, y] h = .ok .non ((h.set n (gbO ⟨unGs y, h.length, none⟩)) ++ [bookO ⟨m.toNat, [(unPl x, 0)], 0⟩]) := by
  obtain ⟨gs, rfl⟩ := hy
  have := GB_init q (unPl x) m hm gs
  rw [plA_def, ← hx.eq] at this
  rw [this, unGs_map]
theorem s_GB_visit (q : IsGbAt h n) (x : AV) (hx : IsPl x) : f_GuardedBook_visit [.ref n, x] h = gbOut h n (verF (gbAt h n).gs (gbk h n).now 7 (unPl x)) fun _ => none := by
  have := GB_visit q (unPl x)
  rw [plA_def, ← hx.eq] at this
  exact this
theorem bk_ok_iff (m : Nat) (r : List (List Str × Int)) (a : Nat) : Bk.Ok ⟨m, r, a⟩ ↔ 0 < m ∧ m ≤ 100 ∧ a < r.length ∧ r.length ≤ m := ⟨fun h => ⟨h.m0, h.m1, h.at1, h.len⟩, fun h => ⟨h.1, h.2.1, h.2.2.1, h.2.2.2⟩⟩
end
end Pr

set_option maxHeartbeats 4000000
/-! PqBook2: books marked, replaced, dropped, tidied. -/
namespace Pr
open PySem L2 Ab
def i_Book_mark : IS :=
  (.fsets [0] (.slot 0) "rows" (.fld [0] (.slot 0) "at") (.tup (.cons (.meth "now" [(0, f_Book_now)] (.slot 0) .nil) (.cons (.slot 1) .nil))))
def f_Book_mark : Sem := runDef 2 i_Book_mark
def i_Book_drop : IS :=
  (.seq (.asg (.nm 2) (.comp .enum (.cons (.fld [0] (.slot 0) "rows") .nil) (.tp [4, 5]) (.or (.cmp .eq (.slot 4) (.fld [0] (.slot 0) "at")) (.cmp .ne (.sli (.sub (.slot 5) (.con (.int 0))) (.con .non) (.bnd (.bi .len (.cons (.slot 1) .nil)))) (.slot 1))) (.slot 4) [4, 5]))
  (.seq (.asg (.nm 3) (.bin .sub (.bi .len (.cons (.fld [0] (.slot 0) "rows") .nil)) (.bi .len (.cons (.slot 2) .nil))))
  (.seq (.fset [0] (.slot 0) "at" (.bm .index (.slot 2) (.cons (.fld [0] (.slot 0) "at") .nil)))
  (.seq (.fown [0] (.slot 0) "rows" (.comp .seq (.cons (.slot 2) .nil) (.nm 4) (.con (.bl true)) (.sub (.fld [0] (.slot 0) "rows") (.slot 4)) [4]))
  (.ret (.slot 3))))))
def f_Book_drop : Sem := runDef 6 i_Book_drop
def b_Book_tidy_1 : IS :=
  (.seq (.ifs (.and (.cmp .ne (.slot 1) (.lst .nil)) (.cmp .eq (.sub (.sub (.slot 1) (.neg (.con (.int 1)))) (.con (.int 0))) (.sub (.slot 4) (.con (.int 0)))))
    (.sets 1 (.neg (.con (.int 1))) (.slot 4))
    (.app 1 (.slot 4)))
  (.ifs (.cmp .eq (.slot 3) (.fld [0] (.slot 0) "at"))
  (.asg (.nm 2) (.bin .sub (.bi .len (.cons (.slot 1) .nil)) (.con (.int 1))))
  .skip))
def i_Book_tidy : IS :=
  (.seq (.own 1 (.lst .nil))
  (.seq (.asg (.nm 2) (.con (.int 0)))
  (.seq (.ffrz [0] 0 "rows")
  (.seq (.fors (.tp [3, 4]) .enum (.cons (.fld [0] (.slot 0) "rows") .nil) b_Book_tidy_1)
  (.seq (.fmov [0] (.slot 0) "rows" 1)
  (.fset [0] (.slot 0) "at" (.slot 2)))))))
def f_Book_tidy : Sem := runDef 5 i_Book_tidy
def i_Book_replace : IS :=
  (.fsets [0] (.slot 0) "rows" (.fld [0] (.slot 0) "at") (.tup (.cons (.slot 1) (.cons (.con (.int 0)) .nil))))
def f_Book_replace : Sem := runDef 2 i_Book_replace
theorem uq_rows (a b c : FV) : uniqF "rows" (bookF a b c) = true := by kernel_rfl
def Bk.mark (b : Bk) (v : Int) : Bk := { b with rows := b.rows.set b.at_ (b.now, v) }
def Bk.replace (b : Bk) (p : List Str) : Bk := { b with rows := b.rows.set b.at_ (p, 0) }
theorem Bk.mark_ok {b : Bk} (ok : b.Ok) (v : Int) : (b.mark v).Ok := ⟨ok.m0, ok.m1, by simpa [Bk.mark] using ok.at1, by simpa [Bk.mark] using ok.len⟩
theorem Bk.replace_ok {b : Bk} (ok : b.Ok) (v : List Str) : (b.replace v).Ok := ⟨ok.m0, ok.m1, by simpa [Bk.replace] using ok.at1, by simpa [Bk.replace] using ok.len⟩
section
variable {h : AH} {n : Nat} {b : Bk}
theorem fsets_at {cs : List Nat} {n : Nat} {f : Str} {h h1 : AH} {c : Nat} {fs : List (Str × FV)} {o k a : IE} {e : En} {d kd cc cc' : AV} (ha : ev false a e h = .ok d h1) (ho : ev false o e h1 = .ok (.ref n) h1) (hn : h1[n]? = some (.ins c fs)) (hc : cs.contains c = true) (hf : lookF f fs = some (.own cc)) (hu : uniqF f fs = true) (hk : ev false k e h1 = .ok kd h1) (hp : putA cc kd d = some cc') :
    ex (.fsets cs o f k a) e h = .nx e (h1.set n (.ins c (putFA f (.own cc') fs))) := by
  show (ev false a e h).thn e _ = _
  rw [ha, thn_ok, ho, thn_ok]
  have q1 : isOwnF cs (.ref n) f h1 = true := by
    unfold isOwnF
    simp only [hn, hc, hf, Bool.and_self]
  rw [if_pos q1, hk, thn_ok]
  have q2 : putFO cs (.ref n) f kd d h1 = some (h1.set n (.ins c (putFA f (.own cc') fs))) := by
    unfold putFO
    simp only [hn, hf, hp]
    rw [if_pos ⟨hc, hu⟩]
    rfl
  rw [q2]
theorem putA_lst (l : List AV) {k : Nat} (hk : k < l.length) (d : AV) : putA (.lst l) (.int (k : Int)) d = some (.lst (l.set k d)) := by
  show (ixN l.length (k : Int)).map (fun j => AV.lst (l.set j d)) = _
  have e : ixN l.length (k : Int) = some k := by
    unfold ixN
    rw [if_pos (by omega), if_pos (by omega), Int.toNat_natCast]
  rw [e]; rfl
theorem Book_mark (hn : h[n]? = some (bookO b)) (ok : b.Ok) (v : Int) : f_Book_mark [.ref n, .int v] h = .ok .non (h.set n (bookO (b.mark v))) := by
  have hm : methOf "now" [(0, f_Book_now)] (.ref n) h = some (n, f_Book_now) := meth_at hn (bk_meth _ _ _).1 rfl
  have h2 := Book_now hn ok
  simp only [plA_def] at h2
  have hat := ok.at1
  have hf := fsets_at (cs := [0]) (o := .slot 0) (f := "rows") (k := .fld [0] (.slot 0) "at") (a := .tup (.cons (.meth "now" [(0, f_Book_now)] (.slot 0) .nil) (.cons (.slot 1) .nil))) (e := [some (.val (.ref n)), some (.val (.int v))]) (h := h) (h1 := h) (d := rowA (b.now, v)) (kd := .int (b.at_ : Int))
    (by simp [pureI, hm, h2, rowA]) (by simp) hn rfl (lk_rows _ _ _) (uq_rows _ _ _) (by simp [bk_at hn]) (putA_lst _ (by simpa using hat) _)
  rw [pf_rows] at hf
  unfold f_Book_mark
  rw [run_eq]
  show (match ex i_Book_mark [some (.val (.ref n)), some (.val (.int v))] h with | .ret d h => R.ok d h | .nx _ h => .ok .non h | .exc c _ h => .exc c h | _ => .bad) = _
  unfold i_Book_mark
  rw [hf, ← List.map_set]
  rfl
theorem Book_replace (hn : h[n]? = some (bookO b)) (ok : b.Ok) (p : List Str) : f_Book_replace [.ref n, plA p] h = .ok .non (h.set n (bookO (b.replace p))) := by
  have hat := ok.at1
  have hf := fsets_at (cs := [0]) (o := .slot 0) (f := "rows") (k := .fld [0] (.slot 0) "at") (a := .tup (.cons (.slot 1) (.cons (.con (.int 0)) .nil))) (e := [some (.val (.ref n)), some (.val (plA p))]) (h := h) (h1 := h) (d := rowA (p, 0)) (kd := .int (b.at_ : Int))
    (by simp [pureI, rowA]) (by simp) hn rfl (lk_rows _ _ _) (uq_rows _ _ _) (by simp [bk_at hn]) (putA_lst _ (by simpa using hat) _)
  rw [pf_rows] at hf
  unfold f_Book_replace
  rw [run_eq]
  show (match ex i_Book_replace [some (.val (.ref n)), some (.val (plA p))] h with | .ret d h => R.ok d h | .nx _ h => .ok .non h | .exc c _ h => .exc c h | _ => .bad) = _
  unfold i_Book_replace
  rw [hf, ← List.map_set]
  rfl
/-! dropped -/
theorem pairL_map {α : Type} (f : α → AV) (l : List α) : pairL (l.map f) = l.zipIdx.map fun p => AV.tup [.int (p.2 : Int), f p.1] := by
  unfold pairL
  apply List.ext_getElem?
  intro i
  simp only [List.getElem?_zipWith, List.getElem?_map, List.length_map, List.getElem?_zipIdx, Nat.zero_add]
  by_cases hi : i < l.length
  · rw [List.getElem?_range hi, List.getElem?_eq_getElem hi]; rfl
  · rw [List.getElem?_eq_none (by simpa using hi), List.getElem?_eq_none (l := l) (by simpa using hi)]; rfl
def Bk.kept (b : Bk) (p : List Str) : List ((List Str × Int) × Nat) := b.rows.zipIdx.filter fun r => decide (r.2 = b.at_) || !u r.1.1 p
def Bk.drop (b : Bk) (p : List Str) : Bk := ⟨b.most, (b.kept p).map (·.1), (b.kept p).findIdx fun r => decide (r.2 = b.at_)⟩
def Bk.gone (b : Bk) (p : List Str) : Nat := b.rows.length - (b.kept p).length
theorem Bk.kept_at {b : Bk} (ok : b.Ok) (p : List Str) : ((b.now, b.marked), b.at_) ∈ b.kept p := by
  unfold Bk.kept
  rw [List.mem_filter]
  refine ⟨?_, by simp⟩
  rw [List.mem_iff_getElem?]
  exact ⟨b.at_, by rw [List.getElem?_zipIdx, b.row ok]; simp⟩
theorem Bk.drop_ok {b : Bk} (ok : b.Ok) (p : List Str) : (b.drop p).Ok := by
  have h0 := ok.len
  have h1 : (b.kept p).length ≤ b.rows.length := by
    unfold Bk.kept
    exact Nat.le_trans (List.length_filter_le _ _) (by rw [List.length_zipIdx]; exact Nat.le_refl _)
  refine ⟨ok.m0, ok.m1, ?_, ?_⟩
  · show (b.kept p).findIdx _ < ((b.kept p).map (·.1)).length
    rw [List.length_map]
    exact List.findIdx_lt_length_of_exists ⟨_, b.kept_at ok p, by simp⟩
  · show ((b.kept p).map (·.1)).length ≤ b.most
    rw [List.length_map]; omega
theorem zip_at {b : Bk} {r : (List Str × Int) × Nat} (hr : r ∈ b.rows.zipIdx) : b.rows[r.2]? = some r.1 := by
  obtain ⟨i, hi⟩ := List.mem_iff_getElem?.mp hr
  rw [List.getElem?_zipIdx] at hi
  cases e : b.rows[i]? with
  | none => rw [e] at hi; cases hi
  | some x => rw [e] at hi; cases hi; simpa using e
theorem Book_drop (hn : h[n]? = some (bookO b)) (ok : b.Ok) (p : List Str) : f_Book_drop [.ref n, plA p] h = .ok (.int (b.gone p : Int)) (h.set n (bookO (b.drop p))) := by
  have hl := bk_lt hn
  have hkl : (b.kept p).length ≤ b.rows.length := by
    unfold Bk.kept
    exact Nat.le_trans (List.length_filter_le _ _) (by rw [List.length_zipIdx]; exact Nat.le_refl _)
  have hr := bk_rows hn
  have ha := fun v => bk_at hn v
  -- which are kept
  have c1 : ev false (.comp .enum (.cons (.fld [0] (.slot 0) "rows") .nil) (.tp [4, 5]) (.or (.cmp .eq (.slot 4) (.fld [0] (.slot 0) "at")) (.cmp .ne (.sli (.sub (.slot 5) (.con (.int 0))) (.con .non) (.bnd (.bi .len (.cons (.slot 1) .nil)))) (.slot 1))) (.slot 4) [4, 5]) [some (.val (.ref n)), some (.val (plA p)), none, none, none, none] h
      = .ok (.lst ((b.kept p).map fun r => .int (r.2 : Int))) h := by
    refine comp_ok (xs := [.lst (b.rows.map rowA)]) (l := b.rows.zipIdx.map fun r => .tup [.int (r.2 : Int), rowA r.1]) (by simp [pureI, hr]) (by show some (pairL _) = _; rw [pairL_map]) ?_
    refine compL_map (fun r : (List Str × Int) × Nat => AV.tup [.int (r.2 : Int), rowA r.1]) (fun r => [some (.val (.ref n)), some (.val (plA p)), none, none, some (.val (.int (r.2 : Int))), some (.val (rowA r.1))]) (fun r => decide (r.2 = b.at_) || !u r.1.1 p) (fun r => .int (r.2 : Int)) b.rows.zipIdx (fun r _ => by simp [wipeE, setTg, setL]) (fun r _ => ?_) (fun r _ _ => by simp)
    have e1 : (decide ((r.2 : Int) = (b.at_ : Int))) = decide (r.2 = b.at_) := by
      by_cases z : r.2 = b.at_
      · simp [z]
      · have : ¬ (r.2 : Int) = b.at_ := by omega
        simp [z, this]
    have e2 : cutA (r.1.1.map AV.str) none (some (p.length : Int)) = (r.1.1.take p.length).map AV.str := by rw [cut_map, cut_to]
    have e3 := eqA_pl (r.1.1.take p.length) p
    rw [eqA_tup] at e3
    by_cases z : r.2 = b.at_
    · have z' : (r.2 : Int) = b.at_ := by omega
      simp [pureI, ha, z, z']
    · have z' : ¬ (r.2 : Int) = b.at_ := by omega
      simp [-List.map_take, -cut_map, -cut_to, pureI, ha, z, z', rowA, e2, e3, u]
  have d1 : ex (.asg (.nm 2) (.comp .enum (.cons (.fld [0] (.slot 0) "rows") .nil) (.tp [4, 5]) (.or (.cmp .eq (.slot 4) (.fld [0] (.slot 0) "at")) (.cmp .ne (.sli (.sub (.slot 5) (.con (.int 0))) (.con .non) (.bnd (.bi .len (.cons (.slot 1) .nil)))) (.slot 1))) (.slot 4) [4, 5])) [some (.val (.ref n)), some (.val (plA p)), none, none, none, none] h
      = .nx [some (.val (.ref n)), some (.val (plA p)), some (.val (.lst ((b.kept p).map fun r => .int (r.2 : Int)))), none, none, none] h := by
    rw [ex_asg, c1]; rfl
  have d2 : ex (.asg (.nm 3) (.bin .sub (.bi .len (.cons (.fld [0] (.slot 0) "rows") .nil)) (.bi .len (.cons (.slot 2) .nil)))) [some (.val (.ref n)), some (.val (plA p)), some (.val (.lst ((b.kept p).map fun r => .int (r.2 : Int)))), none, none, none] h
      = .nx [some (.val (.ref n)), some (.val (plA p)), some (.val (.lst ((b.kept p).map fun r => .int (r.2 : Int)))), some (.val (.int (b.gone p : Int))), none, none] h := by
    have e : (b.rows.length : Int) - ((b.kept p).length : Int) = (b.gone p : Int) := by unfold Bk.gone; omega
    simp [pureI, hr, e]
  have hidx : doBm .index (.lst ((b.kept p).map fun r => .int (r.2 : Int))) [.int (b.at_ : Int)] h = .ok (.int ((b.drop p).at_ : Int)) h := by
    have := index_good good_int (by decide) ((b.kept p).map fun r => (r.2 : Int)) (b.at_ : Int) h
    rw [List.map_map] at this
    have e : (AV.int ∘ fun r : (List Str × Int) × Nat => (r.2 : Int)) = fun r => AV.int (r.2 : Int) := rfl
    rw [e] at this
    rw [this, List.findIdx?_map]
    have e2 : ((fun y => decide (y = (b.at_ : Int))) ∘ fun r : (List Str × Int) × Nat => (r.2 : Int)) = fun r => decide (r.2 = b.at_) := by
      funext r
      show decide ((r.2 : Int) = b.at_) = _
      by_cases z : r.2 = b.at_
      · simp [z]
      · have : ¬ (r.2 : Int) = b.at_ := by omega
        simp [z, this]
    rw [e2]
    have e3 : (b.kept p).findIdx? (fun r => decide (r.2 = b.at_)) = some (b.drop p).at_ := by
      rw [List.findIdx?_eq_some_iff_findIdx_eq]
      have := (Bk.drop_ok ok p).at1
      exact ⟨by simpa [Bk.drop] using this, rfl⟩
    rw [e3]
  let e3 : En := [some (.val (.ref n)), some (.val (plA p)), some (.val (.lst ((b.kept p).map fun r => .int (r.2 : Int)))), some (.val (.int (b.gone p : Int))), none, none]
  have d3 := fset_at (cs := [0]) (o := .slot 0) (f := "at") (a := .bm .index (.slot 2) (.cons (.fld [0] (.slot 0) "at") .nil)) (e := e3) (h := h) (h' := h) (d := .int ((b.drop p).at_ : Int)) (by simp [e3, pureI, ha, hidx]) (by simp [e3]) hn rfl (by simp [bookF])
  rw [pf_at] at d3
  have hn3 : (h.set n (bookO ⟨b.most, b.rows, (b.drop p).at_⟩))[n]? = some (bookO ⟨b.most, b.rows, (b.drop p).at_⟩) := List.getElem?_set_self hl
  have hr3 := bk_rows hn3
  have c4 : ev false (.comp .seq (.cons (.slot 2) .nil) (.nm 4) (.con (.bl true)) (.sub (.fld [0] (.slot 0) "rows") (.slot 4)) [4]) e3 (h.set n (bookO ⟨b.most, b.rows, (b.drop p).at_⟩)) = .ok (.lst ((b.drop p).rows.map rowA)) (h.set n (bookO ⟨b.most, b.rows, (b.drop p).at_⟩)) := by
    have e : (b.drop p).rows.map rowA = (b.kept p).map fun r => rowA r.1 := by
      show ((b.kept p).map (·.1)).map rowA = _
      rw [List.map_map]; rfl
    rw [e]
    refine comp_seq (d := .lst ((b.kept p).map fun r => .int (r.2 : Int))) (fun r : (List Str × Int) × Nat => AV.int (r.2 : Int)) (fun r => rowA r.1) (by simp [e3, pureI]) rfl (by simp [e3]) fun r hr' => ?_
    have hz := zip_at (List.mem_filter.mp hr').1
    simp [e3, pureI, wipeE, hr3, hz]
  have d4 := fown_at (cs := [0]) (o := .slot 0) (f := "rows") c4 rfl (by simp [e3]) hn3 rfl (by simp [bookF])
  rw [pf_rows, List.set_set] at d4
  unfold f_Book_drop
  refine run_of ?_
  show ex i_Book_drop [some (.val (.ref n)), some (.val (plA p)), none, none, none, none] h = _
  unfold i_Book_drop
  rw [ex_seq, d1, seq_nx, ex_seq, d2, seq_nx, ex_seq]
  show RS.seq (ex (.fset [0] (.slot 0) "at" (.bm .index (.slot 2) (.cons (.fld [0] (.slot 0) "at") .nil))) e3 h) _ = _
  rw [d3, seq_nx, ex_seq]
  show RS.seq (ex _ e3 (h.set n (bookO ⟨b.most, b.rows, (b.drop p).at_⟩))) _ = _
  rw [d4, seq_nx]
  rfl
/-! tidied -/
theorem good_row : Good rowA 2 := good_pair good_pl good_int
@[simp] theorem eqL_rows_nil (n : Nat) (l : List (List Str × Int)) : eqL (n + 2) (l.map rowA) [] = some (decide (l = [])) := eqL_map good_row (by omega) l []
@[simp] theorem eqL_rows (n : Nat) (l m : List (List Str × Int)) : eqL (n + 2) (l.map rowA) (m.map rowA) = some (decide (l = m)) := eqL_map good_row (by omega) l m
def tidyStep (a : Nat) (st : List (List Str × Int) × Nat) (r : (List Str × Int) × Nat) : List (List Str × Int) × Nat :=
  let rs := if (st.1.getLast?.map (·.1)) = some r.1.1 then st.1.dropLast ++ [r.1] else st.1 ++ [r.1]
  (rs, if r.2 = a then rs.length - 1 else st.2)
theorem atI_last {α : Type} (l : List α) : atI l (-1) = l.getLast? := by
  unfold atI ixN
  rw [if_neg (by decide)]
  by_cases c : l = []
  · subst c; simp
  · have hp : 0 < l.length := List.length_pos_iff.mpr c
    rw [if_pos (by omega)]
    have e : ((l.length : Int) + -1).toNat = l.length - 1 := by omega
    have e' : (-1 + (l.length : Int)).toNat = l.length - 1 := by omega
    rw [List.getLast?_eq_getElem?]
    simp [e, e']
theorem ixN_last {n : Nat} (h : 0 < n) : ixN n (-1) = some (n - 1) := by
  unfold ixN
  rw [if_neg (by decide), if_pos (by omega)]
  congr 1
  omega
theorem tidy_body {m rf : FV} {a : Nat} (hn : h[n]? = some (.ins 0 (bookF m rf (.val (.int (a : Int)))))) (st : List (List Str × Int) × Nat) (r : (List Str × Int) × Nat) (hst : st.1.length ≤ 1000) (v3 v4 : Option FV) :
    stepF (.tp [3, 4]) b_Book_tidy_1 (.tup [.int (r.2 : Int), rowA r.1]) [some (.val (.ref n)), some (.own (.lst (st.1.map rowA))), some (.val (.int (st.2 : Int))), v3, v4] h
      = .nx [some (.val (.ref n)), some (.own (.lst ((tidyStep a st r).1.map rowA))), some (.val (.int ((tidyStep a st r).2 : Int))), some (.val (.int (r.2 : Int))), some (.val (rowA r.1))] h := by
  obtain ⟨rs, here⟩ := st
  obtain ⟨⟨q, v⟩, k⟩ := r
  have hat : ∀ v, fldV [0] v (.ref n) "at" h = .ok (.int (a : Int)) h := fun v => by rw [fld_val hn rfl (lk_at _ _ _)]; simp
  have hz : (decide ((k : Int) = (a : Int))) = decide (k = a) := by
    by_cases z : k = a
    · simp [z]
    · have : ¬ (k : Int) = a := by omega
      simp [z, this]
  have e0 : stepF (.tp [3, 4]) b_Book_tidy_1 (.tup [.int (k : Int), rowA (q, v)]) [some (.val (.ref n)), some (.own (.lst (rs.map rowA))), some (.val (.int (here : Int))), v3, v4] h = ex b_Book_tidy_1 [some (.val (.ref n)), some (.own (.lst (rs.map rowA))), some (.val (.int (here : Int))), some (.val (.int (k : Int))), some (.val (rowA (q, v)))] h := by
    simp [stepF, setTg, setL]
  rw [e0]
  have s1 : ex (.ifs (.and (.cmp .ne (.slot 1) (.lst .nil)) (.cmp .eq (.sub (.sub (.slot 1) (.neg (.con (.int 1)))) (.con (.int 0))) (.sub (.slot 4) (.con (.int 0))))) (.sets 1 (.neg (.con (.int 1))) (.slot 4)) (.app 1 (.slot 4))) [some (.val (.ref n)), some (.own (.lst (rs.map rowA))), some (.val (.int (here : Int))), some (.val (.int (k : Int))), some (.val (rowA (q, v)))] h
      = .nx [some (.val (.ref n)), some (.own (.lst ((tidyStep a (rs, here) ((q, v), k)).1.map rowA))), some (.val (.int (here : Int))), some (.val (.int (k : Int))), some (.val (rowA (q, v)))] h := by
    rcases List.eq_nil_or_concat rs with rfl | ⟨init, x, rfl⟩
    · simp [pureI, tidyStep, ownLst]
    · obtain ⟨xq, xv⟩ := x
      have hne : ¬ init ++ [(xq, xv)] = [] := by simp
      have ea : eqL 29 ((init ++ [(xq, xv)]).map rowA) [] = some false := by rw [show (29 : Nat) = 27 + 2 from rfl, eqL_rows_nil]; simp
      have eb : atI ((init ++ [(xq, xv)]).map rowA) (-1) = some (rowA (xq, xv)) := by rw [atI_last]; simp
      rw [List.map_append, List.map_cons, List.map_nil] at ea eb
      have ep : ∀ d : AV, putA (.lst (init.map rowA ++ [rowA (xq, xv)])) (.int (-1)) d = some (.lst (init.map rowA ++ [d])) := fun d => by
        show (ixN (init.map rowA ++ [rowA (xq, xv)]).length (-1)).map (fun j => AV.lst ((init.map rowA ++ [rowA (xq, xv)]).set j d)) = _
        rw [ixN_last (by simp)]
        simp
      have hlen : init.length + 1 < 16777216 := by simp at hst; omega
      have ep2 := ep (rowA (q, v))
      simp only [rowA, plA_def] at ea eb ep2
      by_cases c : xq = q
      · subst c
        simp [pureI, ea, eb, ep2, rowA, ownC, tidyStep]
      · have c' : ¬ (some xq = some q) := fun z => c (Option.some.inj z)
        simp [pureI, ea, eb, rowA, ownLst, tidyStep, c, hlen]
  unfold b_Book_tidy_1
  rw [ex_seq, s1, seq_nx]
  by_cases z : k = a
  · have hp : 1 ≤ (tidyStep a (rs, here) ((q, v), k)).1.length := by
      simp only [tidyStep]
      split <;> simp
    have e1 : (((tidyStep a (rs, here) ((q, v), k)).1.length : Int) - 1) = ((tidyStep a (rs, here) ((q, v), k)).2 : Int) := by
      have : (tidyStep a (rs, here) ((q, v), k)).2 = (tidyStep a (rs, here) ((q, v), k)).1.length - 1 := by simp [tidyStep, z]
      omega
    subst z
    simp [pureI, hat, e1]
  · have z' : ¬ (k : Int) = a := by omega
    have e1 : (tidyStep a (rs, here) ((q, v), k)).2 = here := by simp [tidyStep, z]
    simp [pureI, hat, z', e1]
theorem tidy_len (a : Nat) : ∀ (ps : List ((List Str × Int) × Nat)) (st : List (List Str × Int) × Nat), (ps.foldl (tidyStep a) st).1.length ≤ st.1.length + ps.length
  | [], st => Nat.le_refl _
  | r :: ps, st => by
    have := tidy_len a ps (tidyStep a st r)
    have h1 : (tidyStep a st r).1.length ≤ st.1.length + 1 := by
      simp only [tidyStep]
      split <;> simp <;> omega
    rw [List.foldl_cons, List.length_cons]
    omega
theorem tidy_loop {m rf : FV} {a : Nat} (hn : h[n]? = some (.ins 0 (bookF m rf (.val (.int (a : Int)))))) : ∀ (ps : List ((List Str × Int) × Nat)) (st : List (List Str × Int) × Nat), st.1.length + ps.length ≤ 1000 → ∀ v3 v4 : Option FV, ∃ w3 w4,
    forL (stepF (.tp [3, 4]) b_Book_tidy_1) (ps.map fun r => .tup [.int (r.2 : Int), rowA r.1]) [some (.val (.ref n)), some (.own (.lst (st.1.map rowA))), some (.val (.int (st.2 : Int))), v3, v4] h
      = .nx [some (.val (.ref n)), some (.own (.lst ((ps.foldl (tidyStep a) st).1.map rowA))), some (.val (.int ((ps.foldl (tidyStep a) st).2 : Int))), w3, w4] h
  | [], st, _, v3, v4 => ⟨v3, v4, rfl⟩
  | r :: ps, st, hl, v3, v4 => by
    have hl : st.1.length + (ps.length + 1) ≤ 1000 := hl
    have h1 := tidy_len a [r] st
    have h1 : (tidyStep a st r).1.length ≤ st.1.length + 1 := h1
    obtain ⟨w3, w4, ih⟩ := tidy_loop hn ps (tidyStep a st r) (by omega) (some (.val (.int (r.2 : Int)))) (some (.val (rowA r.1)))
    refine ⟨w3, w4, ?_⟩
    rw [List.map_cons, forL_cons, tidy_body hn st r (by omega) v3 v4]
    exact ih
def Bk.tidied (b : Bk) : List (List Str × Int) × Nat := b.rows.zipIdx.foldl (tidyStep b.at_) ([], 0)
def Bk.tidy (b : Bk) : Bk := ⟨b.most, b.tidied.1, b.tidied.2⟩
theorem fmov_at {cs : List Nat} {o : IE} {f : Str} {i n c : Nat} {e : En} {h : AH} {fs : List (Str × FV)} {cc : AV} (hi : ownC e i = some cc) (ho : ev false o e h = .ok (.ref n) h) (hn : h[n]? = some (.ins c fs)) (hc : cs.contains c = true) (hl : fs.length < 1000) : ex (.fmov cs o f i) e h = .nx (e.set i (some .gone)) (h.set n (.ins c (putFA f (.own cc) fs))) := by
  show (match ownC e i with | some c => (ev false o e h).thn e _ | none => .bad : RS) = _
  rw [hi]
  show (ev false o e h).thn e _ = _
  rw [ho, thn_ok, putO_at hn hc hl]
theorem Book_tidy (hn : h[n]? = some (bookO b)) (ok : b.Ok) : f_Book_tidy [.ref n] h = .ok .non (h.set n (bookO b.tidy)) := by
  have hl := bk_lt hn
  have h3 := ok.len
  have h4 := ok.m1
  let h1 : AH := h.set n (.ins 0 (bookF (.val (.int (b.most : Int))) (.val (.lst (b.rows.map rowA))) (.val (.int (b.at_ : Int)))))
  have hn1 : h1[n]? = some (.ins 0 (bookF (.val (.int (b.most : Int))) (.val (.lst (b.rows.map rowA))) (.val (.int (b.at_ : Int))))) := List.getElem?_set_self hl
  have d3 : ex (.ffrz [0] 0 "rows") [some (.val (.ref n)), some (.own (.lst [])), some (.val (.int 0)), none, none] h = .nx [some (.val (.ref n)), some (.own (.lst [])), some (.val (.int 0)), none, none] h1 := by
    show RS.nx _ (frzF [0] (.ref n) "rows" h) = _
    have : frzF [0] (.ref n) "rows" h = h1 := by
      unfold frzF
      simp only [hn, bookO]
      rw [if_pos ⟨rfl, uq_rows _ _ _⟩, lk_rows]
      show h.set n (.ins 0 (putFA "rows" _ _)) = h1
      rw [pf_rows]
    rw [this]
  have hrv : ∀ v, fldV [0] v (.ref n) "rows" h1 = .ok (.lst (b.rows.map rowA)) h1 := fun v => by rw [fld_val hn1 rfl (lk_rows _ _ _)]; simp
  obtain ⟨w3, w4, d4⟩ := tidy_loop hn1 b.rows.zipIdx ([], 0) (by simp; omega) none none
  have d5 : ∀ e1 : En, e1 = [some (.val (.ref n)), some (.own (.lst (b.tidied.1.map rowA))), some (.val (.int (b.tidied.2 : Int))), w3, w4] → ex (.fmov [0] (.slot 0) "rows" 1) e1 h1 = .nx [some (.val (.ref n)), some .gone, some (.val (.int (b.tidied.2 : Int))), w3, w4] (h.set n (bookO ⟨b.most, b.tidied.1, b.at_⟩)) := fun e1 q => by
    subst q
    have := fmov_at (cs := [0]) (o := .slot 0) (f := "rows") (i := 1) (e := [some (.val (.ref n)), some (.own (.lst (b.tidied.1.map rowA))), some (.val (.int (b.tidied.2 : Int))), w3, w4]) (cc := .lst (b.tidied.1.map rowA)) rfl (by simp) hn1 rfl (by simp [bookF])
    rw [pf_rows] at this
    rw [this]
    show RS.nx _ ((h.set n _).set n _) = _
    rw [List.set_set]; rfl
  have hn2 : (h.set n (bookO ⟨b.most, b.tidied.1, b.at_⟩))[n]? = some (bookO ⟨b.most, b.tidied.1, b.at_⟩) := List.getElem?_set_self hl
  have d6 := fset_at (cs := [0]) (o := .slot 0) (f := "at") (a := .slot 2) (e := [some (.val (.ref n)), some .gone, some (.val (.int (b.tidied.2 : Int))), w3, w4]) (h := h.set n (bookO ⟨b.most, b.tidied.1, b.at_⟩)) (h' := h.set n (bookO ⟨b.most, b.tidied.1, b.at_⟩)) (d := .int (b.tidied.2 : Int)) (by simp) (by simp) hn2 rfl (by simp [bookF])
  rw [pf_at, List.set_set] at d6
  unfold f_Book_tidy
  rw [run_eq]
  show (match ex i_Book_tidy [some (.val (.ref n)), none, none, none, none] h with | .ret d h => R.ok d h | .nx _ h => .ok .non h | .exc c _ h => .exc c h | _ => .bad) = _
  unfold i_Book_tidy
  have d1 : ex (.own 1 (.lst .nil)) [some (.val (.ref n)), none, none, none, none] h = .nx [some (.val (.ref n)), some (.own (.lst [])), none, none, none] h := by simp [ownR, isC]
  have d2 : ex (.asg (.nm 2) (.con (.int 0))) [some (.val (.ref n)), some (.own (.lst [])), none, none, none] h = .nx [some (.val (.ref n)), some (.own (.lst [])), some (.val (.int 0)), none, none] h := by simp
  rw [ex_seq, d1, seq_nx, ex_seq, d2, seq_nx, ex_seq, d3, seq_nx, ex_seq]
  rw [for_ok (xs := [.lst (b.rows.map rowA)]) (l := b.rows.zipIdx.map fun r => .tup [.int (r.2 : Int), rowA r.1]) (by simp [pureI, hrv]) (by show some (pairL _) = _; rw [pairL_map])]
  have d4' : forL (stepF (.tp [3, 4]) b_Book_tidy_1) (b.rows.zipIdx.map fun r => .tup [.int (r.2 : Int), rowA r.1]) [some (.val (.ref n)), some (.own (.lst [])), some (.val (.int 0)), none, none] h1 = .nx [some (.val (.ref n)), some (.own (.lst (b.tidied.1.map rowA))), some (.val (.int (b.tidied.2 : Int))), w3, w4] h1 := d4
  rw [d4', seq_nx, ex_seq, d5 _ rfl, seq_nx]
  exact congrArg (fun r : RS => match r with | .ret d h => R.ok d h | .nx _ h => .ok .non h | .exc c _ h => .exc c h | _ => .bad) d6
theorem tidy_inv (b : Bk) : ∀ (ps : List ((List Str × Int) × Nat)) (st : List (List Str × Int) × Nat) (a : Nat), (st.1 = [] → st.2 = 0) → (st.1 ≠ [] → st.2 < st.1.length) → ((ps.foldl (tidyStep a) st).1 = [] → ps = [] ∧ st.1 = []) ∧ ((ps.foldl (tidyStep a) st).1 ≠ [] → (ps.foldl (tidyStep a) st).2 < (ps.foldl (tidyStep a) st).1.length)
  | [], st, a, h1, h2 => ⟨fun e => ⟨rfl, e⟩, h2⟩
  | r :: ps, st, a, h1, h2 => by
    have hl : (tidyStep a st r).1.length ≥ 1 ∧ (tidyStep a st r).1.length ≥ st.1.length := by
      simp only [tidyStep]
      split
      · rename_i e
        have : st.1 ≠ [] := fun z => by rw [z] at e; cases e
        have : 0 < st.1.length := List.length_pos_iff.mpr this
        simp; omega
      · simp
    have hne : (tidyStep a st r).1 ≠ [] := fun z => by rw [z] at hl; simp at hl
    have h3 : (tidyStep a st r).2 < (tidyStep a st r).1.length := by
      have e2 : (tidyStep a st r).2 = if r.2 = a then (tidyStep a st r).1.length - 1 else st.2 := rfl
      rw [e2]
      split
      · omega
      · by_cases c : st.1 = []
        · have := h1 c; omega
        · have := h2 c; omega
    obtain ⟨i1, i2⟩ := tidy_inv b ps (tidyStep a st r) a (fun z => absurd z hne) (fun _ => h3)
    exact ⟨fun e => absurd (i1 e).2 hne, i2⟩
theorem Bk.tidy_ok {b : Bk} (ok : b.Ok) : b.tidy.Ok := by
  have h1 := ok.at1
  have h2 := ok.len
  obtain ⟨i1, i2⟩ := tidy_inv b b.rows.zipIdx ([], 0) b.at_ (fun _ => rfl) (fun h => absurd rfl h)
  have hne : b.tidied.1 ≠ [] := fun z => by
    have e := congrArg List.length (i1 z).1
    rw [List.length_zipIdx, List.length_nil] at e
    omega
  have hl := tidy_len b.at_ b.rows.zipIdx ([], 0)
  refine ⟨ok.m0, ok.m1, i2 hne, ?_⟩
  show b.tidied.1.length ≤ b.most
  have : b.tidied.1.length ≤ 0 + b.rows.zipIdx.length := hl
  rw [List.length_zipIdx] at this
  omega
end
/-! read off the heap -/
section
variable {h : AH} {n : Nat}
theorem s_mark (q : IsBkAt h n) (v : Int) : f_Book_mark [.ref n, .int v] h = .ok .non (h.set n (bookO ((bkAt h n).mark v))) := Book_mark q.of.1 q.of.2 v
theorem s_replace (q : IsBkAt h n) (x : AV) (hx : IsPl x) : f_Book_replace [.ref n, x] h = .ok .non (h.set n (bookO ((bkAt h n).replace (unPl x)))) := by
  have := Book_replace q.of.1 q.of.2 (unPl x)
  rw [plA_def, ← hx.eq] at this
  exact this
theorem s_drop (q : IsBkAt h n) (x : AV) (hx : IsPl x) : f_Book_drop [.ref n, x] h = .ok (.int ((bkAt h n).gone (unPl x) : Int)) (h.set n (bookO ((bkAt h n).drop (unPl x)))) := by
  have := Book_drop q.of.1 q.of.2 (unPl x)
  rw [plA_def, ← hx.eq] at this
  exact this
theorem s_tidy (q : IsBkAt h n) : f_Book_tidy [.ref n] h = .ok .non (h.set n (bookO (bkAt h n).tidy)) := Book_tidy q.of.1 q.of.2
end
end Pr

set_option maxHeartbeats 4000000
/-! PqBook3: what is so of books, in plain words. -/
namespace Pr
open PySem L2 Ab
/-! tidied rows: of rows next to one another with one place the last one -/
def keepLast : List (List Str × Int) → List (List Str × Int)
  | [] => []
  | [x] => [x]
  | x :: y :: r => if x.1 = y.1 then keepLast (y :: r) else x :: keepLast (y :: r)
def tstep (rs : List (List Str × Int)) (r : List Str × Int) : List (List Str × Int) := if rs.getLast?.map (·.1) = some r.1 then rs.dropLast ++ [r] else rs ++ [r]
theorem tstep_eq (a : Nat) (ps : List ((List Str × Int) × Nat)) : ∀ st : List (List Str × Int) × Nat, (ps.foldl (tidyStep a) st).1 = (ps.map (·.1)).foldl tstep st.1 := by
  induction ps with
  | nil => intro st; rfl
  | cons r ps ih => intro st; rw [List.foldl_cons, ih, List.map_cons, List.foldl_cons]; rfl
theorem tfold : ∀ (l : List (List Str × Int)) (rs : List (List Str × Int)) (x : List Str × Int), l.foldl tstep (rs ++ [x]) = rs ++ keepLast (x :: l)
  | [], rs, x => rfl
  | y :: l, rs, x => by
    rw [List.foldl_cons]
    have e : tstep (rs ++ [x]) y = if x.1 = y.1 then rs ++ [y] else (rs ++ [x]) ++ [y] := by
      unfold tstep
      simp
    rw [e]
    by_cases c : x.1 = y.1
    · rw [if_pos c, tfold l rs y]
      unfold keepLast
      rw [if_pos c]
      cases l <;> rfl
    · rw [if_neg c, tfold l (rs ++ [x]) y, List.append_assoc]
      have : keepLast (x :: y :: l) = x :: keepLast (y :: l) := by
        rw [keepLast, if_neg c]
      rw [this]; rfl
theorem tidy_rows (b : Bk) : b.tidy.rows = keepLast b.rows := by
  show (b.rows.zipIdx.foldl (tidyStep b.at_) ([], 0)).1 = _
  rw [tstep_eq]
  have : b.rows.zipIdx.map (·.1) = b.rows := by
    rw [List.zipIdx_map_fst]
  rw [this]
  cases b.rows with
  | nil => rfl
  | cons x l => exact tfold l [] x
/-- by their numbers -/
def endP (l : List (List Str × Int)) (k : Nat) : Bool := decide (k + 1 = l.length) || decide ((l[k + 1]?).map (·.1) ≠ (l[k]?).map (·.1))
theorem keep_idx : ∀ l : List (List Str × Int), keepLast l = ((List.range l.length).filter (endP l)).map fun k => (l[k]?).getD ([], 0)
  | [] => rfl
  | [x] => by simp [keepLast, endP]
  | x :: y :: r => by
    have ih := keep_idx (y :: r)
    have e1 : List.range (x :: y :: r).length = 0 :: (List.range (y :: r).length).map Nat.succ := by
      rw [List.length_cons, List.range_succ_eq_map]
    have e2 : (endP (x :: y :: r)) ∘ Nat.succ = endP (y :: r) := by
      funext k
      show endP (x :: y :: r) (k + 1) = _
      unfold endP
      have : decide (k + 1 + 1 = (x :: y :: r).length) = decide (k + 1 = (y :: r).length) := by simp
      rw [this]
      rfl
    rw [e1]
    have e3 : endP (x :: y :: r) 0 = decide (¬ x.1 = y.1) := by
      unfold endP
      have : ¬ (0 + 1 = (x :: y :: r).length) := by simp
      simp
      exact ⟨Eq.symm, Eq.symm⟩
    have e4 : (((List.range (y :: r).length).map Nat.succ).filter (endP (x :: y :: r))).map (fun k => ((x :: y :: r)[k]?).getD ([], 0)) = keepLast (y :: r) := by
      rw [ih, List.filter_map, List.map_map, e2]
      rfl
    by_cases c : x.1 = y.1
    · have : keepLast (x :: y :: r) = keepLast (y :: r) := by rw [keepLast, if_pos c]
      rw [this, List.filter_cons_of_neg (by rw [e3]; simp [c]), e4]
    · have : keepLast (x :: y :: r) = x :: keepLast (y :: r) := by rw [keepLast, if_neg c]
      rw [this, List.filter_cons_of_pos (by rw [e3]; simp [c]), List.map_cons, e4]
      rfl
theorem Bk.goto_at {b : Bk} {k : Int} {d : Nat} (h : (b.at_ : Int) + k = d) : (b.goto k).at_ = d := by
  simp [Bk.goto]; omega
theorem Bk.can_of {b : Bk} {k : Int} {d : Nat} (h : (b.at_ : Int) + k = d) (hd : d < b.rows.length) : b.can k = true := by
  simp [Bk.can]; omega
@[simp] theorem Bk.goto_rows (b : Bk) (k : Int) : (b.goto k).rows = b.rows := rfl
@[simp] theorem Bk.goto_most (b : Bk) (k : Int) : (b.goto k).most = b.most := rfl
@[simp] theorem Bk.goto_entries (b : Bk) (k : Int) : (b.goto k).entries = b.entries := rfl
@[simp] theorem Bk.mark_at (b : Bk) (v : Int) : (b.mark v).at_ = b.at_ := rfl
@[simp] theorem Bk.mark_most (b : Bk) (v : Int) : (b.mark v).most = b.most := rfl
@[simp] theorem Bk.replace_at (b : Bk) (v : List Str) : (b.replace v).at_ = b.at_ := rfl
@[simp] theorem Bk.mark_len (b : Bk) (v : Int) : (b.mark v).rows.length = b.rows.length := by simp [Bk.mark]
@[simp] theorem Bk.replace_len (b : Bk) (v : List Str) : (b.replace v).rows.length = b.rows.length := by simp [Bk.replace]
/-- a visit at the end of a book that is not full -/
theorem Bk.visit_end {b : Bk} (h : b.at_ + 1 = b.rows.length) (hl : b.rows.length < b.most) (p : List Str) : b.visit p = ⟨b.most, b.rows ++ [(p, 0)], b.rows.length⟩ := by
  unfold Bk.visit
  have e : b.rows.take (b.at_ + 1) = b.rows := by rw [h, List.take_length]
  rw [e]
  have e2 : (b.rows ++ [(p, (0 : Int))]).length - b.most = 0 := by simp; omega
  simp only [e2, List.drop_zero]
  simp
end Pr

set_option maxHeartbeats 4000000
/-! PqFill: the laws' filled books; goes by where they end. -/
namespace Pr
open PySem L2 Ab
def Bk.to (b : Bk) (j : Nat) : Bk := { b with at_ := j }
@[simp] theorem Bk.to_rows (b : Bk) (j : Nat) : (b.to j).rows = b.rows := rfl
@[simp] theorem Bk.to_most (b : Bk) (j : Nat) : (b.to j).most = b.most := rfl
@[simp] theorem Bk.to_at (b : Bk) (j : Nat) : (b.to j).at_ = j := rfl
@[simp] theorem Bk.to_to (b : Bk) (i j : Nat) : (b.to i).to j = b.to j := rfl
@[simp] theorem Bk.to_entries (b : Bk) (j : Nat) : (b.to j).entries = b.entries := rfl
theorem Bk.to_self (b : Bk) : b.to b.at_ = b := rfl
theorem Bk.to_ok {b : Bk} (ok : b.Ok) {j : Nat} (hj : j < b.rows.length) : (b.to j).Ok := ⟨ok.m0, ok.m1, hj, ok.len⟩
theorem Bk.goto_to {b : Bk} {k : Int} {j : Nat} (h : (b.at_ : Int) + k = j) : b.goto k = b.to j := by
  unfold Bk.goto Bk.to
  rw [h]; rfl
theorem s_goto {h : AH} {n : Nat} (q : IsBkAt h n) {k : Int} {j : Nat} (hk : ((bkAt h n).at_ : Int) + k = j) (hj : j < (bkAt h n).rows.length) : f_Book_go [.ref n, .int k] h = .ok (plA ((bkAt h n).to j).now) (h.set n (bookO ((bkAt h n).to j))) := by
  rw [s_go q, if_pos (Bk.can_of hk hj), Bk.goto_to hk]
theorem Bk.to_now (b : Bk) (j : Nat) : (b.to j).now = ((b.rows[j]?).getD ([], 0)).1 := rfl
theorem Bk.to_marked (b : Bk) (j : Nat) : (b.to j).marked = ((b.rows[j]?).getD ([], 0)).2 := rfl
@[simp] theorem eqL_strs_app (n : Nat) (x y : List Str) (a b : Str) : eqL n (x.map .str ++ [.str a]) (y.map .str ++ [.str b]) = some (decide (x ++ [a] = y ++ [b])) := by
  have := eqL_strs n (x ++ [a]) (y ++ [b])
  rw [List.map_append, List.map_append] at this
  exact this
theorem forL_rngI {s : AV → En → AH → RS} (I : Nat → En → AH → Prop) (i : Int) (n : Nat) {e : En} {h : AH} (hs : ∀ j, j < n → ∀ e h, I j e h → ∃ e' h', s (.int (i + (j : Int))) e h = .nx e' h' ∧ I (j + 1) e' h') (q : I 0 e h) : ∃ e' h', forL s (rngL i n) e h = .nx e' h' ∧ I n e' h' := by
  have := forL_lst (s := s) (inj := fun (k : Nat) => AV.int (i + (k : Int))) I (List.range n) (e := e) (h := h) (fun j x hx e h z => by
    have hj : j < n := by have := (List.getElem?_eq_some_iff.mp hx).1; simpa using this
    have hx : x = j := by rw [List.getElem?_range hj] at hx; exact (Option.some.inj hx).symm
    subst hx
    exact hs x hj e h z) q
  rw [List.length_range] at this
  exact this
theorem go1 {b : Bk} (ok : b.Ok) {h : AH} {n i j : Nat} {k : Int} (hn : h[n]? = some (bookO (b.to i))) (hk : (i : Int) + k = j) (hi : i < b.rows.length) (hj : j < b.rows.length) : f_Book_go [.ref n, .int k] h = .ok (plA (b.to j).now) (h.set n (bookO (b.to j))) := by
  have := Book_go hn (Bk.to_ok ok hi) k
  rw [if_pos (Bk.can_of (b := b.to i) (d := j) hk hj), Bk.goto_to (b := b.to i) hk, Bk.to_to] at this
  exact this
theorem ent_to (b : Bk) {j : Nat} (hj : j < b.rows.length) : (b.entries.map plA)[j]? = some (plA (b.to j).now) := by
  unfold Bk.entries
  rw [List.getElem?_map, List.getElem?_map, Bk.to_now, List.getElem?_eq_getElem hj]; rfl
/-- a visit: what is left of the rows -/
theorem Bk.visit_form {b : Bk} (ok : b.Ok) : ∃ R : List (List Str × Int), (∀ p, b.visit p = ⟨b.most, R ++ [(p, 0)], R.length⟩) ∧ (∀ p : List Str, (b.entries.take (b.at_ + 1) ++ [p]).drop ((b.entries.take (b.at_ + 1) ++ [p]).length - b.most) = R.map (·.1) ++ [p]) ∧ (R = [] ∨ ∃ R0, R = R0 ++ [(b.now, b.marked)]) ∧ R.length + 1 ≤ b.most := by
  have h0 := ok.m0
  have h1 := ok.at1
  have h2 := ok.len
  have hr := b.row ok
  have ht : b.rows.take (b.at_ + 1) = b.rows.take b.at_ ++ [(b.now, b.marked)] := by rw [List.take_add_one, hr]; rfl
  have hl : (b.rows.take (b.at_ + 1)).length = b.at_ + 1 := by rw [List.length_take]; omega
  refine ⟨(b.rows.take (b.at_ + 1)).drop (b.at_ + 2 - b.most), fun p => ?_, fun p => ?_, ?_, ?_⟩
  · unfold Bk.visit
    simp only [List.length_append, hl, List.length_cons, List.length_nil]
    rw [List.drop_append_of_le_length (by rw [hl]; omega)]
    simp
  · unfold Bk.entries
    rw [← List.map_take, List.length_append, List.length_map, hl, List.length_cons, List.length_nil, List.drop_append_of_le_length (by rw [List.length_map, hl]; omega), List.map_drop]
  · by_cases c : b.at_ + 2 - b.most ≤ b.at_
    · refine .inr ⟨(b.rows.take b.at_).drop (b.at_ + 2 - b.most), ?_⟩
      rw [ht, List.drop_append_of_le_length (by rw [List.length_take]; omega)]
    · refine .inl ?_
      rw [List.drop_eq_nil_iff, hl]; omega
  · rw [List.length_drop, hl]; omega
def b_l_filled_1 : IS :=
  (.seq (.drop (.meth "visit" [(0, f_Book_visit)] (.slot 2) (.cons (.sli (.call fPlace (.cons (.slot 0) (.cons (.bin .add (.bin .add (.slot 1) (.con (.int 2))) (.bin .mul (.con (.int 6)) (.slot 3))) .nil))) (.con .non) (.bnd (.con (.int 2)))) .nil)))
  (.drop (.meth "mark" [(0, f_Book_mark)] (.slot 2) (.cons (.bin .add (.slot 3) (.con (.int 1))) .nil))))
def i_l_filled : IS :=
  (.seq (.fors (.nm 3) .rng1 (.cons (.call fDrawn (.cons (.slot 0) (.cons (.slot 1) (.cons (.con (.int 8)) .nil)))) .nil) b_l_filled_1)
  (.seq (.asg (.nm 4) (.call fDrawn (.cons (.slot 0) (.cons (.bin .add (.slot 1) (.con (.int 1))) (.cons (.bin .add (.meth "number" [(0, f_Book_number)] (.slot 2) .nil) (.con (.int 1))) .nil)))))
  (.seq (.drop (.meth "go" [(0, f_Book_go)] (.slot 2) (.cons (.bin .sub (.con (.int 0)) (.slot 4)) .nil)))
  (.ret (.slot 2)))))
def f_l_filled : Sem := runDef 5 i_l_filled
def fillP (ns : List Int) (k : Int) (j : Nat) : List Str := (placeV ns (k + 2 + 6 * (j : Int))).take 2
def fillN (ns : List Int) (k : Int) (b : Bk) : Nat → Bk
  | 0 => b
  | j + 1 => ((fillN ns k b j).visit (fillP ns k j)).mark ((j : Int) + 1)
theorem fillN_ok (ns : List Int) (k : Int) {b : Bk} (ok : b.Ok) : ∀ j, (fillN ns k b j).Ok
  | 0 => ok
  | j + 1 => Bk.mark_ok (Bk.visit_ok (fillN_ok ns k ok j) _) _
theorem fillN_most (ns : List Int) (k : Int) (b : Bk) : ∀ j, (fillN ns k b j).most = b.most
  | 0 => rfl
  | j + 1 => fillN_most ns k b j
/-- so far back -/
def fillB (ns : List Int) (k : Int) (b : Bk) : Nat := let c := fillN ns k b (drawn ns k 8).toNat
  ((c.at_ : Int) - drawn ns (k + 1) ((c.at_ : Int) + 1)).toNat
def filled (ns : List Int) (k : Int) (b : Bk) : Bk := (fillN ns k b (drawn ns k 8).toNat).to (fillB ns k b)
theorem fillB_le (ns : List Int) (k : Int) (b : Bk) : fillB ns k b ≤ (fillN ns k b (drawn ns k 8).toNat).at_ := by
  have := drawn_lt (ns := ns) (k := k + 1) (m := ((fillN ns k b (drawn ns k 8).toNat).at_ : Int) + 1) (by omega)
  unfold fillB
  simp only
  omega
theorem filled_ok (ns : List Int) (k : Int) {b : Bk} (ok : b.Ok) : (filled ns k b).Ok := by
  have h := fillN_ok ns k ok (drawn ns k 8).toNat
  have := fillB_le ns k b
  exact Bk.to_ok h (by have := h.at1; omega)
theorem filled_most (ns : List Int) (k : Int) (b : Bk) : (filled ns k b).most = b.most := fillN_most ns k b _
theorem fill_step {ns : List Int} (hl : ns.length ≤ 63) {h : AH} {n : Nat} {b : Bk} (hn : h[n]? = some (bookO b)) (ok : b.Ok) (k : Int) (j : Nat) (v3 : Option FV) :
    stepF (.nm 3) b_l_filled_1 (.int (j : Int)) [some (.val (.scr ns)), some (.val (.int k)), some (.val (.ref n)), v3, none] h = .nx [some (.val (.scr ns)), some (.val (.int k)), some (.val (.ref n)), some (.val (.int (j : Int))), none] (h.set n (bookO ((b.visit (fillP ns k j)).mark ((j : Int) + 1)))) := by
  have hln := bk_lt hn
  have epl := fun a h => place_eq hl a h
  simp only [pl_def] at epl
  have hc : cutA (placeV ns (k + 2 + 6 * (j : Int))) none (some 2) = fillP ns k j := cut_to _ 2
  have h1 := Book_visit hn ok (fillP ns k j)
  have hn1 : (h.set n (bookO (b.visit (fillP ns k j))))[n]? = some (bookO (b.visit (fillP ns k j))) := List.getElem?_set_self hln
  have h2 := Book_mark hn1 (Bk.visit_ok ok _) ((j : Int) + 1)
  have m1 : methOf "visit" [(0, f_Book_visit)] (.ref n) h = some (n, f_Book_visit) := meth_obj hn (bookF_names _ _ _) (by simp)
  have m2 : methOf "mark" [(0, f_Book_mark)] (.ref n) (h.set n (bookO (b.visit (fillP ns k j)))) = some (n, f_Book_mark) := meth_obj hn1 (bookF_names _ _ _) (by simp)
  rw [List.set_set] at h2
  simp only [plA_def] at h1
  rw [step_nm, if_pos (by simp)]
  simp [-List.map_take, b_l_filled_1, pureI, epl, hc, m1, m2, h1, h2]
theorem fill_eq {ns : List Int} (hl : ns.length ≤ 63) {h : AH} {n : Nat} {b : Bk} (hn : h[n]? = some (bookO b)) (ok : b.Ok) (k : Int) : f_l_filled [.scr ns, .int k, .ref n] h = .ok (.ref n) (h.set n (bookO (filled ns k b))) := by
  have hln := bk_lt hn
  have ed := fun k m (hm : 0 < m) h => drawn_eq hl k m hm h
  have d8 := drawn_lt (ns := ns) (k := k) (m := 8) (by decide)
  obtain ⟨ea, ha, qa, w3, rfl, rfl⟩ := forL_rng (s := stepF (.nm 3) b_l_filled_1) (h := h) (e := [some (.val (.scr ns)), some (.val (.int k)), some (.val (.ref n)), none, none])
    (fun j e h' => ∃ w3, e = [some (.val (.scr ns)), some (.val (.int k)), some (.val (.ref n)), w3, none] ∧ h' = h.set n (bookO (fillN ns k b j))) (drawn ns k 8).toNat
    (fun j hj e h' ⟨w3, e1, e2⟩ => by
      subst e1 e2
      have := fill_step hl (h := h.set n (bookO (fillN ns k b j))) (List.getElem?_set_self hln) (fillN_ok ns k ok j) k j w3
      rw [List.set_set] at this
      exact ⟨_, _, this, _, rfl, rfl⟩)
    ⟨none, rfl, by
      obtain ⟨hlt, hv⟩ := List.getElem?_eq_some_iff.mp hn
      show h = h.set n (bookO b)
      rw [← hv, List.set_getElem_self]⟩
  have hle := fillB_le ns k b
  have hc := fillN_ok ns k ok (drawn ns k 8).toNat
  unfold filled
  generalize hB : fillB ns k b = j at *
  have hj : ((fillN ns k b (drawn ns k 8).toNat).at_ : Int) - drawn ns (k + 1) (((fillN ns k b (drawn ns k 8).toNat).at_ : Int) + 1) = j := by
    have := drawn_lt (ns := ns) (k := k + 1) (m := ((fillN ns k b (drawn ns k 8).toNat).at_ : Int) + 1) (by omega)
    rw [← hB]
    unfold fillB
    simp only
    omega
  generalize fillN ns k b (drawn ns k 8).toNat = c at *
  generalize hB2 : drawn ns (k + 1) ((c.at_ : Int) + 1) = dd at *
  have hn1 : (h.set n (bookO c))[n]? = some (bookO c) := List.getElem?_set_self hln
  have h1 := Book_number hn1
  have h2 := Book_go hn1 hc (0 - dd)
  rw [if_pos (Bk.can_of (d := j) (by omega) (by have := hc.at1; omega)), Bk.goto_to (j := j) (by omega), List.set_set] at h2
  have m1 : methOf "number" [(0, f_Book_number)] (.ref n) (h.set n (bookO c)) = some (n, f_Book_number) := meth_obj hn1 (bookF_names _ _ _) (by simp)
  have m2 : methOf "go" [(0, f_Book_go)] (.ref n) (h.set n (bookO c)) = some (n, f_Book_go) := meth_obj hn1 (bookF_names _ _ _) (by simp)
  have e4 := fun h => ed (k + 1) ((c.at_ : Int) + 1) (by omega) h
  rw [hB2] at e4
  refine run_of ?_
  show ex i_l_filled [some (.val (.scr ns)), some (.val (.int k)), some (.val (.ref n)), none, none] h = _
  unfold i_l_filled
  have hr1 : -4611686018427387904 ≤ drawn ns k 8 := by omega
  have hr2 : drawn ns k 8 ≤ 16777216 := by omega
  rw [ex_seq, for_ok (xs := [.int (drawn ns k 8)]) (l := rngL 0 (drawn ns k 8).toNat) (by simp [pureI, ed]) (by simp [itemsA, hr1, hr2]), qa, seq_nx]
  have h2' : f_Book_go [.ref n, .int (-dd)] (h.set n (bookO c)) = .ok (plA (c.to j).now) (h.set n (bookO (c.to j))) := by
    rw [show -dd = 0 - dd by omega]; exact h2
  simp [pureI, m1, m2, h1, h2, h2', e4]
end Pr

set_option maxHeartbeats 4000000
/-! PqTidy: dropped and tidied books, in plain words. -/
namespace Pr
open PySem L2 Ab
abbrev Rw := List Str × Int
theorem keep_fold (l : List Rw) : l.foldl tstep [] = keepLast l := by
  cases l with
  | nil => rfl
  | cons x l => exact tfold l [] x
theorem keep_snoc (l : List Rw) (x : Rw) : keepLast (l ++ [x]) = tstep (keepLast l) x := by
  rw [← keep_fold, List.foldl_append, keep_fold]; rfl
theorem tstep_last (rs : List Rw) (x : Rw) : (tstep rs x).getLast? = some x := by
  unfold tstep
  split <;> simp
theorem take_snoc {l : List Rw} {n : Nat} (h : n < l.length) : l.take (n + 1) = l.take n ++ [l[n]] := by
  rw [List.take_add_one, List.getElem?_eq_getElem h]; rfl
theorem keep_last (l : List Rw) : (keepLast l).getLast? = l.getLast? := by
  by_cases c : l = []
  · subst c; rfl
  · obtain ⟨m, x, rfl⟩ : ∃ m x, l = m ++ [x] := ⟨l.dropLast, l.getLast c, (List.dropLast_concat_getLast c).symm⟩
    rw [keep_snoc, tstep_last]; simp
theorem take_last {l : List Rw} {n : Nat} (h : n < l.length) : (l.take (n + 1)).getLast? = some l[n] := by
  rw [take_snoc h, List.getLast?_concat]
theorem tstep_pl (rs : List Rw) (r : Rw) : (tstep rs r).map (·.1) = if rs.getLast?.map (·.1) = some r.1 then rs.map (·.1) else rs.map (·.1) ++ [r.1] := by
  unfold tstep
  split
  · rename_i e
    have hne : rs ≠ [] := fun z => by rw [z] at e; cases e
    rw [List.getLast?_eq_some_getLast hne] at e
    have e : (rs.getLast hne).1 = r.1 := Option.some.inj e
    have := congrArg (List.map (·.1)) (List.dropLast_concat_getLast hne)
    rw [← this, List.map_append, List.map_append, List.map_cons, List.map_cons, e]
    try simp
  · simp
theorem keep_take {l : List Rw} {n : Nat} (h : n < l.length) : keepLast (l.take (n + 1)) = tstep (keepLast (l.take n)) l[n] := by
  rw [take_snoc h, keep_snoc]
def startP (l : List Rw) (k : Nat) : Bool := decide (k = 0) || decide ((l[k - 1]?).map (·.1) ≠ (l[k]?).map (·.1))
theorem take_cond {l : List Rw} {n : Nat} (h : n < l.length) : ((keepLast (l.take n)).getLast?.map (·.1) = some l[n].1) ↔ startP l n = false := by
  rw [keep_last]
  unfold startP
  cases n with
  | zero => simp
  | succ m =>
    rw [take_last (by omega), List.getElem?_eq_getElem h]
    simp
    rw [List.getElem?_eq_getElem (by omega)]
    simp
    exact ⟨fun e => ⟨(l[m]).2, Prod.ext e rfl⟩, fun ⟨x, e⟩ => by rw [e]⟩
theorem starts_len (l : List Rw) : ∀ n, n ≤ l.length → ((List.range n).filter (startP l)).length = (keepLast (l.take n)).length
  | 0, _ => rfl
  | n + 1, h => by
    have ih := starts_len l n (by omega)
    have hp := congrArg List.length (tstep_pl (keepLast (l.take n)) l[n])
    rw [List.length_map] at hp
    rw [keep_take (by omega), hp, List.range_succ, List.filter_append, List.length_append, ih]
    have hc := take_cond (l := l) (n := n) (by omega)
    by_cases c : startP l n = false
    · rw [if_pos (hc.mpr c), List.length_map]
      simp [c]
    · rw [if_neg (fun z => c (hc.mp z)), List.length_append, List.length_map]
      simp [c]
theorem keep_pref (l : List Rw) (n : Nat) : ∀ d, n + d ≤ l.length → (keepLast (l.take n)).map (·.1) <+: (keepLast (l.take (n + d))).map (·.1)
  | 0, _ => List.prefix_refl _
  | d + 1, h => by
    refine (keep_pref l n d (by omega)).trans ?_
    rw [← Nat.add_assoc, keep_take (by omega), tstep_pl]
    split
    · exact List.prefix_refl _
    · exact List.prefix_append _ _
theorem keep_pos {l : List Rw} (h : l ≠ []) : 0 < (keepLast l).length := by
  have := keep_last l
  rw [List.getLast?_eq_some_getLast h] at this
  cases e : keepLast l with
  | nil => rw [e] at this; cases this
  | cons x r => simp
/-- at the end of what was kept up to an entry lies its place -/
theorem keep_here {l : List Rw} {a : Nat} (h : a < l.length) : ((keepLast l)[(keepLast (l.take (a + 1))).length - 1]?).map (·.1) = some l[a].1 := by
  have hp := keep_pref l (a + 1) (l.length - (a + 1)) (by omega)
  rw [show a + 1 + (l.length - (a + 1)) = l.length by omega, List.take_length] at hp
  have h0 : 0 < (keepLast (l.take (a + 1))).length := keep_pos fun z => by
    have := congrArg List.length z
    rw [List.length_take, List.length_nil] at this
    omega
  have hl := keep_last (l.take (a + 1))
  rw [take_last h, List.getLast?_eq_getElem?] at hl
  obtain ⟨t, ht⟩ := hp
  rw [← List.getElem?_map, ← ht, List.getElem?_append_left (by rw [List.length_map]; omega), List.getElem?_map, hl]
  rfl
theorem keep_le (l : List Rw) (a : Nat) (h : a < l.length) : (keepLast (l.take (a + 1))).length ≤ (keepLast l).length := by
  have hp := keep_pref l (a + 1) (l.length - (a + 1)) (by omega)
  rw [show a + 1 + (l.length - (a + 1)) = l.length by omega, List.take_length] at hp
  have := hp.length_le
  rw [List.length_map, List.length_map] at this
  exact this
/-! no two next to one another -/
def Cl (m : List (List Str)) : Prop := ∀ k, k + 1 < m.length → m[k]? ≠ m[k + 1]?
theorem cl_keep (l : List Rw) : ∀ n, n ≤ l.length → Cl ((keepLast (l.take n)).map (·.1))
  | 0, _ => fun k hk => by simp [keepLast] at hk
  | n + 1, h => by
    have ih := cl_keep l n (by omega)
    rw [keep_take (by omega), tstep_pl]
    by_cases c : (keepLast (l.take n)).getLast?.map (·.1) = some l[n].1
    · rw [if_pos c]; exact ih
    · rw [if_neg c]
      intro k hk
      rw [List.length_append, List.length_cons, List.length_nil] at hk
      simp only [List.length_map] at hk
      by_cases z : k + 1 < (keepLast (l.take n)).length
      · rw [List.getElem?_append_left (by rw [List.length_map]; omega), List.getElem?_append_left (by rw [List.length_map]; omega)]
        exact ih k (by rw [List.length_map]; exact z)
      · have e : k + 1 = (keepLast (l.take n)).length := by omega
        rw [List.getElem?_append_left (by rw [List.length_map]; omega), List.getElem?_append_right (by rw [List.length_map]; omega), List.length_map, ← e, Nat.sub_self]
        intro q
        apply c
        rw [List.getLast?_eq_getElem?, ← e, Nat.add_sub_cancel, ← List.getElem?_map, q]
        rfl
theorem keep_cl : ∀ l : List Rw, Cl (l.map (·.1)) → keepLast l = l
  | [], _ => rfl
  | [x], _ => rfl
  | x :: y :: r, h => by
    have h0 : x.1 ≠ y.1 := fun z => h 0 (by simp) (by simp [z])
    have ih := keep_cl (y :: r) (fun k hk => h (k + 1) (by simpa using hk))
    rw [keepLast, if_neg h0, ih]
theorem cl_take {l : List Rw} (h : Cl (l.map (·.1))) (n : Nat) : Cl ((l.take n).map (·.1)) := by
  intro k hk
  rw [List.length_map, List.length_take] at hk
  have := h k (by rw [List.length_map]; omega)
  rw [List.getElem?_map, List.getElem?_map] at this ⊢
  rw [List.getElem?_take_of_lt (by omega), List.getElem?_take_of_lt (by omega)]
  exact this
/-! tidied -/
theorem zip_take (l : List Rw) {n : Nat} (h : n < l.length) : l.zipIdx.take (n + 1) = l.zipIdx.take n ++ [(l[n], n)] := by
  rw [List.take_add_one, List.getElem?_zipIdx, List.getElem?_eq_getElem h]; simp
theorem tidy_fold (l : List Rw) (a : Nat) (ha : a < l.length) : ∀ n, n ≤ l.length → (l.zipIdx.take n).foldl (tidyStep a) ([], 0) = (keepLast (l.take n), if a < n then (keepLast (l.take (a + 1))).length - 1 else 0)
  | 0, _ => rfl
  | n + 1, h => by
    rw [zip_take l (by omega), List.foldl_append, tidy_fold l a ha n (by omega), keep_take (l := l) (n := n) (by omega)]
    show (tstep (keepLast (l.take n)) l[n], if n = a then (tstep (keepLast (l.take n)) l[n]).length - 1 else (if a < n then (keepLast (l.take (a + 1))).length - 1 else 0)) = _
    by_cases c : n = a
    · subst c
      rw [if_pos rfl, if_pos (by omega), keep_take (by omega)]
    · rw [if_neg c]
      by_cases d : a < n
      · rw [if_pos d, if_pos (by omega)]
      · rw [if_neg d, if_neg (by omega)]
theorem tidy_eq {b : Bk} (ok : b.Ok) : b.tidy = ⟨b.most, keepLast b.rows, (keepLast (b.rows.take (b.at_ + 1))).length - 1⟩ := by
  have h := tidy_fold b.rows b.at_ ok.at1 b.rows.length (Nat.le_refl _)
  rw [List.take_of_length_le (by rw [List.length_zipIdx]; exact Nat.le_refl _), List.take_length, if_pos ok.at1] at h
  unfold Bk.tidy Bk.tidied
  rw [h]
theorem tidy_tidy {b : Bk} (ok : b.Ok) : b.tidy.tidy = b.tidy := by
  have okt := Bk.tidy_ok ok
  have hat := okt.at1
  have hc : Cl (b.tidy.rows.map (·.1)) := by
    rw [tidy_rows]
    have := cl_keep b.rows b.rows.length (Nat.le_refl _)
    rw [List.take_length] at this
    exact this
  rw [tidy_eq okt, keep_cl _ hc, keep_cl _ (cl_take hc _), List.length_take, Nat.min_eq_left (by omega)]
  rfl
/-! dropped -/
theorem kept_all {b : Bk} (ok : b.Ok) {p : List Str} (h : ∀ r ∈ b.rows.zipIdx, r.2 = b.at_ ∨ u r.1.1 p = false) : b.drop p = b ∧ b.gone p = 0 := by
  have e : b.kept p = b.rows.zipIdx := by
    unfold Bk.kept
    rw [List.filter_eq_self]
    intro r hr
    rcases h r hr with z | z <;> simp [z]
  constructor
  · unfold Bk.drop
    rw [e, List.zipIdx_map_fst]
    have : b.rows.zipIdx.findIdx (fun r => decide (r.2 = b.at_)) = b.at_ := by
      rw [List.findIdx_eq (by rw [List.length_zipIdx]; exact ok.at1)]
      refine ⟨by simp, fun j hj => by simp; omega⟩
    rw [this]
  · unfold Bk.gone
    rw [e, List.length_zipIdx]; omega
theorem kept_get {b : Bk} {p : List Str} {k : Nat} {r : Rw × Nat} (h : (b.kept p)[k]? = some r) : b.rows[r.2]? = some r.1 ∧ (r.2 = b.at_ ∨ u r.1.1 p = false) := by
  have hm := List.mem_of_getElem? h
  unfold Bk.kept at hm
  rw [List.mem_filter] at hm
  refine ⟨zip_at hm.1, ?_⟩
  simpa using hm.2
theorem kept_pair (b : Bk) (p : List Str) : (b.kept p).Pairwise fun x y => x.2 < y.2 := by
  unfold Bk.kept
  refine List.Pairwise.filter _ ?_
  rw [List.pairwise_iff_getElem]
  intro i j hi hj hij
  simp
  exact hij
theorem drop_at {b : Bk} (ok : b.Ok) (p : List Str) : (b.kept p)[(b.drop p).at_]? = some ((b.now, b.marked), b.at_) := by
  have h1 := (Bk.drop_ok ok p).at1
  have hl : (b.drop p).rows.length = (b.kept p).length := by simp [Bk.drop]
  have h2 : (b.drop p).at_ < (b.kept p).length := by omega
  have h3 := List.findIdx_getElem (xs := b.kept p) (p := fun r : Rw × Nat => decide (r.2 = b.at_)) (w := h2)
  have h4 : ((b.kept p)[(b.drop p).at_]'h2).2 = b.at_ := of_decide_eq_true h3
  have h5 := (kept_get (List.getElem?_eq_getElem h2)).1
  rw [h4, b.row ok] at h5
  rw [List.getElem?_eq_getElem h2, Option.some.injEq]
  exact Prod.ext (Option.some.inj h5).symm h4
theorem drop_row {b : Bk} (ok : b.Ok) (p : List Str) : (b.drop p).rows[(b.drop p).at_]? = some (b.now, b.marked) := by
  show ((b.kept p).map (·.1))[(b.drop p).at_]? = _
  rw [List.getElem?_map, drop_at ok]; rfl
theorem drop_clean {b : Bk} (ok : b.Ok) (p : List Str) : ∀ r ∈ (b.drop p).rows.zipIdx, r.2 = (b.drop p).at_ ∨ u r.1.1 p = false := by
  intro r hr
  have h := zip_at hr
  have h : ((b.kept p).map (·.1))[r.2]? = some r.1 := h
  rw [List.getElem?_map] at h
  by_cases c : r.2 = (b.drop p).at_
  · exact .inl c
  · refine .inr ?_
    cases e : (b.kept p)[r.2]? with
    | none => rw [e] at h; cases h
    | some x =>
      rw [e] at h
      have hx : x.1 = r.1 := Option.some.inj h
      rcases (kept_get e).2 with z | z
      · exfalso
        have hd := drop_at ok p
        have hp := List.pairwise_iff_getElem.mp (kept_pair b p)
        obtain ⟨l1, e1⟩ := List.getElem?_eq_some_iff.mp e
        obtain ⟨l2, e2⟩ := List.getElem?_eq_some_iff.mp hd
        rcases Nat.lt_or_gt_of_ne c with q | q
        · have := hp _ _ l1 l2 q
          rw [e1, e2, z] at this
          exact Nat.lt_irrefl _ this
        · have := hp _ _ l2 l1 q
          rw [e1, e2, z] at this
          exact Nat.lt_irrefl _ this
      · rw [← hx]; exact z
theorem drop_drop {b : Bk} (ok : b.Ok) (p : List Str) : (b.drop p).drop p = b.drop p ∧ (b.drop p).gone p = 0 := kept_all (Bk.drop_ok ok p) (drop_clean ok p)
end Pr
namespace Pr
open PySem L2 Ab
def NoZ (l : List Rw) : Prop := ∀ r ∈ l, ("zz" : Str) ∉ r.1
theorem placeV_noz (ns : List Int) (k : Int) : ("zz" : Str) ∉ placeV ns k := fun h => by
  unfold placeV at h
  obtain ⟨j, _, e⟩ := List.mem_map.mp h
  have d := drawn_lt (ns := ns) (k := k + 1 + (j : Int)) (m := 3) (by decide)
  generalize drawn ns (k + 1 + (j : Int)) 3 = x at d e
  have : x = 0 ∨ x = 1 ∨ x = 2 := by omega
  rcases this with rfl | rfl | rfl
  all_goals revert e; decide +kernel
theorem noZ_visit {b : Bk} (h : NoZ b.rows) {p : List Str} (hp : ("zz" : Str) ∉ p) : NoZ (b.visit p).rows := by
  intro r hr
  have hr := List.mem_of_mem_drop hr
  rcases List.mem_append.mp hr with z | z
  · exact h r (List.mem_of_mem_take z)
  · rw [List.mem_singleton] at z; subst z; exact hp
theorem noZ_mark {b : Bk} (ok : b.Ok) (h : NoZ b.rows) (v : Int) : NoZ (b.mark v).rows := by
  intro r hr
  have hr : r ∈ b.rows.set b.at_ (b.now, v) := hr
  rcases List.mem_or_eq_of_mem_set hr with z | z
  · exact h r z
  · subst z
    exact h (b.now, b.marked) (List.mem_of_getElem? (b.row ok))
theorem noZ_fill (ns : List Int) (k : Int) {b : Bk} (ok : b.Ok) (h : NoZ b.rows) : ∀ j, NoZ (fillN ns k b j).rows
  | 0 => h
  | j + 1 => noZ_mark (Bk.visit_ok (fillN_ok ns k ok j) _) (noZ_visit (noZ_fill ns k ok h j) fun z => placeV_noz ns _ (List.mem_of_mem_take z)) _
theorem noZ_filled (ns : List Int) (k : Int) {b : Bk} (ok : b.Ok) (h : NoZ b.rows) : NoZ (filled ns k b).rows := noZ_fill ns k ok h _
theorem u_noz {p : List Str} (h : ("zz" : Str) ∉ p) : u p [("zz" : Str)] = false := by
  unfold u
  refine decide_eq_false fun z => h ?_
  have : ("zz" : Str) ∈ p.take [("zz" : Str)].length := by rw [z]; simp
  exact List.mem_of_mem_take this
end Pr

set_option maxHeartbeats 4000000
/-! PqNear: the nearest entry of a place. -/
namespace Pr
open PySem L2 Ab
def i_Book_nearest : IS :=
  (.seq (.asg (.nm 2) (.comp .enum (.cons (.fld [0] (.slot 0) "rows") .nil) (.tp [3, 4]) (.cmp .eq (.sub (.slot 4) (.con (.int 0))) (.slot 1)) (.tup (.cons (.bi .abs (.cons (.bin .sub (.slot 3) (.fld [0] (.slot 0) "at")) .nil)) (.cons (.bin .sub (.slot 3) (.fld [0] (.slot 0) "at")) .nil))) [3, 4]))
  (.ret (.ite (.cmp .ne (.slot 2) (.lst .nil)) (.sub (.bi .minL (.cons (.slot 2) .nil)) (.con (.int 1))) (.con .non))))
def f_Book_nearest : Sem := runDef 5 i_Book_nearest
/-- the least of pairs -/
def leP (x y : Int × Int) : Prop := x.1 < y.1 ∨ (x.1 = y.1 ∧ x.2 ≤ y.2)
theorem leP_refl (x : Int × Int) : leP x x := .inr ⟨rfl, Int.le_refl _⟩
theorem leP_trans {x y z : Int × Int} (h : leP x y) (h' : leP y z) : leP x z := by unfold leP at *; omega
theorem minPr_spec : ∀ (ps : List (Int × Int)) (x : Int × Int), minPr x ps ∈ x :: ps ∧ ∀ y ∈ x :: ps, leP (minPr x ps) y
  | [], x => ⟨List.mem_cons_self, fun y hy => by rw [List.mem_singleton] at hy; subst hy; exact leP_refl _⟩
  | z :: ps, x => by
    obtain ⟨h1, h2⟩ := minPr_spec ps (if z.1 < x.1 ∨ (z.1 = x.1 ∧ z.2 < x.2) then z else x)
    have e : minPr x (z :: ps) = minPr (if z.1 < x.1 ∨ (z.1 = x.1 ∧ z.2 < x.2) then z else x) ps := rfl
    rw [e]
    by_cases c : z.1 < x.1 ∨ (z.1 = x.1 ∧ z.2 < x.2)
    · rw [if_pos c] at h1 h2 ⊢
      refine ⟨List.mem_cons_of_mem _ h1, fun y hy => ?_⟩
      rcases List.mem_cons.mp hy with q | q
      · subst q
        refine leP_trans (h2 z List.mem_cons_self) ?_
        unfold leP; omega
      · exact h2 y q
    · rw [if_neg c] at h1 h2 ⊢
      refine ⟨?_, fun y hy => ?_⟩
      · rcases List.mem_cons.mp h1 with q | q
        · rw [q]; exact List.mem_cons_self
        · exact List.mem_cons_of_mem _ (List.mem_cons_of_mem _ q)
      · rcases List.mem_cons.mp hy with q | q
        · subst q; exact h2 y List.mem_cons_self
        · rcases List.mem_cons.mp q with q | q
          · subst q
            refine leP_trans (h2 x List.mem_cons_self) ?_
            unfold leP; omega
          · exact h2 y (List.mem_cons_of_mem _ q)
def farP (a k : Nat) : Int × Int := (if (k : Int) - (a : Int) < 0 then -((k : Int) - (a : Int)) else (k : Int) - (a : Int), (k : Int) - (a : Int))
def Bk.cands (b : Bk) (p : List Str) : List (Int × Int) := (b.rows.zipIdx.filter fun r => decide (r.1.1 = p)).map fun r => farP b.at_ r.2
def Bk.near (b : Bk) (p : List Str) : Option Int := match b.cands p with
  | [] => none
  | x :: ps => some (minPr x ps).2
def nearA : Option Int → AV
  | none => .non
  | some d => .int d
@[simp] theorem nearA_none : nearA none = .non := rfl
@[simp] theorem nearA_some (d : Int) : nearA (some d) = .int d := rfl
theorem Book_nearest {h : AH} {n : Nat} {b : Bk} (hn : h[n]? = some (bookO b)) (p : List Str) : f_Book_nearest [.ref n, plA p] h = .ok (nearA (b.near p)) h := by
  have hr := bk_rows hn
  have ha := fun v => bk_at hn v
  have c1 : ev false (.comp .enum (.cons (.fld [0] (.slot 0) "rows") .nil) (.tp [3, 4]) (.cmp .eq (.sub (.slot 4) (.con (.int 0))) (.slot 1)) (.tup (.cons (.bi .abs (.cons (.bin .sub (.slot 3) (.fld [0] (.slot 0) "at")) .nil)) (.cons (.bin .sub (.slot 3) (.fld [0] (.slot 0) "at")) .nil))) [3, 4]) [some (.val (.ref n)), some (.val (plA p)), none, none, none] h
      = .ok (.lst ((b.cands p).map prA)) h := by
    unfold Bk.cands
    rw [List.map_map]
    refine comp_ok (xs := [.lst (b.rows.map rowA)]) (l := b.rows.zipIdx.map fun r => .tup [.int (r.2 : Int), rowA r.1]) (by simp [pureI, hr]) (by show some (pairL _) = _; rw [pairL_map]) ?_
    refine compL_map (fun r : (List Str × Int) × Nat => AV.tup [.int (r.2 : Int), rowA r.1]) (fun r => [some (.val (.ref n)), some (.val (plA p)), none, some (.val (.int (r.2 : Int))), some (.val (rowA r.1))]) (fun r => decide (r.1.1 = p)) (fun r => prA (farP b.at_ r.2)) b.rows.zipIdx (fun r _ => by simp [wipeE, setTg, setL]) (fun r _ => ?_) (fun r _ _ => ?_)
    · simp [pureI, rowA]
    · simp [pureI, ha, prA, farP]
  refine run_of ?_
  show ex i_Book_nearest [some (.val (.ref n)), some (.val (plA p)), none, none, none] h = _
  unfold i_Book_nearest
  rw [ex_seq_of (e' := [some (.val (.ref n)), some (.val (plA p)), some (.val (.lst ((b.cands p).map prA))), none, none]) (h' := h) (by rw [ex_asg, c1]; rfl)]
  unfold Bk.near
  cases e : b.cands p with
  | nil => simp [pureI]
  | cons x ps =>
    have e0 : prsA ((x :: ps).map prA) = some (x :: ps) := by
      have : ∀ l : List (Int × Int), prsA (l.map prA) = some l := fun l => by
        induction l with
        | nil => rfl
        | cons y l ih =>
          show (prsA (l.map prA)).map _ = _
          rw [ih]; rfl
      exact this _
    have e1 : doBi .minL [.lst ((x :: ps).map prA)] h = .ok (prA (minPr x ps)) h := by
      show (match prsA ((x :: ps).map prA) with | some (x :: r) => R.ok (prA (minPr x r)) h | _ => .bad) = _
      rw [e0]
    have e2 : ∀ n, eqL (n + 2) ((x :: ps).map prA) [] = some false := fun n => by
      have := eqL_map (n := n + 2) (good_pair good_int good_int) (by omega) (x :: ps) []
      have e3 : (fun p : Int × Int => AV.tup [.int p.1, .int p.2]) = prA := rfl
      rw [e3] at this
      rw [List.map_nil] at this
      rw [this]; rfl
    generalize (x :: ps).map prA = L at *
    simp [pureI, e1, e2, prA]
theorem cands_mem {b : Bk} {p : List Str} {y : Int × Int} : y ∈ b.cands p ↔ ∃ k, (b.rows[k]?).map (·.1) = some p ∧ y = farP b.at_ k := by
  unfold Bk.cands
  rw [List.mem_map]
  constructor
  · rintro ⟨r, hr, rfl⟩
    obtain ⟨h1, h2⟩ := List.mem_filter.mp hr
    exact ⟨r.2, by rw [zip_at h1]; exact congrArg some (of_decide_eq_true h2), rfl⟩
  · rintro ⟨k, hk, rfl⟩
    cases e : b.rows[k]? with
    | none => rw [e] at hk; cases hk
    | some x =>
      rw [e] at hk
      refine ⟨(x, k), List.mem_filter.mpr ⟨?_, decide_eq_true (Option.some.inj hk)⟩, rfl⟩
      rw [List.mem_iff_getElem?]
      exact ⟨k, by rw [List.getElem?_zipIdx, e]; simp⟩
theorem near_none {b : Bk} {p : List Str} : b.near p = none ↔ p ∉ b.entries := by
  constructor
  · intro h hm
    unfold Bk.near at h
    obtain ⟨r, hr, e⟩ := List.mem_map.mp hm
    obtain ⟨k, hk⟩ := List.mem_iff_getElem?.mp hr
    have : farP b.at_ k ∈ b.cands p := cands_mem.mpr ⟨k, by rw [hk, ← e]; rfl, rfl⟩
    split at h
    · rename_i q; rw [q] at this; cases this
    · cases h
  · intro h
    unfold Bk.near
    cases e : b.cands p with
    | nil => rfl
    | cons x ps =>
      obtain ⟨k, hk, _⟩ := cands_mem.mp (show x ∈ b.cands p by rw [e]; exact List.mem_cons_self)
      exfalso
      apply h
      cases q : b.rows[k]? with
      | none => rw [q] at hk; cases hk
      | some r =>
        rw [q] at hk
        exact List.mem_map.mpr ⟨r, List.mem_of_getElem? q, Option.some.inj hk⟩
theorem near_some {b : Bk} {p : List Str} {d : Int} (h : b.near p = some d) : ∃ k : Nat, (b.rows[k]?).map (·.1) = some p ∧ d = (k : Int) - (b.at_ : Int) ∧ ∀ j : Nat, (b.rows[j]?).map (·.1) = some p → leP (farP b.at_ k) (farP b.at_ j) := by
  unfold Bk.near at h
  cases e : b.cands p with
  | nil => rw [e] at h; cases h
  | cons x ps =>
    rw [e] at h
    obtain ⟨h1, h2⟩ := minPr_spec ps x
    rw [← e] at h1 h2
    obtain ⟨k, hk, hy⟩ := cands_mem.mp h1
    refine ⟨k, hk, ?_, fun j hj => ?_⟩
    · have := Option.some.inj h
      rw [hy] at this
      exact this.symm
    · rw [← hy]
      exact h2 _ (cands_mem.mpr ⟨j, hj, rfl⟩)
end Pr

set_option autoImplicit true
namespace Lw
open PySem PySem.Spec PyProof.Rows L2 Ab
def top (i : Nat) : Stmt := PySem.Challenge.pw_cardplaces_k10_books.main.body.getD i (.Pass ⟨0, 0, 0, 0⟩)
def tabOf (fns : List (Str × Sem × Nat)) (owns : List (Nat × Nat)) (frz : List ((Nat × Nat) × List Nat)) (ffz : List ((Nat × Nat) × List (Nat × Str))) (clsl : List (Str × Nat × Sem × Nat)) (mths : List (Str × Nat × List (Nat × Sem))) (cids : List Nat) (flds : List Str) (fnx : List (Str × (Nat → AH → Ab.R AV))) (isa : List Nat) (mthN : List (Str × Nat × Nat × Sem)) : Tab := ⟨fns, [], [], ["ValueError", "abs", "bool", "enumerate", "int", "isinstance", "len", "max", "min", "range", "sorted", "tuple"], owns, frz, ffz, cids, flds, clsl, mths, [("NoPlace", 1)], [("BookError", [0, 1, 2, 3, 4])], [0, 1, 2, 3, 4], false, [("ValueError", [0, 1, 2, 3, 4]), ("NoPlace", [1]), ("NoPane", [2]), ("Taken", [3]), ("Round", [4])], fnx, [], [], isa, [], mthN⟩
def tabH (owns : List (Nat × Nat)) (frz : List ((Nat × Nat) × List Nat)) : Tab := ⟨[], [], [], ["ValueError", "abs", "bool", "enumerate", "int", "isinstance", "len", "max", "min", "range", "sorted", "tuple"], owns, frz, [], [], [], [], [], [], [], [0, 1, 2, 3, 4], true, [("ValueError", [0, 1, 2, 3, 4]), ("NoPlace", [1]), ("NoPane", [2]), ("Taken", [3]), ("Round", [4])], [], [], [], [], [], []⟩
abbrev s_l_cell : Stmt := top 9
def n_l_cell : List Str := ["_law_script", "_law_k"]
def i_l_cell : IS :=
  (.seq (.ifs (.cmp .eq (.slot 0) (.lst .nil))
    (.ret (.bin .mul (.con (.int 7)) (.slot 1)))
    .skip)
  (.ret (.bin .add (.sub (.slot 0) (.bin .mod (.slot 1) (.bi .len (.cons (.slot 0) .nil)))) (.bin .mul (.con (.int 6553)) (.bin .fdv (.slot 1) (.bi .len (.cons (.slot 0) .nil)))))))
def f_l_cell : Sem := runDef 2 i_l_cell
abbrev s_l_drawn : Stmt := top 10
def n_l_drawn : List Str := ["_law_script", "_law_k", "_law_many", "_law_cell_here"]
def i_l_drawn : IS :=
  (.seq (.asg (.nm 3) (.bin .mod (.bin .add (.bin .mul (.bin .mod (.call f_l_cell (.cons (.slot 0) (.cons (.slot 1) .nil))) (.con (.int 2147483563))) (.con (.int 69069))) (.bin .mul (.con (.int 104723)) (.bin .add (.slot 1) (.con (.int 1))))) (.con (.int 2147483563))))
  (.seq (.asg (.nm 3) (.bin .mod (.bin .add (.bin .mul (.slot 3) (.slot 3)) (.bin .fdv (.slot 3) (.con (.int 3)))) (.con (.int 2147483399))))
  (.ret (.bin .mod (.bin .fdv (.bin .mod (.bin .add (.bin .mul (.slot 3) (.slot 3)) (.bin .fdv (.slot 3) (.con (.int 7)))) (.con (.int 2147483647))) (.con (.int 11))) (.slot 2)))))
def f_l_drawn : Sem := runDef 4 i_l_drawn
abbrev s_l_place : Stmt := top 11
def n_l_place : List Str := ["_law_script", "_law_at", "_law_k"]
def i_l_place : IS :=
  (.ret (.bi .tuple (.cons (.comp .rng1 (.cons (.call f_l_drawn (.cons (.slot 0) (.cons (.slot 1) (.cons (.con (.int 4)) .nil)))) .nil) (.nm 2) (.con (.bl true)) (.sub (.con (.str "abc")) (.call f_l_drawn (.cons (.slot 0) (.cons (.bin .add (.bin .add (.slot 1) (.con (.int 1))) (.slot 2)) (.cons (.con (.int 3)) .nil))))) [2]) .nil)))
def f_l_place : Sem := runDef 3 i_l_place
abbrev s_Book_init : Stmt := inClass (top 7) 0
def n_Book_init : List Str := ["self", "place", "most"]
def i_Book_init : IS :=
  (.seq (.fset [0] (.slot 0) "most" (.slot 2))
  (.seq (.fown [0] (.slot 0) "rows" (.lst (.cons (.tup (.cons (.slot 1) (.cons (.con (.int 0)) .nil))) .nil)))
  (.fset [0] (.slot 0) "at" (.con (.int 0)))))
def f_Book_init : Sem := runDef 3 i_Book_init
abbrev s_l_done : Stmt := top 14
def n_l_done : List Str := ["_law_rows", "_law_at", "_law_way", "_law_place_here", "_law_number", "_law_most", "_law_found", "_law_here", "_law_row", "_law_k", "_law_is_gone", "_law_is_same"]
def b_l_done_1 : IS :=
  (.seq (.asg (.nm 10) (.and (.cmp .eq (.slot 2) (.con (.int 4))) (.and (.cmp .ne (.slot 9) (.slot 1)) (.cmp .eq (.sli (.sub (.slot 8) (.con (.int 0))) (.con .non) (.bnd (.bi .len (.cons (.slot 3) .nil)))) (.slot 3)))))
  (.seq (.asg (.nm 11) (.and (.cmp .eq (.slot 2) (.con (.int 5))) (.and (.cmp .lt (.bin .add (.slot 9) (.con (.int 1))) (.bi .len (.cons (.slot 0) .nil))) (.cmp .eq (.sub (.sub (.slot 0) (.bin .add (.slot 9) (.con (.int 1)))) (.con (.int 0))) (.sub (.slot 8) (.con (.int 0)))))))
  (.seq (.ifs (.and (.not (.slot 10)) (.not (.slot 11)))
    (.app 6 (.slot 8))
    .skip)
  (.ifs (.and (.cmp .lt (.slot 9) (.slot 1)) (.or (.slot 10) (.slot 11)))
  (.asg (.nm 7) (.bin .sub (.slot 7) (.con (.int 1))))
  .skip))))
def i_l_done : IS :=
  (.seq (.ifs (.cmp .eq (.slot 2) (.con (.int 0)))
    (.seq (.asg (.nm 0) (.sli (.bin .add (.sli (.slot 0) (.con .non) (.bnd (.bin .add (.slot 1) (.con (.int 1))))) (.lst (.cons (.tup (.cons (.slot 3) (.cons (.con (.int 0)) .nil))) .nil))) (.bnd (.neg (.slot 5))) (.con .non)))
      (.ret (.tup (.cons (.slot 0) (.cons (.bin .sub (.bi .len (.cons (.slot 0) .nil)) (.con (.int 1))) (.cons (.con .non) .nil))))))
    .skip)
  (.seq (.ifs (.cmp .inn (.slot 2) (.tup (.cons (.con (.int 1)) (.cons (.con (.int 3)) .nil))))
    (.seq (.asg (.nm 8) (.sub (.lst (.cons (.tup (.cons (.slot 3) (.cons (.con (.int 0)) .nil))) (.cons (.tup (.cons (.sub (.sub (.slot 0) (.slot 1)) (.con (.int 0))) (.cons (.slot 4) .nil))) .nil))) (.bi .int (.cons (.cmp .eq (.slot 2) (.con (.int 3))) .nil))))
      (.ret (.tup (.cons (.bin .add (.bin .add (.sli (.slot 0) (.con .non) (.bnd (.slot 1))) (.lst (.cons (.slot 8) .nil))) (.sli (.slot 0) (.bnd (.bin .add (.slot 1) (.con (.int 1)))) (.con .non))) (.cons (.slot 1) (.cons (.con .non) .nil))))))
    .skip)
  (.seq (.ifs (.cmp .eq (.slot 2) (.con (.int 2)))
    (.seq (.ifs (.not (.chain .le .lt (.con (.int 0)) (.bin .add (.slot 1) (.slot 4)) (.bi .len (.cons (.slot 0) .nil))))
        (.ret (.tup (.cons (.slot 0) (.cons (.slot 1) (.cons (.tup (.cons (.con (.str "refused")) (.cons (.con (.int 0)) .nil))) .nil)))))
        .skip)
      (.ret (.tup (.cons (.slot 0) (.cons (.bin .add (.slot 1) (.slot 4)) (.cons (.sub (.sub (.slot 0) (.bin .add (.slot 1) (.slot 4))) (.con (.int 0))) .nil))))))
    .skip)
  (.seq (.own 6 (.lst .nil))
  (.seq (.asg (.nm 7) (.slot 1))
  (.seq (.fors (.tp [9, 8]) .enum (.cons (.slot 0) .nil) b_l_done_1)
  (.seq (.frz 6)
  (.ret (.tup (.cons (.slot 6) (.cons (.slot 7) (.cons (.sub (.lst (.cons (.con .non) (.cons (.bin .sub (.bi .len (.cons (.slot 0) .nil)) (.bi .len (.cons (.slot 6) .nil))) .nil))) (.bi .int (.cons (.cmp .eq (.slot 2) (.con (.int 4))) .nil))) .nil))))))))))))
def f_l_done : Sem := runDef 12 i_l_done
abbrev s_x_l_refused : Stmt := top 12
def n_x_l_refused : List Str := ["_law_e", "_law_flags"]
def i_x_l_refused : IS :=
  (.seq (.asg (.nm 1) (.lst (.cons (.isx 0 [1]) (.cons (.isx 0 [2]) (.cons (.isx 0 [3]) .nil)))))
  (.seq (.asg (.nm 1) (.bin .add (.slot 1) (.lst (.cons (.isx 0 [4]) .nil))))
  (.seq (.ifs (.or (.cmp .ne (.bm .count (.slot 1) (.cons (.con (.bl true)) .nil)) (.con (.int 1))) (.not (.isx 0 [0, 1, 2, 3, 4])))
    (.ret (.tup (.cons (.con (.str "refused")) (.cons (.neg (.con (.int 1))) .nil))))
    .skip)
  (.ret (.tup (.cons (.con (.str "refused")) (.cons (.bm .index (.slot 1) (.cons (.con (.bl true)) .nil)) .nil)))))))
def f_x_l_refused : Nat → AH → Ab.R AV := runX 2 i_x_l_refused
abbrev s_Book_visit : Stmt := inClass (top 7) 4
def n_Book_visit : List Str := ["self", "place"]
def i_Book_visit : IS :=
  (.seq (.fown [0] (.slot 0) "rows" (.sli (.bin .add (.sli (.fld [0] (.slot 0) "rows") (.con .non) (.bnd (.bin .add (.fld [0] (.slot 0) "at") (.con (.int 1))))) (.lst (.cons (.tup (.cons (.slot 1) (.cons (.con (.int 0)) .nil))) .nil))) (.bnd (.bin .sub (.con (.int 0)) (.fld [0] (.slot 0) "most"))) (.con .non)))
  (.fset [0] (.slot 0) "at" (.bin .sub (.bi .len (.cons (.fld [0] (.slot 0) "rows") .nil)) (.con (.int 1)))))
def f_Book_visit : Sem := runDef 2 i_Book_visit
abbrev s_Book_replace : Stmt := inClass (top 7) 5
def n_Book_replace : List Str := ["self", "place"]
def i_Book_replace : IS :=
  (.fsets [0] (.slot 0) "rows" (.fld [0] (.slot 0) "at") (.tup (.cons (.slot 1) (.cons (.con (.int 0)) .nil))))
def f_Book_replace : Sem := runDef 2 i_Book_replace
abbrev s_Book_can_go : Stmt := inClass (top 7) 6
def n_Book_can_go : List Str := ["self", "by"]
def i_Book_can_go : IS :=
  (.ret (.chain .le .lt (.con (.int 0)) (.bin .add (.fld [0] (.slot 0) "at") (.slot 1)) (.bi .len (.cons (.fld [0] (.slot 0) "rows") .nil))))
def f_Book_can_go : Sem := runDef 2 i_Book_can_go
abbrev s_Book_now : Stmt := inClass (top 7) 1
def n_Book_now : List Str := ["self"]
def i_Book_now : IS :=
  (.ret (.sub (.sub (.fld [0] (.slot 0) "rows") (.fld [0] (.slot 0) "at")) (.con (.int 0))))
def f_Book_now : Sem := runDef 1 i_Book_now
abbrev s_Book_go : Stmt := inClass (top 7) 7
def n_Book_go : List Str := ["self", "by"]
def i_Book_go : IS :=
  (.seq (.ifs (.not (.meth "can_go" [(0, f_Book_can_go)] (.slot 0) (.cons (.slot 1) .nil)))
    (.rais 1)
    .skip)
  (.seq (.fset [0] (.slot 0) "at" (.bin .add (.fld [0] (.slot 0) "at") (.slot 1)))
  (.ret (.meth "now" [(0, f_Book_now)] (.slot 0) .nil))))
def f_Book_go : Sem := runDef 2 i_Book_go
abbrev s_Book_mark : Stmt := inClass (top 7) 8
def n_Book_mark : List Str := ["self", "number"]
def i_Book_mark : IS :=
  (.fsets [0] (.slot 0) "rows" (.fld [0] (.slot 0) "at") (.tup (.cons (.meth "now" [(0, f_Book_now)] (.slot 0) .nil) (.cons (.slot 1) .nil))))
def f_Book_mark : Sem := runDef 2 i_Book_mark
abbrev s_Book_drop : Stmt := inClass (top 7) 11
def n_Book_drop : List Str := ["self", "other", "kept", "gone", "at", "row"]
def i_Book_drop : IS :=
  (.seq (.asg (.nm 2) (.comp .enum (.cons (.fld [0] (.slot 0) "rows") .nil) (.tp [4, 5]) (.or (.cmp .eq (.slot 4) (.fld [0] (.slot 0) "at")) (.cmp .ne (.sli (.sub (.slot 5) (.con (.int 0))) (.con .non) (.bnd (.bi .len (.cons (.slot 1) .nil)))) (.slot 1))) (.slot 4) [4, 5]))
  (.seq (.asg (.nm 3) (.bin .sub (.bi .len (.cons (.fld [0] (.slot 0) "rows") .nil)) (.bi .len (.cons (.slot 2) .nil))))
  (.seq (.fset [0] (.slot 0) "at" (.bm .index (.slot 2) (.cons (.fld [0] (.slot 0) "at") .nil)))
  (.seq (.fown [0] (.slot 0) "rows" (.comp .seq (.cons (.slot 2) .nil) (.nm 4) (.con (.bl true)) (.sub (.fld [0] (.slot 0) "rows") (.slot 4)) [4]))
  (.ret (.slot 3))))))
def f_Book_drop : Sem := runDef 6 i_Book_drop
abbrev s_Book_tidy : Stmt := inClass (top 7) 12
def n_Book_tidy : List Str := ["self", "rows", "here", "at", "row"]
def b_Book_tidy_1 : IS :=
  (.seq (.ifs (.and (.cmp .ne (.slot 1) (.lst .nil)) (.cmp .eq (.sub (.sub (.slot 1) (.neg (.con (.int 1)))) (.con (.int 0))) (.sub (.slot 4) (.con (.int 0)))))
    (.sets 1 (.neg (.con (.int 1))) (.slot 4))
    (.app 1 (.slot 4)))
  (.ifs (.cmp .eq (.slot 3) (.fld [0] (.slot 0) "at"))
  (.asg (.nm 2) (.bin .sub (.bi .len (.cons (.slot 1) .nil)) (.con (.int 1))))
  .skip))
def i_Book_tidy : IS :=
  (.seq (.own 1 (.lst .nil))
  (.seq (.asg (.nm 2) (.con (.int 0)))
  (.seq (.ffrz [0] 0 "rows")
  (.seq (.fors (.tp [3, 4]) .enum (.cons (.fld [0] (.slot 0) "rows") .nil) b_Book_tidy_1)
  (.seq (.fmov [0] (.slot 0) "rows" 1)
  (.fset [0] (.slot 0) "at" (.slot 2)))))))
def f_Book_tidy : Sem := runDef 5 i_Book_tidy
abbrev s_l_told : Stmt := top 13
def n_l_told : List Str := ["_law_book", "_law_way", "_law_place_here", "_law_number", "_law_e"]
def i_l_told : IS :=
  (.tryx (.seq (.ifs (.cmp .eq (.slot 1) (.con (.int 0)))
      (.ret (.meth "visit" [(0, f_Book_visit)] (.slot 0) (.cons (.slot 2) .nil)))
      .skip)
    (.seq (.ifs (.cmp .eq (.slot 1) (.con (.int 1)))
      (.ret (.meth "replace" [(0, f_Book_replace)] (.slot 0) (.cons (.slot 2) .nil)))
      .skip)
    (.seq (.ifs (.cmp .eq (.slot 1) (.con (.int 2)))
      (.ret (.meth "go" [(0, f_Book_go)] (.slot 0) (.cons (.slot 3) .nil)))
      .skip)
    (.seq (.ifs (.cmp .eq (.slot 1) (.con (.int 3)))
      (.ret (.meth "mark" [(0, f_Book_mark)] (.slot 0) (.cons (.slot 3) .nil)))
      .skip)
    (.ret (.ite (.cmp .eq (.slot 1) (.con (.int 4))) (.meth "drop" [(0, f_Book_drop)] (.slot 0) (.cons (.slot 2) .nil)) (.meth "tidy" [(0, f_Book_tidy)] (.slot 0) .nil))))))) [0, 1, 2, 3, 4] [0, 1, 2, 3, 4] 4 (.ret (.callx f_x_l_refused 4)))
def f_l_told : Sem := runDef 5 i_l_told
abbrev s_Book_number : Stmt := inClass (top 7) 3
def n_Book_number : List Str := ["self"]
def i_Book_number : IS :=
  (.ret (.fld [0] (.slot 0) "at"))
def f_Book_number : Sem := runDef 1 i_Book_number
abbrev s_Book_entries : Stmt := inClass (top 7) 2
def n_Book_entries : List Str := ["self", "place", "mark"]
def i_Book_entries : IS :=
  (.ret (.comp .seq (.cons (.fld [0] (.slot 0) "rows") .nil) (.tp [1, 2]) (.con (.bl true)) (.slot 1) [1, 2]))
def f_Book_entries : Sem := runDef 3 i_Book_entries
abbrev s_Book_marked : Stmt := inClass (top 7) 9
def n_Book_marked : List Str := ["self"]
def i_Book_marked : IS :=
  (.ret (.sub (.sub (.fld [0] (.slot 0) "rows") (.fld [0] (.slot 0) "at")) (.con (.int 1))))
def f_Book_marked : Sem := runDef 1 i_Book_marked
abbrev s_Book_nearest : Stmt := inClass (top 7) 10
def n_Book_nearest : List Str := ["self", "place", "found", "at", "row"]
def i_Book_nearest : IS :=
  (.seq (.asg (.nm 2) (.comp .enum (.cons (.fld [0] (.slot 0) "rows") .nil) (.tp [3, 4]) (.cmp .eq (.sub (.slot 4) (.con (.int 0))) (.slot 1)) (.tup (.cons (.bi .abs (.cons (.bin .sub (.slot 3) (.fld [0] (.slot 0) "at")) .nil)) (.cons (.bin .sub (.slot 3) (.fld [0] (.slot 0) "at")) .nil))) [3, 4]))
  (.ret (.ite (.cmp .ne (.slot 2) (.lst .nil)) (.sub (.bi .minL (.cons (.slot 2) .nil)) (.con (.int 1))) (.con .non))))
def f_Book_nearest : Sem := runDef 5 i_Book_nearest
abbrev s_law : Stmt := top 15
def n_law : List Str := ["_law_script", "_law_start", "_law_most", "_law_book", "_law_other", "_law_rows", "_law_at", "_law_k", "_law_here", "_law_way", "_law_place_here", "_law_number", "_law_ways", "_law_by", "_law_due", "_law_said", "_law_row", "_law_j", "_law_one"]
def q_0 : IS :=
  (.asg (.nm 1) (.call f_l_place (.cons (.slot 0) (.cons (.con (.int 0)) .nil))))
def q_1 : IS :=
  (.asg (.nm 2) (.bin .add (.con (.int 1)) (.call f_l_drawn (.cons (.slot 0) (.cons (.con (.int 5)) (.cons (.con (.int 6)) .nil))))))
def q_2 : IS :=
  (.asg (.nm 3) (.make 0 f_Book_init (.cons (.slot 1) (.cons (.slot 2) .nil))))
def q_3 : IS :=
  (.asg (.nm 4) (.make 0 f_Book_init (.cons (.slot 1) (.cons (.slot 2) .nil))))
def q_4 : IS :=
  (.asg (.nm 5) (.lst (.cons (.tup (.cons (.slot 1) (.cons (.con (.int 0)) .nil))) .nil)))
def q_5 : IS :=
  (.asg (.nm 6) (.con (.int 0)))
def q_b1_0 : IS :=
  (.asg (.nm 8) (.bin .add (.con (.int 20)) (.bin .mul (.con (.int 12)) (.slot 7))))
def q_b1_1 : IS :=
  (.asg (.nm 9) (.sub (.lst (.cons (.con (.int 0)) (.cons (.con (.int 0)) (.cons (.con (.int 0)) (.cons (.con (.int 1)) (.cons (.con (.int 2)) (.cons (.con (.int 2)) (.cons (.con (.int 2)) (.cons (.con (.int 3)) (.cons (.con (.int 4)) (.cons (.con (.int 5)) .nil))))))))))) (.call f_l_drawn (.cons (.slot 0) (.cons (.slot 8) (.cons (.con (.int 10)) .nil))))))
def q_b1_2 : IS :=
  (.asg (.nm 10) (.sli (.call f_l_place (.cons (.slot 0) (.cons (.bin .add (.slot 8) (.con (.int 1))) .nil))) (.con .non) (.bnd (.con (.int 2)))))
def q_b1_3 : IS :=
  (.asg (.nm 11) (.bin .sub (.call f_l_drawn (.cons (.slot 0) (.cons (.bin .add (.slot 8) (.con (.int 6))) (.cons (.con (.int 7)) .nil)))) (.con (.int 3))))
def q_b1_4 : IS :=
  (.asg (.tp [5, 6, 14]) (.call f_l_done (.cons (.slot 5) (.cons (.slot 6) (.cons (.slot 9) (.cons (.slot 10) (.cons (.slot 11) (.cons (.slot 2) .nil))))))))
def q_b1_5 : IS :=
  (.ifs (.cmp .ne (.call f_l_told (.cons (.slot 3) (.cons (.slot 9) (.cons (.slot 10) (.cons (.slot 11) .nil))))) (.slot 14))
  (.ret (.con (.bl false)))
  .skip)
def q_b1_6 : IS :=
  (.ifs (.or (.cmp .ne (.meth "now" [(0, f_Book_now)] (.slot 3) .nil) (.sub (.sub (.slot 5) (.slot 6)) (.con (.int 0)))) (.or (.cmp .ne (.meth "number" [(0, f_Book_number)] (.slot 3) .nil) (.slot 6)) (.cmp .ne (.meth "entries" [(0, f_Book_entries)] (.slot 3) .nil) (.comp .seq (.cons (.slot 5) .nil) (.nm 16) (.con (.bl true)) (.sub (.slot 16) (.con (.int 0))) [16]))))
  (.ret (.con (.bl false)))
  .skip)
def q_b1_7 : IS :=
  (.asg (.nm 12) (.bi .srt (.cons (.comp .enum (.cons (.slot 5) .nil) (.tp [17, 16]) (.cmp .eq (.sub (.slot 16) (.con (.int 0))) (.slot 10)) (.tup (.cons (.bi .abs (.cons (.bin .sub (.slot 17) (.slot 6)) .nil)) (.cons (.bin .sub (.slot 17) (.slot 6)) .nil))) [17, 16]) .nil)))
def q_b1_8 : IS :=
  (.ifs (.or (.cmp .ne (.meth "marked" [(0, f_Book_marked)] (.slot 3) .nil) (.sub (.sub (.slot 5) (.slot 6)) (.con (.int 1)))) (.cmp .ne (.meth "nearest" [(0, f_Book_nearest)] (.slot 3) (.cons (.slot 10) .nil)) (.sub (.bin .add (.comp .seq (.cons (.slot 12) .nil) (.nm 18) (.con (.bl true)) (.sub (.slot 18) (.con (.int 1))) [18]) (.lst (.cons (.con .non) .nil))) (.con (.int 0)))))
  (.ret (.con (.bl false)))
  .skip)
def b_law_2 : IS :=
  (.seq (.asg (.nm 15) (.meth "can_go" [(0, f_Book_can_go)] (.slot 3) (.cons (.slot 13) .nil)))
  (.ifs (.or (.not (.bi .isBool (.cons (.slot 15) .nil))) (.cmp .ne (.slot 15) (.chain .le .lt (.con (.int 0)) (.bin .add (.slot 6) (.slot 13)) (.bi .len (.cons (.slot 5) .nil)))))
  (.ret (.con (.bl false)))
  .skip))
def q_b1_9 : IS :=
  (.fors (.nm 13) .rng2 (.cons (.neg (.con (.int 4))) (.cons (.con (.int 5)) .nil)) b_law_2)
def r_b1_8 : IS := .seq q_b1_8 q_b1_9
def r_b1_7 : IS := .seq q_b1_7 r_b1_8
def r_b1_6 : IS := .seq q_b1_6 r_b1_7
def r_b1_5 : IS := .seq q_b1_5 r_b1_6
def r_b1_4 : IS := .seq q_b1_4 r_b1_5
def r_b1_3 : IS := .seq q_b1_3 r_b1_4
def r_b1_2 : IS := .seq q_b1_2 r_b1_3
def r_b1_1 : IS := .seq q_b1_1 r_b1_2
def r_b1_0 : IS := .seq q_b1_0 r_b1_1
def b_law_1 : IS :=
  r_b1_0
def q_6 : IS :=
  (.fors (.nm 7) .rng1 (.cons (.bi .max2 (.cons (.con (.int 1)) (.cons (.bi .min2 (.cons (.con (.int 10)) (.cons (.bi .len (.cons (.slot 0) .nil)) .nil))) .nil))) .nil) b_law_1)
def q_7 : IS :=
  (.appN "entries" 0 f_Book_entries (.slot 3) .nil (.con .non))
def q_8 : IS :=
  (.ret (.and (.cmp .eq (.meth "entries" [(0, f_Book_entries)] (.slot 3) .nil) (.comp .seq (.cons (.slot 5) .nil) (.nm 16) (.con (.bl true)) (.sub (.slot 16) (.con (.int 0))) [16])) (.cmp .eq (.meth "entries" [(0, f_Book_entries)] (.slot 4) .nil) (.lst (.cons (.slot 1) .nil)))))
def r_7 : IS := .seq q_7 q_8
def r_6 : IS := .seq q_6 r_7
def r_5 : IS := .seq q_5 r_6
def r_4 : IS := .seq q_4 r_5
def r_3 : IS := .seq q_3 r_4
def r_2 : IS := .seq q_2 r_3
def r_1 : IS := .seq q_1 r_2
def r_0 : IS := .seq q_0 r_1
def i_law : IS :=
  r_0
def f_law : Sem := runDef 19 i_law

def t_l_cell : Tab := tabOf [] [] [] [] [] [] [] [] [] [] []
theorem c_l_cell : compD t_l_cell n_l_cell s_l_cell = some i_l_cell := by kernel_rfl
def p_l_cell : List Str := ["_law_script", "_law_k"]
theorem sc_l_cell : FnScope n_l_cell p_l_cell (defScope s_l_cell) := C8.fnScope_by (by decide +kernel)
def t_l_drawn : Tab := tabOf [("_law_cell", f_l_cell, 2)] [] [] [] [] [] [] [] [] [] []
theorem c_l_drawn : compD t_l_drawn n_l_drawn s_l_drawn = some i_l_drawn := by kernel_rfl
def p_l_drawn : List Str := ["_law_script", "_law_k", "_law_many"]
theorem sc_l_drawn : FnScope n_l_drawn p_l_drawn (defScope s_l_drawn) := C8.fnScope_by (by decide +kernel)
def t_l_place : Tab := tabOf [("_law_drawn", f_l_drawn, 3)] [] [] [] [] [] [] [] [] [] []
theorem c_l_place : compD t_l_place n_l_place s_l_place = some i_l_place := by kernel_rfl
def p_l_place : List Str := ["_law_script", "_law_at"]
theorem sc_l_place : FnScope n_l_place p_l_place (defScope s_l_place) := C8.fnScope_by (by decide +kernel)
def t_Book_init : Tab := tabOf [] [(17, 8)] [] [] [] [] [0] ["most", "rows", "at"] [] [] []
theorem c_Book_init : compD t_Book_init n_Book_init s_Book_init = some i_Book_init := by kernel_rfl
def p_Book_init : List Str := ["self", "place", "most"]
theorem sc_Book_init : FnScope n_Book_init p_Book_init (defScope s_Book_init) := C8.fnScope_by (by decide +kernel)
def t_l_done : Tab := tabOf [] [(115, 4)] [((124, 4), [6])] [] [] [] [] [] [] [] []
theorem c_l_done : compD t_l_done n_l_done s_l_done = some i_l_done := by kernel_rfl
def p_l_done : List Str := ["_law_rows", "_law_at", "_law_way", "_law_place_here", "_law_number", "_law_most"]
theorem sc_l_done : FnScope n_l_done p_l_done (defScope s_l_done) := C8.fnScope_by (by decide +kernel)
def t_x_l_refused : Tab := tabH [] []
theorem c_x_l_refused : compD t_x_l_refused n_x_l_refused s_x_l_refused = some i_x_l_refused := by kernel_rfl
def p_x_l_refused : List Str := ["_law_e"]
theorem sc_x_l_refused : FnScope n_x_l_refused p_x_l_refused (defScope s_x_l_refused) := C8.fnScope_by (by decide +kernel)
def t_Book_visit : Tab := tabOf [] [(30, 8)] [] [] [] [] [0] ["most", "rows", "at"] [] [] []
theorem c_Book_visit : compD t_Book_visit n_Book_visit s_Book_visit = some i_Book_visit := by kernel_rfl
def p_Book_visit : List Str := ["self", "place"]
theorem sc_Book_visit : FnScope n_Book_visit p_Book_visit (defScope s_Book_visit) := C8.fnScope_by (by decide +kernel)
def t_Book_replace : Tab := tabOf [] [] [] [] [] [] [0] ["most", "rows", "at"] [] [] []
theorem c_Book_replace : compD t_Book_replace n_Book_replace s_Book_replace = some i_Book_replace := by kernel_rfl
def p_Book_replace : List Str := ["self", "place"]
theorem sc_Book_replace : FnScope n_Book_replace p_Book_replace (defScope s_Book_replace) := C8.fnScope_by (by decide +kernel)
def t_Book_can_go : Tab := tabOf [] [] [] [] [] [] [0] ["most", "rows", "at"] [] [] []
theorem c_Book_can_go : compD t_Book_can_go n_Book_can_go s_Book_can_go = some i_Book_can_go := by kernel_rfl
def p_Book_can_go : List Str := ["self", "by"]
theorem sc_Book_can_go : FnScope n_Book_can_go p_Book_can_go (defScope s_Book_can_go) := C8.fnScope_by (by decide +kernel)
def t_Book_now : Tab := tabOf [] [] [] [] [] [] [0] ["most", "rows", "at"] [] [] []
theorem c_Book_now : compD t_Book_now n_Book_now s_Book_now = some i_Book_now := by kernel_rfl
def p_Book_now : List Str := ["self"]
theorem sc_Book_now : FnScope n_Book_now p_Book_now (defScope s_Book_now) := C8.fnScope_by (by decide +kernel)
def t_Book_go : Tab := tabOf [] [] [] [] [] [("can_go", 2, [(0, f_Book_can_go)]), ("now", 1, [(0, f_Book_now)])] [0] ["most", "rows", "at"] [] [] []
theorem c_Book_go : compD t_Book_go n_Book_go s_Book_go = some i_Book_go := by kernel_rfl
def p_Book_go : List Str := ["self", "by"]
theorem sc_Book_go : FnScope n_Book_go p_Book_go (defScope s_Book_go) := C8.fnScope_by (by decide +kernel)
def t_Book_mark : Tab := tabOf [] [] [] [] [] [("now", 1, [(0, f_Book_now)])] [0] ["most", "rows", "at"] [] [] []
theorem c_Book_mark : compD t_Book_mark n_Book_mark s_Book_mark = some i_Book_mark := by kernel_rfl
def p_Book_mark : List Str := ["self", "number"]
theorem sc_Book_mark : FnScope n_Book_mark p_Book_mark (defScope s_Book_mark) := C8.fnScope_by (by decide +kernel)
def t_Book_drop : Tab := tabOf [] [(59, 8)] [] [] [] [] [0] ["most", "rows", "at"] [] [] []
theorem c_Book_drop : compD t_Book_drop n_Book_drop s_Book_drop = some i_Book_drop := by kernel_rfl
def p_Book_drop : List Str := ["self", "other"]
theorem sc_Book_drop : FnScope n_Book_drop p_Book_drop (defScope s_Book_drop) := C8.fnScope_by (by decide +kernel)
def t_Book_tidy : Tab := tabOf [] [(63, 8), (72, 8)] [] [((65, 8), [(0, "rows")])] [] [] [0] ["most", "rows", "at"] [] [] []
theorem c_Book_tidy : compD t_Book_tidy n_Book_tidy s_Book_tidy = some i_Book_tidy := by kernel_rfl
def p_Book_tidy : List Str := ["self"]
theorem sc_Book_tidy : FnScope n_Book_tidy p_Book_tidy (defScope s_Book_tidy) := C8.fnScope_by (by decide +kernel)
def t_l_told : Tab := tabOf [] [] [] [] [] [("visit", 2, [(0, f_Book_visit)]), ("replace", 2, [(0, f_Book_replace)]), ("go", 2, [(0, f_Book_go)]), ("mark", 2, [(0, f_Book_mark)]), ("drop", 2, [(0, f_Book_drop)]), ("tidy", 1, [(0, f_Book_tidy)])] [] [] [("_law_refused", f_x_l_refused)] [] []
theorem c_l_told : compD t_l_told n_l_told s_l_told = some i_l_told := by kernel_rfl
def p_l_told : List Str := ["_law_book", "_law_way", "_law_place_here", "_law_number"]
theorem sc_l_told : FnScope n_l_told p_l_told (defScope s_l_told) := C8.fnScope_by (by decide +kernel)
def t_Book_number : Tab := tabOf [] [] [] [] [] [] [0] ["most", "rows", "at"] [] [] []
theorem c_Book_number : compD t_Book_number n_Book_number s_Book_number = some i_Book_number := by kernel_rfl
def p_Book_number : List Str := ["self"]
theorem sc_Book_number : FnScope n_Book_number p_Book_number (defScope s_Book_number) := C8.fnScope_by (by decide +kernel)
def t_Book_entries : Tab := tabOf [] [] [] [] [] [] [0] ["most", "rows", "at"] [] [] []
theorem c_Book_entries : compD t_Book_entries n_Book_entries s_Book_entries = some i_Book_entries := by kernel_rfl
theorem cN_Book_entries : compDN t_Book_entries n_Book_entries s_Book_entries = some (.comp .seq (.cons (.fld [0] (.slot 0) "rows") .nil) (.tp [1, 2]) (.con (.bl true)) (.slot 1) [1, 2]) := by kernel_rfl
def p_Book_entries : List Str := ["self"]
theorem sc_Book_entries : FnScope n_Book_entries p_Book_entries (defScope s_Book_entries) := C8.fnScope_by (by decide +kernel)
def t_Book_marked : Tab := tabOf [] [] [] [] [] [] [0] ["most", "rows", "at"] [] [] []
theorem c_Book_marked : compD t_Book_marked n_Book_marked s_Book_marked = some i_Book_marked := by kernel_rfl
def p_Book_marked : List Str := ["self"]
theorem sc_Book_marked : FnScope n_Book_marked p_Book_marked (defScope s_Book_marked) := C8.fnScope_by (by decide +kernel)
def t_Book_nearest : Tab := tabOf [] [] [] [] [] [] [0] ["most", "rows", "at"] [] [] []
theorem c_Book_nearest : compD t_Book_nearest n_Book_nearest s_Book_nearest = some i_Book_nearest := by kernel_rfl
def p_Book_nearest : List Str := ["self", "place"]
theorem sc_Book_nearest : FnScope n_Book_nearest p_Book_nearest (defScope s_Book_nearest) := C8.fnScope_by (by decide +kernel)
def t_law : Tab := tabOf [("_law_place", f_l_place, 2), ("_law_drawn", f_l_drawn, 3), ("_law_done", f_l_done, 6), ("_law_told", f_l_told, 4)] [] [] [] [("Book", 0, f_Book_init, 3)] [("now", 1, [(0, f_Book_now)]), ("number", 1, [(0, f_Book_number)]), ("entries", 1, [(0, f_Book_entries)]), ("marked", 1, [(0, f_Book_marked)]), ("nearest", 2, [(0, f_Book_nearest)]), ("can_go", 2, [(0, f_Book_can_go)])] [] [] [] [] [("entries", 1, 0, f_Book_entries)]
theorem c_law : compD t_law n_law s_law = some i_law := by kernel_rfl
def p_law : List Str := ["_law_script"]
theorem sc_law : FnScope n_law p_law (defScope s_law) := C8.fnScope_by (by decide +kernel)

end Lw
set_option maxHeartbeats 4000000
namespace Lw
open PySem L2 Ab Pr
theorem e_drawn : f_l_drawn = fDrawn := rfl
theorem e_place : f_l_place = fPlace := rfl
theorem m0 : f_Book_init = Pr.f_Book_init := rfl
theorem m1 : f_Book_visit = Pr.f_Book_visit := rfl
theorem m2 : f_Book_replace = Pr.f_Book_replace := rfl
theorem m3 : f_Book_go = Pr.f_Book_go := rfl
theorem m4 : f_Book_mark = Pr.f_Book_mark := rfl
theorem m5 : f_Book_drop = Pr.f_Book_drop := rfl
theorem m6 : f_Book_tidy = Pr.f_Book_tidy := rfl
theorem m7 : f_Book_now = Pr.f_Book_now := rfl
theorem m8 : f_Book_number = Pr.f_Book_number := rfl
theorem m9 : f_Book_entries = Pr.f_Book_entries := rfl
theorem m10 : f_Book_marked = Pr.f_Book_marked := rfl
theorem m11 : f_Book_nearest = Pr.f_Book_nearest := rfl
theorem m12 : f_Book_can_go = Pr.f_Book_can_go := rfl
abbrev refA : AV := .tup [.str "refused", .int 0]
theorem ref1 (h : AH) : f_x_l_refused 1 h = .ok refA h := by kernel_rfl
/-! what is left of a book, by this law -/
def rw_ (b : Bk) (k : Nat) : Rw := (b.rows[k]?).getD ([], 0)
theorem rw_at {b : Bk} {k : Nat} (h : k < b.rows.length) : b.rows[k]? = some (rw_ b k) := by
  unfold rw_
  rw [List.getElem?_eq_getElem h]; rfl
theorem zip_range (l : List Rw) : l.zipIdx = (List.range l.length).map fun k => ((l[k]?).getD ([], 0), k) := by
  refine List.ext_getElem? fun i => ?_
  rw [List.getElem?_zipIdx, List.getElem?_map]
  by_cases c : i < l.length
  · rw [List.getElem?_range c, List.getElem?_eq_getElem c]
    simp [List.getElem?_eq_getElem c]
  · rw [List.getElem?_eq_none (by omega), List.getElem?_eq_none (by rw [List.length_range]; omega)]
    rfl
def rm (b : Bk) (way : Nat) (p : List Str) (k : Nat) : Bool := if way = 4 then (decide (k ≠ b.at_) && u (rw_ b k).1 p) else (decide (k + 1 < b.rows.length) && decide ((rw_ b (k + 1)).1 = (rw_ b k).1))
def fnd (b : Bk) (way : Nat) (p : List Str) (j : Nat) : List Rw := ((List.range j).filter fun k => !rm b way p k).map (rw_ b)
def cnt (b : Bk) (way : Nat) (p : List Str) (j : Nat) : Nat := ((List.range j).filter fun k => decide (k < b.at_) && rm b way p k).length
theorem fnd_succ (b : Bk) (way : Nat) (p : List Str) (j : Nat) : fnd b way p (j + 1) = if rm b way p j = true then fnd b way p j else fnd b way p j ++ [rw_ b j] := by
  unfold fnd
  rw [List.range_succ, List.filter_append, List.map_append]
  cases c : rm b way p j <;> simp [c]
theorem cnt_succ (b : Bk) (way : Nat) (p : List Str) (j : Nat) : cnt b way p (j + 1) = if j < b.at_ ∧ rm b way p j = true then cnt b way p j + 1 else cnt b way p j := by
  unfold cnt
  rw [List.range_succ, List.filter_append, List.length_append]
  by_cases d : j < b.at_ <;> cases c : rm b way p j <;> simp [c, d]
theorem fnd_len (b : Bk) (way : Nat) (p : List Str) (j : Nat) : (fnd b way p j).length ≤ j := by
  unfold fnd
  rw [List.length_map]
  have := List.length_filter_le (fun k => !rm b way p k) (List.range j)
  rw [List.length_range] at this
  exact this
/-- how many are left ahead of the entry looked at -/
theorem cnt_all {b : Bk} (ok : b.Ok) (way : Nat) (p : List Str) : (b.at_ : Int) - (cnt b way p b.rows.length : Int) = (((List.range b.at_).filter fun k => !rm b way p k).length : Int) := by
  have ha := ok.at1
  obtain ⟨d, hd⟩ : ∃ d, b.rows.length = b.at_ + d := ⟨b.rows.length - b.at_, by omega⟩
  have h1 : ∀ d, cnt b way p (b.at_ + d) = cnt b way p b.at_ := fun d => by
    induction d with
    | zero => rfl
    | succ d ih =>
      rw [← Nat.add_assoc, cnt_succ, if_neg (by omega), ih]
  have h2 : ∀ j, j ≤ b.at_ → cnt b way p j + ((List.range j).filter fun k => !rm b way p k).length = j := fun j => by
    induction j with
    | zero => intro _; rfl
    | succ j ih =>
      intro hj
      have ih := ih (by omega)
      rw [cnt_succ, List.range_succ, List.filter_append, List.length_append]
      cases c : rm b way p j
      · rw [if_neg (by simp)]
        simp [c]; omega
      · rw [if_pos ⟨by omega, rfl⟩]
        simp [c]; omega
  have h3 := h2 b.at_ (Nat.le_refl _)
  rw [hd, h1]
  omega
theorem drop_fnd {b : Bk} (p : List Str) : (b.drop p).rows = fnd b 4 p b.rows.length := by
  show (b.kept p).map (·.1) = _
  unfold Bk.kept fnd
  rw [zip_range, List.filter_map, List.map_map]
  have : (fun r : (List Str × Int) × Nat => r.1) ∘ (fun k => ((b.rows[k]?).getD ([], 0), k)) = rw_ b := rfl
  rw [this]
  congr 1
  refine List.filter_congr fun k hk => ?_
  show (decide (k = b.at_) || !u (rw_ b k).1 p) = !rm b 4 p k
  unfold rm
  rw [if_pos rfl]
  by_cases c : k = b.at_ <;> simp [c]
theorem drop_cnt {b : Bk} (ok : b.Ok) (p : List Str) : ((b.drop p).at_ : Int) = (b.at_ : Int) - (cnt b 4 p b.rows.length : Int) := by
  rw [cnt_all ok]
  congr 1
  have ha := ok.at1
  show (b.kept p).findIdx (fun r => decide (r.2 = b.at_)) = _
  unfold Bk.kept
  obtain ⟨d, hd⟩ : ∃ d, b.rows.length = b.at_ + (d + 1) := ⟨b.rows.length - b.at_ - 1, by omega⟩
  rw [zip_range, hd, List.range_add, List.map_append, List.filter_append]
  have e1 : (List.filter (fun r : (List Str × Int) × Nat => decide (r.2 = b.at_) || !u r.1.1 p) ((List.range b.at_).map fun k => ((b.rows[k]?).getD ([], 0), k))).length = ((List.range b.at_).filter fun k => !rm b 4 p k).length := by
    rw [List.filter_map, List.length_map]
    congr 1
    refine List.filter_congr fun k hk => ?_
    have hk := List.mem_range.mp hk
    show (decide (k = b.at_) || !u (rw_ b k).1 p) = !rm b 4 p k
    unfold rm
    rw [if_pos rfl]
    have c : ¬ k = b.at_ := by omega
    simp [c]
  rw [List.findIdx_append]
  have e2 : (List.filter (fun r : (List Str × Int) × Nat => decide (r.2 = b.at_) || !u r.1.1 p) ((List.range b.at_).map fun k => ((b.rows[k]?).getD ([], 0), k))).findIdx (fun r => decide (r.2 = b.at_)) = (List.filter (fun r : (List Str × Int) × Nat => decide (r.2 = b.at_) || !u r.1.1 p) ((List.range b.at_).map fun k => ((b.rows[k]?).getD ([], 0), k))).length := by
    rw [List.findIdx_eq_length]
    intro r hr
    obtain ⟨k, hk, rfl⟩ := List.mem_map.mp (List.mem_filter.mp hr).1
    have hk := List.mem_range.mp hk
    have c : ¬ k = b.at_ := by omega
    simp [c]
  rw [e2, if_neg (Nat.lt_irrefl _), e1]
  have e3 : (List.filter (fun r : (List Str × Int) × Nat => decide (r.2 = b.at_) || !u r.1.1 p) (((List.range (d + 1)).map fun x => b.at_ + x).map fun k => ((b.rows[k]?).getD ([], 0), k))).findIdx (fun r => decide (r.2 = b.at_)) = 0 := by
    rw [List.range_succ_eq_map, List.map_cons, List.map_cons, List.filter_cons_of_pos (by simp), List.findIdx_cons]
    simp
  rw [e3, Nat.zero_add]
theorem tidy_fnd {b : Bk} (p : List Str) : b.tidy.rows = fnd b 5 p b.rows.length := by
  rw [tidy_rows, keep_idx]
  unfold fnd
  show List.map (rw_ b) _ = _
  congr 1
  refine List.filter_congr fun k hk => ?_
  have hk := List.mem_range.mp hk
  unfold endP rm
  rw [if_neg (by decide)]
  by_cases c : k + 1 < b.rows.length
  · rw [rw_at c, rw_at hk]
    have : ¬ k + 1 = b.rows.length := by omega
    simp [c, this]
  · have : k + 1 = b.rows.length := by omega
    simp [c, this]
theorem tidy_cnt {b : Bk} (ok : b.Ok) (p : List Str) : (b.tidy.at_ : Int) = (b.at_ : Int) - (cnt b 5 p b.rows.length : Int) := by
  rw [cnt_all ok]
  congr 1
  have ha := ok.at1
  rw [tidy_eq ok]
  show (keepLast (b.rows.take (b.at_ + 1))).length - 1 = _
  have hl : (b.rows.take (b.at_ + 1)).length = b.at_ + 1 := by rw [List.length_take]; omega
  rw [keep_idx, List.length_map, hl, List.range_succ, List.filter_append, List.length_append]
  have e1 : (List.filter (endP (b.rows.take (b.at_ + 1))) [b.at_]).length = 1 := by
    have : endP (b.rows.take (b.at_ + 1)) b.at_ = true := by unfold endP; rw [hl]; simp
    rw [List.filter_cons_of_pos this]; rfl
  rw [e1, Nat.add_sub_cancel]
  congr 1
  refine List.filter_congr fun k hk => ?_
  have hk := List.mem_range.mp hk
  unfold endP rm
  rw [if_neg (by decide), hl, List.getElem?_take_of_lt (by omega), List.getElem?_take_of_lt (by omega), rw_at (b := b) (k := k + 1) (by omega), rw_at (b := b) (k := k) (by omega)]
  have c1 : ¬ k + 1 = b.at_ + 1 := by omega
  have c2 : k + 1 < b.rows.length := by omega
  have c3 : ¬ k = b.at_ := by omega
  simp [c1, c2, c3]
/-! the nearest ones, sorted -/
def lePb (x y : Int × Int) : Bool := decide (x.1 < y.1 ∨ (x.1 = y.1 ∧ x.2 ≤ y.2))
theorem lePb_iff {x y : Int × Int} : lePb x y = true ↔ leP x y := by unfold lePb leP; rw [decide_eq_true_eq]
theorem toPD_pr (x : Int × Int) : toPD DEEP (prA x) = some (.tuple [.int x.1, .int x.2]) := rfl
theorem leA_pr (x y : Int × Int) : leA (prA x) (prA y) = lePb x y := by
  unfold leA pdA
  rw [toPD_pr, toPD_pr]
  show (!PySem.W.dataLt (.tuple [.int y.1, .int y.2]) (.tuple [.int x.1, .int x.2])) = _
  rw [PySem.W.dataLt_ii]
  unfold lePb
  rw [← decide_not]
  congr 1
  rw [eq_iff_iff]
  constructor <;> intro h <;> omega
theorem srtA_pr (P : List (Int × Int)) : srtA (P.map prA) = some ((P.mergeSort lePb).map prA) := by
  unfold srtA
  rw [mapM_of (g := fun x : Int × Int => PyData.tuple [.int x.1, .int x.2]) (fun x => toPD_pr x)]
  have h1 : alikeL (P.map fun x : Int × Int => PyData.tuple [.int x.1, .int x.2]) = true := by
    unfold alikeL
    rw [List.all_eq_true]
    intro x hx
    rw [List.all_eq_true]
    intro y hy
    obtain ⟨a, _, rfl⟩ := List.mem_map.mp hx
    obtain ⟨b, _, rfl⟩ := List.mem_map.mp hy
    simp [PySem.W.alike, PySem.W.alikeAll]
  have h2 : ((P.map fun x : Int × Int => PyData.tuple [.int x.1, .int x.2]).all fun d => match d with | .none => false | _ => true) = true := by
    rw [List.all_eq_true]
    intro x hx
    obtain ⟨a, _, rfl⟩ := List.mem_map.mp hx
    rfl
  simp only
  rw [if_pos ⟨h1, h2⟩]
  congr 1
  exact (List.map_mergeSort (r := lePb) (s := leA) (f := prA) fun a _ b _ => (leA_pr a b).symm).symm
theorem srt_head (x : Int × Int) (ps : List (Int × Int)) : ∃ S, (x :: ps).mergeSort lePb = minPr x ps :: S := by
  obtain ⟨h1, h2⟩ := minPr_spec ps x
  have ht : ∀ a b : Int × Int, (lePb a b || lePb b a) = true := fun a b => by
    unfold lePb
    rw [Bool.or_eq_true, decide_eq_true_eq, decide_eq_true_eq]
    omega
  have htr : ∀ a b c : Int × Int, lePb a b = true → lePb b c = true → lePb a c = true := fun a b c h h' => lePb_iff.mpr (leP_trans (lePb_iff.mp h) (lePb_iff.mp h'))
  have hp : ((x :: ps).mergeSort lePb).Pairwise fun a b => lePb a b = true := List.pairwise_mergeSort htr ht _
  cases e : (x :: ps).mergeSort lePb with
  | nil =>
    have := congrArg List.length e
    rw [List.length_mergeSort] at this
    simp at this
  | cons y S =>
    refine ⟨S, ?_⟩
    have hy : y ∈ x :: ps := (List.mem_mergeSort (le := lePb)).mp (by rw [e]; exact List.mem_cons_self)
    have hm : minPr x ps ∈ y :: S := by rw [← e]; exact List.mem_mergeSort.mpr h1
    rw [e] at hp
    have h3 : leP y (minPr x ps) := by
      rcases List.mem_cons.mp hm with z | z
      · rw [z]; exact leP_refl y
      · exact lePb_iff.mp ((List.pairwise_cons.mp hp).1 _ z)
    have h4 := h2 y hy
    congr 1
    unfold leP at h3 h4
    exact Prod.ext (by omega) (by omega)
theorem seq_no {c : IE} {a s : IS} {e : En} {h h' : AH} (q : ev true c e h = .ok (.bl false) h') : ex (.seq (.ifs c a .skip) s) e h = ex s e h' := by
  rw [ex_seq, ex_if_no q]; rfl
/-! a deed, by this law -/
def actB (b : Bk) (way : Nat) (p : List Str) (k : Int) : Bk :=
  if way = 0 then b.visit p else if way = 1 then b.replace p else if way = 2 then (if b.can k = true then b.goto k else b) else if way = 3 then b.mark k else if way = 4 then b.drop p else b.tidy
def actA (b : Bk) (way : Nat) (p : List Str) (k : Int) : AV :=
  if way = 2 then (if b.can k = true then plA (b.goto k).now else refA) else if way = 4 then .int (b.gone p : Int) else .non
theorem act_ok {b : Bk} (ok : b.Ok) (way : Nat) (p : List Str) (k : Int) : (actB b way p k).Ok := by
  unfold actB
  split
  · exact Bk.visit_ok ok p
  · split
    · exact Bk.replace_ok ok p
    · split
      · split
        · exact Bk.goto_ok ok ‹_›
        · exact ok
      · split
        · exact Bk.mark_ok ok k
        · split
          · exact Bk.drop_ok ok p
          · exact Bk.tidy_ok ok
theorem told_eq {h : AH} {n : Nat} {b : Bk} (q : h[n]? = some (bookO b)) (ok : b.Ok) {way : Nat} (hw : way ≤ 5) (p : List Str) (k : Int) : f_l_told [.ref n, .int (way : Int), plA p, .int k] h = .ok (actA b way p k) (h.set n (bookO (actB b way p k))) := by
  have mm : ∀ {f : Str} {F : Sem} (hf : lookF f (bookF (.val (.int (b.most : Int))) (.own (.lst (b.rows.map rowA))) (.val (.int (b.at_ : Int)))) = none), methOf f [(0, F)] (.ref n) h = some (n, F) := fun hf => meth_at q hf rfl
  have l1 : ∀ a c d : FV, lookF "visit" (bookF a c d) = none := fun a c d => by kernel_rfl
  have l2 : ∀ a c d : FV, lookF "replace" (bookF a c d) = none := fun a c d => by kernel_rfl
  have l3 : ∀ a c d : FV, lookF "go" (bookF a c d) = none := fun a c d => by kernel_rfl
  have l4 : ∀ a c d : FV, lookF "mark" (bookF a c d) = none := fun a c d => by kernel_rfl
  have l5 : ∀ a c d : FV, lookF "drop" (bookF a c d) = none := fun a c d => by kernel_rfl
  have l6 : ∀ a c d : FV, lookF "tidy" (bookF a c d) = none := fun a c d => by kernel_rfl
  unfold f_l_told
  rw [run_eq]
  obtain ⟨P, hP⟩ : ∃ P, P = plA p := ⟨_, rfl⟩
  have fP : ∀ v h, fresh v P h = .ok P h := fun v h => by rw [hP]; exact fresh_tup v _ h
  have w6 : way = 0 ∨ way = 1 ∨ way = 2 ∨ way = 3 ∨ way = 4 ∨ way = 5 := by omega
  rcases w6 with rfl | rfl | rfl | rfl | rfl | rfl
  · have hk := Book_visit q ok p
    rw [← hP] at hk ⊢
    show (match ex i_l_told [some (.val (.ref n)), some (.val (.int ((0 : Nat) : Int))), some (.val P), some (.val (.int k)), none] h with | .ret d h => R.ok d h | .nx _ h => .ok .non h | .exc c _ h => .exc c h | _ => .bad) = _
    unfold i_l_told
    rw [tryx_ret (d := .non) (h' := h.set n (bookO (b.visit p))) (by simp [pureI, mm (l1 _ _ _), m1, hk, fP])]
    rfl
  · have hk := Book_replace q ok p
    rw [← hP] at hk ⊢
    show (match ex i_l_told [some (.val (.ref n)), some (.val (.int ((1 : Nat) : Int))), some (.val P), some (.val (.int k)), none] h with | .ret d h => R.ok d h | .nx _ h => .ok .non h | .exc c _ h => .exc c h | _ => .bad) = _
    unfold i_l_told
    rw [tryx_ret (d := .non) (h' := h.set n (bookO (b.replace p))) (by simp [pureI, mm (l2 _ _ _), m2, hk, fP])]
    rfl
  · have hk := Book_go q ok k
    rw [← hP]
    show (match ex i_l_told [some (.val (.ref n)), some (.val (.int ((2 : Nat) : Int))), some (.val P), some (.val (.int k)), none] h with | .ret d h => R.ok d h | .nx _ h => .ok .non h | .exc c _ h => .exc c h | _ => .bad) = _
    unfold i_l_told
    by_cases c : b.can k = true
    · rw [if_pos c] at hk
      have e1 : actA b 2 p k = plA (b.goto k).now := if_pos c
      have e2 : actB b 2 p k = b.goto k := if_pos c
      simp only [plA_def] at hk
      rw [e1, e2, tryx_ret (d := plA (b.goto k).now) (h' := h.set n (bookO (b.goto k))) (by simp [pureI, mm (l3 _ _ _), m3, hk])]
    · rw [if_neg c] at hk
      have e1 : actA b 2 p k = refA := if_neg c
      have e2 : actB b 2 p k = b := if_neg c
      have e3 : h.set n (bookO b) = h := by
        refine List.ext_getElem? fun i => ?_
        rw [List.getElem?_set]
        by_cases c : n = i
        · subst c
          rw [if_pos rfl, if_pos (bk_lt q), q]
        · rw [if_neg c]
      rw [e1, e2, e3, tryx_call (c := 1) (d := refA) (h2 := h) (h' := h) (e' := [some (.val (.ref n)), some (.val (.int ((2 : Nat) : Int))), some (.val P), some (.val (.int k)), none]) (by simp [pureI, mm (l3 _ _ _), m3, hk]) (by decide) (by decide) (by simp) (ref1 _)]
  · have hk := Book_mark q ok k
    rw [← hP]
    show (match ex i_l_told [some (.val (.ref n)), some (.val (.int ((3 : Nat) : Int))), some (.val P), some (.val (.int k)), none] h with | .ret d h => R.ok d h | .nx _ h => .ok .non h | .exc c _ h => .exc c h | _ => .bad) = _
    unfold i_l_told
    rw [tryx_ret (d := .non) (h' := h.set n (bookO (b.mark k))) (by simp [pureI, mm (l4 _ _ _), m4, hk])]
    rfl
  · have hk := Book_drop q ok p
    rw [← hP] at hk ⊢
    show (match ex i_l_told [some (.val (.ref n)), some (.val (.int ((4 : Nat) : Int))), some (.val P), some (.val (.int k)), none] h with | .ret d h => R.ok d h | .nx _ h => .ok .non h | .exc c _ h => .exc c h | _ => .bad) = _
    unfold i_l_told
    rw [tryx_ret (d := .int (b.gone p : Int)) (h' := h.set n (bookO (b.drop p))) (by simp [pureI, mm (l5 _ _ _), m5, hk, fP])]
    rfl
  · have hk := Book_tidy q ok
    rw [← hP]
    show (match ex i_l_told [some (.val (.ref n)), some (.val (.int ((5 : Nat) : Int))), some (.val P), some (.val (.int k)), none] h with | .ret d h => R.ok d h | .nx _ h => .ok .non h | .exc c _ h => .exc c h | _ => .bad) = _
    unfold i_l_told
    rw [tryx_ret (d := .non) (h' := h.set n (bookO b.tidy)) (by simp [pureI, mm (l6 _ _ _), m6, hk])]
    rfl
def dEnv (L : AV) (b : Bk) (way : Nat) (P : AV) (k : Int) (v6 v7 v8 v9 v10 v11 : Option FV) : En := [some (.val L), some (.val (.int (b.at_ : Int))), some (.val (.int (way : Int))), some (.val P), some (.val (.int k)), some (.val (.int (b.most : Int))), v6, v7, v8, v9, v10, v11]
theorem done_step {b : Bk} (ok : b.Ok) {L : AV} (hL : L = .lst (b.rows.map rowA)) {way : Nat} (hw : way = 4 ∨ way = 5) (p : List Str) (k : Int) (h : AH) {j : Nat} (hj : j < b.rows.length) (v8 v9 v10 v11 : Option FV) : ∃ w8 w9 w10 w11,
    stepF (.tp [9, 8]) b_l_done_1 (.tup [.int (j : Int), rowA (rw_ b j)]) (dEnv L b way (plA p) k (some (.own (.lst ((fnd b way p j).map rowA)))) (some (.val (.int ((b.at_ : Int) - (cnt b way p j : Int))))) v8 v9 v10 v11) h
    = .nx (dEnv L b way (plA p) k (some (.own (.lst ((fnd b way p (j + 1)).map rowA)))) (some (.val (.int ((b.at_ : Int) - (cnt b way p (j + 1) : Int))))) w8 w9 w10 w11) h := by
  have hlen : ∀ h, doBi .len [L] h = .ok (.int (b.rows.length : Int)) h := fun h => by rw [hL]; simp
  have hsub : ∀ {k : Nat} h, k < b.rows.length → doSub L (.int (k : Int)) h = .ok (.tup [plA (rw_ b k).1, .int (rw_ b k).2]) h := fun {k} h hk => by
    rw [hL]
    show okO (atI (b.rows.map rowA) (k : Int)) h = _
    rw [Ab.atI_nat, List.getElem?_map, rw_at hk]; rfl
  have vwL : ∀ h, vw h L = L := fun h => by rw [hL]; rfl
  have flen := fnd_len b way p j
  have hm1 := ok.m1
  have hlen1 := ok.len
  have fl : (fnd b way p j).length < 16777216 := by omega
  obtain ⟨F, hF⟩ : ∃ F, F = fnd b way p j := ⟨_, rfl⟩
  have hq : ∀ x y : List Str, eqL 29 (x.map .str) (y.map .str) = some (decide (x = y)) := fun x y => eqL_map good_str (by decide) x y
  -- the two flags
  obtain ⟨B10, B11, g10, g11, hor⟩ : ∃ B10 B11 : Bool, (∀ v6 v7 v10 v11, ev false (.and (.cmp .eq (.slot 2) (.con (.int 4))) (.and (.cmp .ne (.slot 9) (.slot 1)) (.cmp .eq (.sli (.sub (.slot 8) (.con (.int 0))) (.con .non) (.bnd (.bi .len (.cons (.slot 3) .nil)))) (.slot 3)))) (dEnv L b way (plA p) k v6 v7 (some (.val (rowA (rw_ b j)))) (some (.val (.int (j : Int)))) v10 v11) h = .ok (.bl B10) h)
      ∧ (∀ v6 v7 v10 v11, ev false (.and (.cmp .eq (.slot 2) (.con (.int 5))) (.and (.cmp .lt (.bin .add (.slot 9) (.con (.int 1))) (.bi .len (.cons (.slot 0) .nil))) (.cmp .eq (.sub (.sub (.slot 0) (.bin .add (.slot 9) (.con (.int 1)))) (.con (.int 0))) (.sub (.slot 8) (.con (.int 0)))))) (dEnv L b way (plA p) k v6 v7 (some (.val (rowA (rw_ b j)))) (some (.val (.int (j : Int)))) v10 v11) h = .ok (.bl B11) h) ∧ (B10 || B11) = rm b way p j := by
    rcases hw with rfl | rfl
    · refine ⟨rm b 4 p j, false, fun v6 v7 v10 v11 => ?_, fun v6 v7 v10 v11 => ?_, by simp⟩
      · unfold rm u
        rw [if_pos rfl]
        by_cases c : j = b.at_
        · simp [dEnv, pureI, rowA, c]
        · have c' : ¬ (j : Int) = (b.at_ : Int) := by omega
          simp [dEnv, pureI, rowA, c, c', ← List.map_take, hq]
      · simp [dEnv, pureI]
    · refine ⟨false, rm b 5 p j, fun v6 v7 v10 v11 => ?_, fun v6 v7 v10 v11 => ?_, by simp⟩
      · simp [dEnv, pureI]
      · unfold rm
        rw [if_neg (by decide)]
        by_cases c : j + 1 < b.rows.length
        · have c' : (j : Int) + 1 < (b.rows.length : Int) := by omega
          have hs := hsub (k := j + 1) h c
          have e1 : ((j + 1 : Nat) : Int) = (j : Int) + 1 := by omega
          rw [e1] at hs
          simp [dEnv, pureI, rowA, slotV, vwL, hlen, c, c', hs, hq]
        · have c' : ¬ (j : Int) + 1 < (b.rows.length : Int) := by omega
          simp [dEnv, pureI, rowA, slotV, vwL, hlen, c, c']
  have e0 : setTg (.tp [9, 8]) (.tup [.int (j : Int), rowA (rw_ b j)]) (dEnv L b way (plA p) k (some (.own (.lst (F.map rowA)))) (some (.val (.int ((b.at_ : Int) - (cnt b way p j : Int))))) v8 v9 v10 v11) = some (dEnv L b way (plA p) k (some (.own (.lst (F.map rowA)))) (some (.val (.int ((b.at_ : Int) - (cnt b way p j : Int))))) (some (.val (rowA (rw_ b j)))) (some (.val (.int (j : Int)))) v10 v11) := rfl
  refine ⟨some (.val (rowA (rw_ b j))), some (.val (.int (j : Int))), some (.val (.bl B10)), some (.val (.bl B11)), ?_⟩
  rw [← hF]
  unfold stepF
  rw [e0]
  show ex b_l_done_1 _ h = _
  unfold b_l_done_1
  rw [ex_seq, ex_asg, g10, thn_ok]
  show (ex (.seq _ _) (dEnv L b way (plA p) k (some (.own (.lst (F.map rowA)))) (some (.val (.int ((b.at_ : Int) - (cnt b way p j : Int))))) (some (.val (rowA (rw_ b j)))) (some (.val (.int (j : Int)))) (some (.val (.bl B10))) v11) h) = _
  rw [ex_seq, ex_asg, g11, thn_ok]
  show (ex (.seq _ _) (dEnv L b way (plA p) k (some (.own (.lst (F.map rowA)))) (some (.val (.int ((b.at_ : Int) - (cnt b way p j : Int))))) (some (.val (rowA (rw_ b j)))) (some (.val (.int (j : Int)))) (some (.val (.bl B10))) (some (.val (.bl B11)))) h) = _
  rw [fnd_succ, cnt_succ, ← hor, ← hF]
  rw [← hF] at fl
  have ap : (F ++ [rw_ b j]).map rowA = F.map rowA ++ [rowA (rw_ b j)] := by rw [List.map_append]; rfl
  obtain ⟨R, hR⟩ : ∃ R, R = rowA (rw_ b j) := ⟨_, rfl⟩
  rw [← hR] at ap ⊢
  have vR : ∀ h, vw h R = R := fun h => by rw [hR]; rfl
  obtain ⟨FL, hFL⟩ : ∃ FL, FL = F.map rowA := ⟨_, rfl⟩
  have fl2 : FL.length < 16777216 := by rw [hFL, List.length_map]; exact fl
  rw [← hFL] at ap ⊢
  have e1 : ((cnt b way p j + 1 : Nat) : Int) = (cnt b way p j : Int) + 1 := by omega
  have e2 : (b.at_ : Int) - (cnt b way p j : Int) - 1 = (b.at_ : Int) - ((cnt b way p j : Int) + 1) := by omega
  by_cases d : j < b.at_ <;> cases B10 <;> cases B11 <;> simp [dEnv, pureI, slotV, vR, d, ap, ownLst, fl2, e1, e2, ← hFL]
theorem done_rest {b : Bk} (ok : b.Ok) {way : Nat} (hw : way = 4 ∨ way = 5) (p : List Str) (k : Int) (h : AH) : f_l_done [.lst (b.rows.map rowA), .int (b.at_ : Int), .int (way : Int), plA p, .int k, .int (b.most : Int)] h = .ok (.tup [.lst ((fnd b way p b.rows.length).map rowA), .int ((b.at_ : Int) - (cnt b way p b.rows.length : Int)), if way = 4 then .int ((b.rows.length : Int) - ((fnd b way p b.rows.length).length : Int)) else .non]) h := by
  obtain ⟨L, hL⟩ : ∃ L, L = AV.lst (b.rows.map rowA) := ⟨_, rfl⟩
  have hlen : ∀ h, doBi .len [L] h = .ok (.int (b.rows.length : Int)) h := fun h => by rw [hL]; simp
  have vwL : ∀ h, vw h L = L := fun h => by rw [hL]; rfl
  have hm1 := ok.m1
  have hlen1 := ok.len
  obtain ⟨e9, h9, s9, w8, w9, w10, w11, he9, hh9⟩ := forL_lst (s := stepF (.tp [9, 8]) b_l_done_1) (inj := fun r : Rw × Nat => AV.tup [.int (r.2 : Int), rowA r.1]) (e := dEnv L b way (plA p) k (some (.own (.lst ((fnd b way p 0).map rowA)))) (some (.val (.int ((b.at_ : Int) - (cnt b way p 0 : Int))))) none none none none) (h := h)
    (fun j e h' => ∃ v8 v9 v10 v11, e = dEnv L b way (plA p) k (some (.own (.lst ((fnd b way p j).map rowA)))) (some (.val (.int ((b.at_ : Int) - (cnt b way p j : Int))))) v8 v9 v10 v11 ∧ h' = h) b.rows.zipIdx (fun j x hx e h' z => by
      obtain ⟨v8, v9, v10, v11, he, hh⟩ := z
      rw [he, hh]
      rw [List.getElem?_zipIdx] at hx
      have hj : j < b.rows.length := by
        refine Decidable.byContradiction fun c => ?_
        rw [List.getElem?_eq_none (by omega)] at hx
        cases hx
      rw [rw_at hj] at hx
      have hx := Option.some.inj hx
      rw [← hx]
      obtain ⟨w8, w9, w10, w11, st⟩ := done_step ok hL hw p k h hj v8 v9 v10 v11
      refine ⟨_, _, ?_, w8, w9, w10, w11, rfl, rfl⟩
      show stepF (.tp [9, 8]) b_l_done_1 (.tup [.int ((0 + j : Nat) : Int), rowA (rw_ b j)]) _ h = _
      rw [Nat.zero_add]
      exact st) ⟨none, none, none, none, rfl, rfl⟩
  rw [he9, hh9, List.length_zipIdx] at s9
  refine run_of ?_
  rw [← hL]
  show ex i_l_done (dEnv L b way (plA p) k none none none none none none) h = _
  obtain ⟨P, hP⟩ : ∃ P, P = plA p := ⟨_, rfl⟩
  rw [← hP] at s9 ⊢
  have hw0 : ¬ way = 0 := by omega
  have hw2 : ¬ (way : Int) = 2 := by omega
  have c0 : ∀ e6, ev true (.cmp .eq (.slot 2) (.con (.int 0))) (dEnv L b way P k e6 none none none none none) h = .ok (.bl false) h := fun e6 => by simp [dEnv, pureI, hw0]
  have c1 : ∀ e6, ev true (.cmp .inn (.slot 2) (.tup (.cons (.con (.int 1)) (.cons (.con (.int 3)) .nil)))) (dEnv L b way P k e6 none none none none none) h = .ok (.bl false) h := fun e6 => by
    rcases hw with rfl | rfl <;> rfl
  have c2 : ∀ e6, ev true (.cmp .eq (.slot 2) (.con (.int 2))) (dEnv L b way P k e6 none none none none none) h = .ok (.bl false) h := fun e6 => by simp [dEnv, pureI, hw2]
  have t6 : ex (.own 6 (.lst .nil)) (dEnv L b way P k none none none none none none) h = .nx (dEnv L b way P k (some (.own (.lst []))) none none none none none) h := by simp [dEnv, ownR, isC]
  have t7 : ex (.asg (.nm 7) (.slot 1)) (dEnv L b way P k (some (.own (.lst []))) none none none none none) h = .nx (dEnv L b way P k (some (.own (.lst ((fnd b way p 0).map rowA)))) (some (.val (.int ((b.at_ : Int) - (cnt b way p 0 : Int))))) none none none none) h := by
    have : (b.at_ : Int) - ((0 : Nat) : Int) = (b.at_ : Int) := by omega
    simp [dEnv, pureI, fnd, cnt]
  have t8 : ex (.fors (.tp [9, 8]) .enum (.cons (.slot 0) .nil) b_l_done_1) (dEnv L b way P k (some (.own (.lst ((fnd b way p 0).map rowA)))) (some (.val (.int ((b.at_ : Int) - (cnt b way p 0 : Int))))) none none none none) h = .nx (dEnv L b way P k (some (.own (.lst ((fnd b way p b.rows.length).map rowA)))) (some (.val (.int ((b.at_ : Int) - (cnt b way p b.rows.length : Int))))) w8 w9 w10 w11) h := by
    rw [for_ok (xs := [L]) (l := b.rows.zipIdx.map fun r => .tup [.int (r.2 : Int), rowA r.1]) (by simp [dEnv]) (by rw [hL]; show some (pairL _) = _; rw [pairL_map])]
    exact s9
  unfold i_l_done
  rw [seq_no (c0 none)]
  rw [seq_no (c1 none)]
  rw [seq_no (c2 none)]
  rw [ex_seq_of t6, ex_seq_of t7, ex_seq_of t8]
  obtain ⟨F, hF⟩ : ∃ F, F = fnd b way p b.rows.length := ⟨_, rfl⟩
  rw [← hF]
  rcases hw with rfl | rfl
  · rw [if_pos rfl]
    simp [dEnv, pureI, slotV, vwL, hlen]
  · rw [if_neg (by decide)]
    simp [dEnv, pureI, slotV, vwL, hlen]
theorem done_eq {b : Bk} (ok : b.Ok) {way : Nat} (hw : way ≤ 5) (p : List Str) (k : Int) (h : AH) : f_l_done [.lst (b.rows.map rowA), .int (b.at_ : Int), .int (way : Int), plA p, .int k, .int (b.most : Int)] h = .ok (.tup [.lst ((actB b way p k).rows.map rowA), .int ((actB b way p k).at_ : Int), actA b way p k]) h := by
  have hm0 := ok.m0
  have hm1 := ok.m1
  have hat := ok.at1
  have hlen1 := ok.len
  have w6 : way = 0 ∨ (way = 1 ∨ way = 3) ∨ way = 2 ∨ (way = 4 ∨ way = 5) := by omega
  rcases w6 with rfl | w13 | rfl | w45
  · show _ = R.ok (AV.tup [.lst ((b.visit p).rows.map rowA), .int ((b.visit p).at_ : Int), .non]) h
    refine run_of ?_
    obtain ⟨S, hS⟩ : ∃ S, S = b.rows.take (b.at_ + 1) ++ [(p, 0)] := ⟨_, rfl⟩
    have hSl : S.length = b.at_ + 2 := by rw [hS, List.length_append, List.length_take, List.length_singleton]; omega
    have hv : (b.visit p).rows = S.drop (S.length - b.most) := by rw [hS]; rfl
    have hv2 : (b.visit p).at_ = (b.visit p).rows.length - 1 := rfl
    have hvl : 0 < (b.visit p).rows.length := by have := (Bk.visit_ok ok p).at1; omega
    have e0 : ∀ v6 v7 v8 v9 v10 v11, ev false (.sli (.bin .add (.sli (.slot 0) (.con .non) (.bnd (.bin .add (.slot 1) (.con (.int 1))))) (.lst (.cons (.tup (.cons (.slot 3) (.cons (.con (.int 0)) .nil))) .nil))) (.bnd (.neg (.slot 5))) (.con .non)) (dEnv (.lst (b.rows.map rowA)) b 0 (plA p) k v6 v7 v8 v9 v10 v11) h = .ok (.lst ((b.visit p).rows.map rowA)) h := fun v6 v7 v8 v9 v10 v11 => by
      have c1 : cutA (b.rows.map rowA) none (some ((b.at_ : Int) + 1)) = (b.rows.take (b.at_ + 1)).map rowA := by rw [List.map_take]; exact cut_to (b.rows.map rowA) (b.at_ + 1)
      have c2 : (b.rows.take (b.at_ + 1)).map rowA ++ [AV.tup [.tup (p.map .str), .int 0]] = S.map rowA := by rw [hS, List.map_append]; rfl
      have c3 : cutA (S.map rowA) (some (-(b.most : Int))) none = ((b.visit p).rows).map rowA := by rw [hv, cut_neg _ hm0, List.length_map, List.map_drop]
      have c4 : ((b.rows.take (b.at_ + 1)).map rowA).length + 1 ≤ 16777216 := by rw [List.length_map, List.length_take]; omega
      obtain ⟨T, hT⟩ : ∃ T, T = (b.rows.take (b.at_ + 1)).map rowA := ⟨_, rfl⟩
      rw [← hT] at c1 c2 c4
      obtain ⟨U, hU⟩ : ∃ U, U = b.rows.map rowA := ⟨_, rfl⟩
      rw [← hU] at c1 ⊢
      simp [dEnv, pureI, c1, c4, c2, c3]
    show ex i_l_done (dEnv (.lst (b.rows.map rowA)) b 0 (plA p) k none none none none none none) h = _
    have c0 : ev true (.cmp .eq (.slot 2) (.con (.int 0))) (dEnv (.lst (b.rows.map rowA)) b 0 (plA p) k none none none none none none) h = .ok (.bl true) h := by simp [dEnv, pureI]
    unfold i_l_done
    rw [ex_seq, ex_if_yes c0, ex_seq, ex_asg, e0]
    obtain ⟨V, hV⟩ : ∃ V, V = (b.visit p).rows := ⟨_, rfl⟩
    rw [← hV] at hvl hv2
    rw [hv2, ← hV]
    have e5 : ((V.length - 1 : Nat) : Int) = (V.length : Int) - 1 := by omega
    simp [dEnv, pureI, setTg, e5]
  · obtain ⟨r, hr⟩ : ∃ r : Rw, r = if way = 1 then (p, 0) else (b.now, k) := ⟨_, rfl⟩
    have hB : actB b way p k = ⟨b.most, b.rows.set b.at_ r, b.at_⟩ := by
      rcases w13 with rfl | rfl
      · rw [hr]; rfl
      · rw [hr]; rfl
    have hA : actA b way p k = .non := by rcases w13 with rfl | rfl <;> rfl
    rw [hB, hA]
    refine run_of ?_
    show ex i_l_done (dEnv (.lst (b.rows.map rowA)) b way (plA p) k none none none none none none) h = _
    obtain ⟨L, hL⟩ : ∃ L, L = AV.lst (b.rows.map rowA) := ⟨_, rfl⟩
    have hsub : ∀ h, doSub L (.int (b.at_ : Int)) h = .ok (.tup [plA b.now, .int b.marked]) h := fun h => by
      rw [hL]
      show okO (atI (b.rows.map rowA) (b.at_ : Int)) h = _
      rw [Ab.atI_nat, List.getElem?_map, b.row ok]; rfl
    have vwL : ∀ h, vw h L = L := fun h => by rw [hL]; rfl
    have sl1 : ∀ h, sliA L none (some (b.at_ : Int)) h = .ok (.lst ((b.rows.take b.at_).map rowA)) h := fun h => by
      rw [hL, sli_lst, cut_to, List.map_take]
    have sl2 : ∀ h, sliA L (some ((b.at_ : Int) + 1)) none h = .ok (.lst ((b.rows.drop (b.at_ + 1)).map rowA)) h := fun h => by
      have : cutA (b.rows.map rowA) (some ((b.at_ : Int) + 1)) none = (b.rows.map rowA).drop (b.at_ + 1) := cut_from _ (b.at_ + 1)
      rw [hL, sli_lst, this, List.map_drop]
    have hset : (b.rows.take b.at_).map rowA ++ [rowA r] ++ (b.rows.drop (b.at_ + 1)).map rowA = (b.rows.set b.at_ r).map rowA := by
      rw [List.set_eq_take_append_cons_drop, if_pos hat, List.map_append, List.map_cons, List.append_assoc]; rfl
    obtain ⟨T1, hT1⟩ : ∃ T, T = (b.rows.take b.at_).map rowA := ⟨_, rfl⟩
    obtain ⟨T2, hT2⟩ : ∃ T, T = (b.rows.drop (b.at_ + 1)).map rowA := ⟨_, rfl⟩
    obtain ⟨T3, hT3⟩ : ∃ T, T = (b.rows.set b.at_ r).map rowA := ⟨_, rfl⟩
    have tl1 : T1.length + 1 ≤ 16777216 := by rw [hT1, List.length_map, List.length_take]; omega
    have tl2 : T1.length + 1 + T2.length ≤ 16777216 := by rw [hT1, hT2, List.length_map, List.length_take, List.length_map, List.length_drop]; omega
    rw [← hT1] at sl1 hset
    rw [← hT2] at sl2 hset
    rw [← hT3] at hset
    rw [← hL]
    show _ = RS.ret (AV.tup [.lst ((b.rows.set b.at_ r).map rowA), .int (b.at_ : Int), .non]) h
    rw [← hT3]
    obtain ⟨P, hP⟩ : ∃ P, P = plA p := ⟨_, rfl⟩
    have vP : ∀ h, vw h P = P := fun h => by rw [hP]; rfl
    obtain ⟨N, hN⟩ : ∃ N, N = plA b.now := ⟨_, rfl⟩
    have vN : ∀ h, vw h N = N := fun h => by rw [hN]; rfl
    rw [← hP]
    rw [← hN] at hsub
    have hw0 : ¬ way = 0 := by omega
    have c0 : ev true (.cmp .eq (.slot 2) (.con (.int 0))) (dEnv L b way P k none none none none none none) h = .ok (.bl false) h := by simp [dEnv, pureI, hw0]
    have c1 : ev true (.cmp .inn (.slot 2) (.tup (.cons (.con (.int 1)) (.cons (.con (.int 3)) .nil)))) (dEnv L b way P k none none none none none none) h = .ok (.bl true) h := by
      rcases w13 with rfl | rfl <;> rfl
    have e8 : ev false (.sub (.lst (.cons (.tup (.cons (.slot 3) (.cons (.con (.int 0)) .nil))) (.cons (.tup (.cons (.sub (.sub (.slot 0) (.slot 1)) (.con (.int 0))) (.cons (.slot 4) .nil))) .nil))) (.bi .int (.cons (.cmp .eq (.slot 2) (.con (.int 3))) .nil))) (dEnv L b way P k none none none none none none) h = .ok (rowA r) h := by
      rcases w13 with rfl | rfl
      · rw [hr, if_pos rfl]
        simp [dEnv, pureI, slotV, vwL, hsub, rowA, hP]
      · rw [hr, if_neg (by decide)]
        simp [dEnv, pureI, slotV, vwL, hsub, rowA, hN]
    obtain ⟨R, hR⟩ : ∃ R, R = rowA r := ⟨_, rfl⟩
    rw [← hR] at e8 hset
    have vR : ∀ h, vw h R = R := fun h => by rw [hR]; rfl
    unfold i_l_done
    rw [seq_no c0]
    rw [ex_seq, ex_if_yes c1, ex_seq, ex_asg, e8]
    have hset' : T1 ++ R :: T2 = T3 := by rw [← hset, List.append_assoc]; rfl
    simp [dEnv, pureI, setTg, slotV, vwL, vR, sl1, sl2, tl1, tl2, hset']
  · refine run_of ?_
    show ex i_l_done (dEnv (.lst (b.rows.map rowA)) b 2 (plA p) k none none none none none none) h = _
    obtain ⟨L, hL⟩ : ∃ L, L = AV.lst (b.rows.map rowA) := ⟨_, rfl⟩
    have hlen : ∀ h, doBi .len [L] h = .ok (.int (b.rows.length : Int)) h := fun h => by rw [hL]; simp
    have vwL : ∀ h, vw h L = L := fun h => by rw [hL]; rfl
    have c0 : ev true (.cmp .eq (.slot 2) (.con (.int 0))) (dEnv L b 2 (plA p) k none none none none none none) h = .ok (.bl false) h := by simp [dEnv, pureI]
    have c1 : ev true (.cmp .inn (.slot 2) (.tup (.cons (.con (.int 1)) (.cons (.con (.int 3)) .nil)))) (dEnv L b 2 (plA p) k none none none none none none) h = .ok (.bl false) h := rfl
    have c2 : ev true (.cmp .eq (.slot 2) (.con (.int 2))) (dEnv L b 2 (plA p) k none none none none none none) h = .ok (.bl true) h := by simp [dEnv, pureI]
    by_cases c : b.can k = true
    · have eA : actA b 2 p k = plA (b.goto k).now := if_pos c
      have eB : actB b 2 p k = b.goto k := if_pos c
      have gat : ((b.goto k).at_ : Int) = (b.at_ : Int) + k := by
        unfold Bk.can at c
        have c := of_decide_eq_true c
        show ((((b.at_ : Int) + k).toNat : Nat) : Int) = _
        omega
      have gr : (b.goto k).rows = b.rows := rfl
      have hrow := (b.goto k).row (Bk.goto_ok ok c)
      rw [gr] at hrow
      have hsub : ∀ h, doSub L (.int ((b.at_ : Int) + k)) h = .ok (.tup [plA (b.goto k).now, .int (b.goto k).marked]) h := fun h => by
        rw [hL, ← gat]
        show okO (atI (b.rows.map rowA) ((b.goto k).at_ : Int)) h = _
        rw [Ab.atI_nat, List.getElem?_map, hrow]; rfl
      rw [eA, eB, gr, ← hL, gat]
      unfold Bk.can at c
      have c := of_decide_eq_true c
      have a1 := c.1
      have a2 := c.2
      unfold i_l_done
      rw [seq_no c0]
      rw [seq_no c1]
      rw [ex_seq, ex_if_yes c2]
      simp [dEnv, pureI, slotV, vwL, hlen, hsub, a1, a2]
    · have eA : actA b 2 p k = refA := if_neg c
      have eB : actB b 2 p k = b := if_neg c
      rw [eA, eB, ← hL]
      unfold Bk.can at c
      have c : ¬ (0 ≤ (b.at_ : Int) + k ∧ (b.at_ : Int) + k < b.rows.length) := fun z => c (decide_eq_true z)
      unfold i_l_done
      rw [seq_no c0]
      rw [seq_no c1]
      rw [ex_seq, ex_if_yes c2]
      by_cases a1 : 0 ≤ (b.at_ : Int) + k
      · have a2 : ¬ (b.at_ : Int) + k < b.rows.length := fun z => c ⟨a1, z⟩
        simp [dEnv, pureI, slotV, vwL, hlen, a1, a2]
      · simp [dEnv, pureI, slotV, vwL, hlen, a1]
  · have := done_rest ok w45 p k h
    rw [this]
    rcases w45 with rfl | rfl
    · rw [if_pos rfl, ← drop_cnt ok, ← drop_fnd]
      have e1 : actB b 4 p k = b.drop p := rfl
      have e2 : actA b 4 p k = .int (b.gone p : Int) := rfl
      have e3 : (b.drop p).rows.length = (b.kept p).length := List.length_map _
      have e4 : (b.kept p).length ≤ b.rows.length := by rw [← e3, drop_fnd]; exact fnd_len b 4 p _
      rw [e1, e2, e3]
      unfold Bk.gone
      rw [Int.natCast_sub e4]
    · rw [if_neg (by decide), ← tidy_cnt ok, ← tidy_fnd]
      rfl
abbrev env (ns : List Int) (v1 v2 v3 v4 v5 v6 v7 v8 v9 v10 v11 v12 v13 v14 v15 v16 v17 v18 : Option FV) : En := [some (.val (.scr ns)), v1, v2, v3, v4, v5, v6, v7, v8, v9, v10, v11, v12, v13, v14, v15, v16, v17, v18]
/-- an answer that can be asked again -/
structure Ans (d : AV) : Prop where
  fr : ∀ v h, fresh v d h = .ok d h
  eq : eqA d d = some true
theorem ans_ref : Ans refA := ⟨fun v h => fresh_tup v _ h, by simp⟩
theorem ans_pl (p : List Str) : Ans (plA p) := ⟨fun v h => fresh_tup v _ h, by simp⟩
theorem ans_int (p : Int) : Ans (.int p) := ⟨fun v h => by cases v <;> rfl, by simp⟩
theorem ans_non : Ans .non := ⟨fun v h => by cases v <;> rfl, by simp⟩
theorem ans_act (b : Bk) (way : Nat) (p : List Str) (k : Int) : Ans (actA b way p k) := by
  unfold actA
  split
  · split
    · exact ans_pl _
    · exact ans_ref
  · split
    · exact ans_int _
    · exact ans_non
theorem Ans.vw {d : AV} (an : Ans d) (h : AH) : Ab.vw h d = d := by
  have := an.fr true h
  injection this
theorem act_most (b : Bk) (way : Nat) (p : List Str) (k : Int) : (actB b way p k).most = b.most := by
  unfold actB
  split
  · rfl
  · split
    · rfl
    · split
      · split <;> rfl
      · split
        · rfl
        · split <;> rfl
/-- what this law says of the entries -/
theorem ents_eq (b : Bk) (ns : List Int) (v1 v2 v3 v4 v6 v7 v8 v9 v10 v11 v12 v13 v14 v15 v16 v17 v18 : Option FV) (h : AH) (v : Bool) : ev v (.comp .seq (.cons (.slot 5) .nil) (.nm 16) (.con (.bl true)) (.sub (.slot 16) (.con (.int 0))) [16]) (env ns v1 v2 v3 v4 (some (.val (.lst (b.rows.map rowA)))) v6 v7 v8 v9 v10 v11 v12 v13 v14 v15 v16 v17 v18) h = .ok (.lst (b.entries.map plA)) h := by
  have e : b.entries.map plA = b.rows.map fun r => plA r.1 := by unfold Bk.entries; rw [List.map_map]; rfl
  rw [e]
  obtain ⟨L, hL⟩ : ∃ L, L = AV.lst (b.rows.map rowA) := ⟨_, rfl⟩
  have vL : ∀ h, vw h L = L := fun h => by rw [hL]; rfl
  refine comp_ok (xs := [L]) (l := b.rows.map rowA) (by rw [← hL]; simp [pureI, slotV, vL]) (by rw [hL]; rfl) ?_
  rw [← hL]
  exact compL_all rowA (fun r => env ns v1 v2 v3 v4 (some (.val L)) v6 v7 v8 v9 v10 v11 v12 v13 v14 v15 (some (.val (rowA r))) v17 v18) (fun r => plA r.1) b.rows (fun x _ => rfl) (fun x _ => by simp [pureI, rowA])
theorem prs_eq (b : Bk) (p : List Str) (ns : List Int) (v1 v2 v3 v4 v7 v8 v9 v11 v12 v13 v14 v15 v16 v17 v18 : Option FV) (h : AH) (v : Bool) : ev v (.comp .enum (.cons (.slot 5) .nil) (.tp [17, 16]) (.cmp .eq (.sub (.slot 16) (.con (.int 0))) (.slot 10)) (.tup (.cons (.bi .abs (.cons (.bin .sub (.slot 17) (.slot 6)) .nil)) (.cons (.bin .sub (.slot 17) (.slot 6)) .nil))) [17, 16]) (env ns v1 v2 v3 v4 (some (.val (.lst (b.rows.map rowA)))) (some (.val (.int (b.at_ : Int)))) v7 v8 v9 (some (.val (plA p))) v11 v12 v13 v14 v15 v16 v17 v18) h = .ok (.lst ((b.cands p).map prA)) h := by
  unfold Bk.cands
  rw [List.map_map]
  obtain ⟨L, hL⟩ : ∃ L, L = AV.lst (b.rows.map rowA) := ⟨_, rfl⟩
  have vL : ∀ h, vw h L = L := fun h => by rw [hL]; rfl
  refine comp_ok (xs := [L]) (l := b.rows.zipIdx.map fun r => .tup [.int (r.2 : Int), rowA r.1]) (by rw [← hL]; simp [pureI, slotV, vL]) (by rw [hL]; show some (pairL _) = _; rw [pairL_map]) ?_
  rw [← hL]
  refine compL_map (fun r : (List Str × Int) × Nat => AV.tup [.int (r.2 : Int), rowA r.1]) (fun r => env ns v1 v2 v3 v4 (some (.val L)) (some (.val (.int (b.at_ : Int)))) v7 v8 v9 (some (.val (plA p))) v11 v12 v13 v14 v15 (some (.val (rowA r.1))) (some (.val (.int (r.2 : Int)))) v18) (fun r => decide (r.1.1 = p)) (fun r => prA (farP b.at_ r.2)) b.rows.zipIdx (fun r _ => by simp [wipeE, setTg, setL]) (fun r _ => ?_) (fun r _ _ => ?_)
  · simp [pureI, rowA]
  · simp [pureI, prA, farP]
theorem law_true : ∀ ns : List Int, ns.length ≤ 63 → (∀ z ∈ ns, Builtin.Int.intBits z ≤ 1048576) → ∃ h, f_law [.scr ns] [] = .ok (.bl true) h := by
  intro ns hl _
  have ed := fun k m (hm : 0 < m) h => drawn_eq hl k m hm h
  have ep := fun k h => place_eq hl k h
  have d5 := drawn_lt (ns := ns) (k := 5) (m := 6) (by decide)
  obtain ⟨M, hM⟩ : ∃ M : Nat, 1 + drawn ns 5 6 = (M : Int) := ⟨(1 + drawn ns 5 6).toNat, by omega⟩
  have hM2 : 1 ≤ M ∧ M ≤ 6 := by omega
  obtain ⟨p0, hp0⟩ : ∃ p, p = placeV ns 0 := ⟨_, rfl⟩
  have ep0 := fun h => ep 0 h
  rw [← hp0] at ep0
  simp only [pl_def] at ep0
  obtain ⟨b0, hb0⟩ : ∃ b0 : Bk, b0 = ⟨M, [(p0, 0)], 0⟩ := ⟨_, rfl⟩
  have ok0 : b0.Ok := by rw [hb0]; exact ⟨by show 0 < M; omega, by show M ≤ 100; omega, Nat.zero_lt_one, by show 1 ≤ M; omega⟩
  have hI : f_Book_init [.ref 0, .tup (p0.map .str), .int (M : Int)] [.ins 0 []] = .ok .non [bookO b0] := by
    rw [hb0]
    exact Book_init (h := [.ins 0 []]) (n := 0) rfl p0 (M : Int) (by omega)
  have hI1 : f_Book_init [.ref 1, .tup (p0.map .str), .int (M : Int)] [bookO b0, .ins 0 []] = .ok .non [bookO b0, bookO b0] := by
    have := Book_init (h := [bookO b0, .ins 0 []]) (n := 1) rfl p0 (M : Int) (by omega)
    rw [m0]
    rw [hb0] at this ⊢
    exact this
  let V1 : Option FV := some (.val (plA p0))
  let V2 : Option FV := some (.val (.int (M : Int)))
  let V3 : Option FV := some (.val (.ref 0))
  let V4 : Option FV := some (.val (.ref 1))
  let none14 := none (α := FV)
  have s0 : ex q_0 (env ns none none none none none none none none none none none none none none none none none none) [] = .nx (env ns V1 none none none none none none none none none none none none none none none none none) [] := by
    unfold q_0
    simp [V1, pureI, e_place, ep0]
  have s1 : ex q_1 (env ns V1 none none none none none none none none none none none none none none none none none) [] = .nx (env ns V1 V2 none none none none none none none none none none none none none none none none) [] := by
    unfold q_1
    have := ed 5 6 (by decide) []
    simp [V2, pureI, e_drawn, this, hM]
  have s2 : ex q_2 (env ns V1 V2 none none none none none none none none none none none none none none none none) [] = .nx (env ns V1 V2 V3 none none none none none none none none none none none none none none none) [bookO b0] := by
    unfold q_2
    simp [V1, V2, V3, pureI, hI]
  have s3 : ex q_3 (env ns V1 V2 V3 none none none none none none none none none none none none none none none) [bookO b0] = .nx (env ns V1 V2 V3 V4 none none none none none none none none none none none none none none) [bookO b0, bookO b0] := by
    unfold q_3
    simp [V1, V2, V3, V4, pureI, hI1]
  let Ee : Bk → Option FV → Option FV → Option FV → Option FV → Option FV → Option FV → Option FV → Option FV → Option FV → Option FV → Option FV → Option FV → En := fun b v7 v8 v9 v10 v11 v12 v13 v14 v15 v16 v17 v18 => env ns V1 V2 V3 V4 (some (.val (.lst (b.rows.map rowA)))) (some (.val (.int (b.at_ : Int)))) v7 v8 v9 v10 v11 v12 v13 v14 v15 v16 v17 v18
  have s4 : ex q_4 (env ns V1 V2 V3 V4 none none none none none none none none none none none none none none) [bookO b0, bookO b0] = .nx (env ns V1 V2 V3 V4 (some (.val (.lst (b0.rows.map rowA)))) none none none none none none none none none none none none none) [bookO b0, bookO b0] := by
    unfold q_4
    rw [hb0]
    simp [V1, pureI, rowA]
  have s5 : ex q_5 (env ns V1 V2 V3 V4 (some (.val (.lst (b0.rows.map rowA)))) none none none none none none none none none none none none none) [bookO b0, bookO b0] = .nx (Ee b0 none none none none none none none none none none none none) [bookO b0, bookO b0] := by
    unfold q_5
    have : b0.at_ = 0 := by rw [hb0]
    simp [Ee, this]
  have hn10 : loopN ns 10 ≤ 10 := by
    unfold loopN
    split <;> (try split) <;> omega
  have l1 : ∀ a c d : FV, lookF "replace" (bookF a c d) = none := fun a c d => by kernel_rfl
  have lN : ∀ a c d : FV, lookF "nearest" (bookF a c d) = none := fun a c d => by kernel_rfl
  obtain ⟨e9, h9, s9, B, okB, hBm, u7, u8, u9, u10, u11, u12, u13, u14, u15, u16, u17, u18, he9, hh9⟩ := forL_rng (s := stepF (.nm 7) b_law_1) (e := Ee b0 none none none none none none none none none none none none) (h := [bookO b0, bookO b0])
    (fun j e h => ∃ b : Bk, b.Ok ∧ b.most = M ∧ ∃ (v7 v8 v9 v10 v11 v12 v13 v14 v15 v16 v17 v18 : Option FV), e = Ee b v7 v8 v9 v10 v11 v12 v13 v14 v15 v16 v17 v18 ∧ h = [bookO b, bookO b0]) (loopN ns 10) (by
      rintro j hj e h ⟨b, ok, hbm, v7, v8, v9, v10, v11, v12, v13, v14, v15, v16, v17, v18, rfl, rfl⟩
      rw [step_nm, if_pos (by simp [Ee])]
      obtain ⟨h, hh⟩ : ∃ h, h = ([bookO b, bookO b0] : AH) := ⟨_, rfl⟩
      have dw := drawn_lt (ns := ns) (k := 20 + 12 * (j : Int)) (m := 10) (by decide)
      obtain ⟨dn, hdn⟩ : ∃ d : Nat, drawn ns (20 + 12 * (j : Int)) 10 = (d : Int) := ⟨_, (Int.toNat_of_nonneg dw.1).symm⟩
      obtain ⟨way, hway, hat9⟩ : ∃ way : Nat, way ≤ 5 ∧ atI [AV.int 0, .int 0, .int 0, .int 1, .int 2, .int 2, .int 2, .int 3, .int 4, .int 5] (dn : Int) = some (.int (way : Int)) := by
        have h9 : dn = 0 ∨ dn = 1 ∨ dn = 2 ∨ dn = 3 ∨ dn = 4 ∨ dn = 5 ∨ dn = 6 ∨ dn = 7 ∨ dn = 8 ∨ dn = 9 := by omega
        rcases h9 with rfl | rfl | rfl | rfl | rfl | rfl | rfl | rfl | rfl | rfl
        · exact ⟨0, by decide, rfl⟩
        · exact ⟨0, by decide, rfl⟩
        · exact ⟨0, by decide, rfl⟩
        · exact ⟨1, by decide, rfl⟩
        · exact ⟨2, by decide, rfl⟩
        · exact ⟨2, by decide, rfl⟩
        · exact ⟨2, by decide, rfl⟩
        · exact ⟨3, by decide, rfl⟩
        · exact ⟨4, by decide, rfl⟩
        · exact ⟨5, by decide, rfl⟩
      have ed0 := ed (20 + 12 * (j : Int)) 10 (by decide)
      rw [hdn] at ed0
      have ed6 := ed (20 + 12 * (j : Int) + 6) 7 (by decide)
      obtain ⟨k, hk⟩ : ∃ k, k = drawn ns (20 + 12 * (j : Int) + 6) 7 - 3 := ⟨_, rfl⟩
      have p1 := ep (20 + 12 * (j : Int) + 1)
      obtain ⟨p, hp⟩ : ∃ p, p = (placeV ns (20 + 12 * (j : Int) + 1)).take 2 := ⟨_, rfl⟩
      simp only [pl_def] at p1
      obtain ⟨c, hc⟩ : ∃ c, c = actB b way p k := ⟨_, rfl⟩
      have okc : c.Ok := by rw [hc]; exact act_ok ok way p k
      have hcm : c.most = M := by rw [hc, act_most, hbm]
      have q0 : h[0]? = some (bookO b) := by rw [hh]; rfl
      have tl := told_eq q0 ok hway p k
      have dn_ := fun h => done_eq ok hway p k h
      rw [← hc] at tl dn_
      rw [hbm] at dn_
      have an := ans_act b way p k
      obtain ⟨due, hdue⟩ : ∃ d, d = actA b way p k := ⟨_, rfl⟩
      rw [← hdue] at tl dn_ an
      obtain ⟨h', hh'⟩ : ∃ h', h' = ([bookO c, bookO b0] : AH) := ⟨_, rfl⟩
      have tl : f_l_told [.ref 0, .int (way : Int), plA p, .int k] h = .ok due h' := by rw [tl, hh', hh]; rfl
      let V7 : Option FV := some (.val (.int (j : Int)))
      let V8 : Option FV := some (.val (.int (20 + 12 * (j : Int))))
      let V9 : Option FV := some (.val (.int (way : Int)))
      let V10 : Option FV := some (.val (plA p))
      let V11 : Option FV := some (.val (.int k))
      let V14 : Option FV := some (.val due)
      have x0 : ex q_b1_0 (Ee b V7 v8 v9 v10 v11 v12 v13 v14 v15 v16 v17 v18) h = .nx (Ee b V7 V8 v9 v10 v11 v12 v13 v14 v15 v16 v17 v18) h := by
        unfold q_b1_0
        simp [Ee, V7, V8, pureI]
      have x1 : ex q_b1_1 (Ee b V7 V8 v9 v10 v11 v12 v13 v14 v15 v16 v17 v18) h = .nx (Ee b V7 V8 V9 v10 v11 v12 v13 v14 v15 v16 v17 v18) h := by
        unfold q_b1_1
        simp [Ee, V8, V9, pureI, e_drawn, ed0, hat9]
      have x2 : ex q_b1_2 (Ee b V7 V8 V9 v10 v11 v12 v13 v14 v15 v16 v17 v18) h = .nx (Ee b V7 V8 V9 V10 v11 v12 v13 v14 v15 v16 v17 v18) h := by
        unfold q_b1_2
        have k2 : ∀ l : List Str, cutA (l.map AV.str) none (some 2) = (l.take 2).map .str := fun l => by rw [List.map_take]; exact cut_to (l.map AV.str) 2
        simp [Ee, V8, V10, pureI, e_place, p1, k2, hp]
      have x3 : ex q_b1_3 (Ee b V7 V8 V9 V10 v11 v12 v13 v14 v15 v16 v17 v18) h = .nx (Ee b V7 V8 V9 V10 V11 v12 v13 v14 v15 v16 v17 v18) h := by
        unfold q_b1_3
        simp [Ee, V8, V11, pureI, e_drawn, ed6, hk]
      have x4 : ex q_b1_4 (Ee b V7 V8 V9 V10 V11 v12 v13 v14 v15 v16 v17 v18) h = .nx (Ee c V7 V8 V9 V10 V11 v12 v13 V14 v15 v16 v17 v18) h := by
        have ee : ev false (.call f_l_done (.cons (.slot 5) (.cons (.slot 6) (.cons (.slot 9) (.cons (.slot 10) (.cons (.slot 11) (.cons (.slot 2) .nil))))))) (Ee b V7 V8 V9 V10 V11 v12 v13 v14 v15 v16 v17 v18) h = .ok (.tup [.lst (c.rows.map rowA), .int (c.at_ : Int), due]) h := by
          have dn_ := dn_ h
          obtain ⟨L, hL⟩ : ∃ L, L = AV.lst (b.rows.map rowA) := ⟨_, rfl⟩
          obtain ⟨P, hP⟩ : ∃ P, P = plA p := ⟨_, rfl⟩
          have vL : ∀ h, vw h L = L := fun h => by rw [hL]; rfl
          have vP : ∀ h, vw h P = P := fun h => by rw [hP]; rfl
          have hV10 : V10 = some (.val P) := by rw [hP]
          rw [← hL, ← hP] at dn_
          simp only [Ee, ← hL, hV10]
          simp [V2, V9, V11, pureI, slotV, vL, vP, dn_]
        unfold q_b1_4
        rw [ex_asg, ee]
        rfl
      have x5 : ex q_b1_5 (Ee c V7 V8 V9 V10 V11 v12 v13 V14 v15 v16 v17 v18) h = .nx (Ee c V7 V8 V9 V10 V11 v12 v13 V14 v15 v16 v17 v18) h' := by
        unfold q_b1_5
        obtain ⟨P, hP⟩ : ∃ P, P = plA p := ⟨_, rfl⟩
        have vP : ∀ h, vw h P = P := fun h => by rw [hP]; rfl
        have hV10 : V10 = some (.val P) := by rw [hP]
        rw [← hP] at tl
        rw [hV10]
        simp [Ee, V3, V9, V11, V14, pureI, slotV, vP, an.vw, tl, an.fr, an.eq]
      have q' : h'[0]? = some (bookO c) := by rw [hh']; rfl
      have mm : ∀ {f : Str} {F : Sem} (hf : lookF f (bookF (.val (.int (c.most : Int))) (.own (.lst (c.rows.map rowA))) (.val (.int (c.at_ : Int)))) = none), methOf f [(0, F)] (.ref 0) h' = some (0, F) := fun hf => meth_at q' hf rfl
      have bm := bk_meth (.val (.int (c.most : Int))) (.own (.lst (c.rows.map rowA))) (.val (.int (c.at_ : Int)))
      have kN := Book_now q' okc
      have kM := Book_marked q' okc
      have kU := Book_number q'
      have kE := Book_entries q'
      have kR := Book_nearest q' p
      have kC := fun by_ => Book_can q' by_
      simp only [plA_def] at kN
      have sub0 : ∀ h, doSub (.lst (c.rows.map rowA)) (.int (c.at_ : Int)) h = .ok (.tup [plA c.now, .int c.marked]) h := fun h => by
        show okO (atI (c.rows.map rowA) (c.at_ : Int)) h = _
        rw [Ab.atI_nat, List.getElem?_map, c.row okc]; rfl
      have x6 : ex q_b1_6 (Ee c V7 V8 V9 V10 V11 v12 v13 V14 v15 v16 v17 v18) h' = .nx (Ee c V7 V8 V9 V10 V11 v12 v13 V14 v15 v16 v17 v18) h' := by
        have ent := fun v => ents_eq c ns V1 V2 V3 V4 (some (.val (.int (c.at_ : Int)))) V7 V8 V9 V10 V11 v12 v13 V14 v15 v16 v17 v18 h' v
        have eqE : eqA (.lst (c.entries.map plA)) (.lst (c.entries.map plA)) = some true := by
          rw [eqA_of (good_lst good_pl) (by decide) c.entries c.entries, decide_eq_true rfl]
        obtain ⟨ET, hET⟩ : ∃ E, E = AV.lst (c.entries.map plA) := ⟨_, rfl⟩
        obtain ⟨L, hL⟩ : ∃ L, L = AV.lst (c.rows.map rowA) := ⟨_, rfl⟩
        have vL : ∀ h, vw h L = L := fun h => by rw [hL]; rfl
        have fE : ∀ v h, fresh v ET h = .ok ET h := fun v h => by rw [hET]; cases v <;> rfl
        rw [← hET] at eqE kE
        rw [← hL] at sub0
        simp only [← hET, ← hL] at ent
        unfold q_b1_6
        simp only [Ee, ← hL]
        simp [V3, pureI, slotV, vL, mm bm.1, mm bm.2.2.1, mm bm.2.2.2.1, m7, m8, m9, kN, kU, kE, sub0, ent, eqE, fE]
      obtain ⟨P, hP⟩ : ∃ P, P = plA p := ⟨_, rfl⟩
      let V12 : Option FV := some (.val (.lst (((c.cands p).mergeSort lePb).map prA)))
      have x7 : ex q_b1_7 (Ee c V7 V8 V9 V10 V11 v12 v13 V14 v15 v16 v17 v18) h' = .nx (Ee c V7 V8 V9 V10 V11 V12 v13 V14 v15 v16 v17 v18) h' := by
        have pe := fun v => prs_eq c p ns V1 V2 V3 V4 V7 V8 V9 V11 v12 v13 V14 v15 v16 v17 v18 h' v
        have sp := srtA_pr (c.cands p)
        unfold q_b1_7
        rw [ex_asg, ev_bi, ev_cons, pe, R.bind_ok]
        show R.thn (doBi .srt [.lst ((c.cands p).map prA)] h') _ _ = _
        rw [srt_lst, sp]
        rfl
      have x8 : ex q_b1_8 (Ee c V7 V8 V9 V10 V11 V12 v13 V14 v15 v16 v17 v18) h' = .nx (Ee c V7 V8 V9 V10 V11 V12 v13 V14 v15 v16 v17 v18) h' := by
        have ne := fun v => show ev v (.meth "nearest" [(0, f_Book_nearest)] (.slot 3) (.cons (.slot 10) .nil)) (Ee c V7 V8 V9 V10 V11 V12 v13 V14 v15 v16 v17 v18) h' = .ok (nearA (c.near p)) h' by
          obtain ⟨P, hP⟩ : ∃ P, P = plA p := ⟨_, rfl⟩
          have fP : ∀ v h, fresh v P h = .ok P h := fun v h => by rw [hP]; cases v <;> rfl
          have hV10 : V10 = some (.val P) := by rw [hP]
          rw [← hP] at kR
          rw [hV10]
          have vP : ∀ h, vw h P = P := fun h => by rw [hP]; rfl
          have fN : ∀ v h, fresh v (nearA (c.near p)) h = .ok (nearA (c.near p)) h := fun v h => by cases c.near p <;> cases v <;> rfl
          simp [Ee, V3, pureI, slotV, vP, mm (lN _ _ _), m11, kR, fN]
        have le : ev true (.sub (.bin .add (.comp .seq (.cons (.slot 12) .nil) (.nm 18) (.con (.bl true)) (.sub (.slot 18) (.con (.int 1))) [18]) (.lst (.cons (.con .non) .nil))) (.con (.int 0))) (Ee c V7 V8 V9 V10 V11 V12 v13 V14 v15 v16 v17 v18) h' = .ok (nearA (c.near p)) h' := by
          have hcl : (c.cands p).length ≤ 100 := by
            unfold Bk.cands
            rw [List.length_map]
            have := List.length_filter_le (fun r : (List Str × Int) × Nat => decide (r.1.1 = p)) c.rows.zipIdx
            rw [List.length_zipIdx] at this
            have a1 := okc.len
            have a2 := okc.m1
            omega
          obtain ⟨S, hS⟩ : ∃ S, S = (c.cands p).mergeSort lePb := ⟨_, rfl⟩
          have hSl : S.length ≤ 100 := by rw [hS, List.length_mergeSort]; exact hcl
          have hV12 : V12 = some (.val (.lst (S.map prA))) := by rw [hS]
          have cs : ∀ v, ev v (.comp .seq (.cons (.slot 12) .nil) (.nm 18) (.con (.bl true)) (.sub (.slot 18) (.con (.int 1))) [18]) (Ee c V7 V8 V9 V10 V11 V12 v13 V14 v15 v16 v17 v18) h' = .ok (.lst (S.map fun x => .int x.2)) h' := fun v => by
            rw [hV12]
            obtain ⟨L, hL⟩ : ∃ L, L = AV.lst (S.map prA) := ⟨_, rfl⟩
            have vL : ∀ h, vw h L = L := fun h => by rw [hL]; rfl
            refine comp_ok (xs := [L]) (l := S.map prA) (by rw [← hL]; simp [Ee, pureI, slotV, vL]) (by rw [hL]; rfl) ?_
            rw [← hL]
            exact compL_all prA (fun r => Ee c V7 V8 V9 V10 V11 (some (.val L)) v13 V14 v15 v16 v17 (some (.val (prA r)))) (fun r => .int r.2) S (fun x _ => rfl) (fun x _ => by simp [Ee, pureI, prA])
          have hn : ∀ h, doSub (.lst (S.map (fun x => AV.int x.2) ++ [.non])) (.int 0) h = .ok (nearA (c.near p)) h := fun h => by
            unfold Bk.near
            cases e : c.cands p with
            | nil =>
              have : S = [] := by
                rw [e] at hS
                have := congrArg List.length hS
                rw [List.length_mergeSort] at this
                exact List.length_eq_zero_iff.mp this
              rw [this]; rfl
            | cons x ps =>
              obtain ⟨S', hS'⟩ := srt_head x ps
              rw [e, hS'] at hS
              rw [hS]
              show okO (atI (AV.int (minPr x ps).2 :: _) ((0 : Nat) : Int)) h = _
              rw [Ab.atI_nat]; rfl
          obtain ⟨T, hT⟩ : ∃ T, T = S.map fun x => AV.int x.2 := ⟨_, rfl⟩
          have tl : T.length + 1 ≤ 16777216 := by rw [hT, List.length_map]; omega
          rw [← hT] at hn
          rw [ev_sub]
          have e1 : ∀ v, ev v (.bin .add (.comp .seq (.cons (.slot 12) .nil) (.nm 18) (.con (.bl true)) (.sub (.slot 18) (.con (.int 1))) [18]) (.lst (.cons (.con .non) .nil))) (Ee c V7 V8 V9 V10 V11 V12 v13 V14 v15 v16 v17 v18) h' = .ok (.lst (T ++ [.non])) h' := fun v => by
            rw [ev_bin, cs, ← hT]
            simp [tl]
          rw [e1]
          have fN : ∀ v h, fresh v (nearA (c.near p)) h = .ok (nearA (c.near p)) h := fun v h => by cases c.near p <;> cases v <;> rfl
          simp [hn, fN]
        have eqN : eqA (nearA (c.near p)) (nearA (c.near p)) = some true := by cases c.near p <;> simp
        have c1 : ev true (.cmp .ne (.meth "marked" [(0, f_Book_marked)] (.slot 3) .nil) (.sub (.sub (.slot 5) (.slot 6)) (.con (.int 1)))) (Ee c V7 V8 V9 V10 V11 V12 v13 V14 v15 v16 v17 v18) h' = .ok (.bl false) h' := by
          obtain ⟨L, hL⟩ : ∃ L, L = AV.lst (c.rows.map rowA) := ⟨_, rfl⟩
          have vL : ∀ h, vw h L = L := fun h => by rw [hL]; rfl
          rw [← hL] at sub0
          simp only [Ee, ← hL]
          simp [V3, pureI, slotV, vL, mm bm.2.2.2.2.2.2, m10, kM, sub0]
        have c2 : ev true (.cmp .ne (.meth "nearest" [(0, f_Book_nearest)] (.slot 3) (.cons (.slot 10) .nil)) (.sub (.bin .add (.comp .seq (.cons (.slot 12) .nil) (.nm 18) (.con (.bl true)) (.sub (.slot 18) (.con (.int 1))) [18]) (.lst (.cons (.con .non) .nil))) (.con (.int 0)))) (Ee c V7 V8 V9 V10 V11 V12 v13 V14 v15 v16 v17 v18) h' = .ok (.bl false) h' := by
          rw [ev_cmp, ne, R.bind_ok, le, R.bind_ok]
          simp [eqN]
        unfold q_b1_8
        refine ex_if_no ?_
        rw [ev_or, c1, R.bind_ok]
        exact c2
      obtain ⟨w13, w15, x9⟩ : ∃ w13 w15, ex q_b1_9 (Ee c V7 V8 V9 V10 V11 V12 v13 V14 v15 v16 v17 v18) h' = .nx (Ee c V7 V8 V9 V10 V11 V12 w13 V14 w15 v16 v17 v18) h' := by
        obtain ⟨e1, h1, sl, w13, w15, he1, hh1⟩ := forL_rngI (s := stepF (.nm 13) b_law_2) (e := Ee c V7 V8 V9 V10 V11 V12 v13 V14 v15 v16 v17 v18) (h := h')
          (fun _ e h => ∃ w13 w15, e = Ee c V7 V8 V9 V10 V11 V12 w13 V14 w15 v16 v17 v18 ∧ h = h') (-4) 9 (by
            rintro i hi e h2 ⟨w13, w15, he, hh⟩
            rw [he, hh]
            refine ⟨Ee c V7 V8 V9 V10 V11 V12 (some (.val (.int (-4 + (i : Int))))) V14 (some (.val (.bl (c.can (-4 + (i : Int)))))) v16 v17 v18, h', ?_, _, _, rfl, rfl⟩
            rw [step_nm, if_pos (by simp [Ee])]
            obtain ⟨I, hI⟩ : ∃ I : Int, I = -4 + (i : Int) := ⟨_, rfl⟩
            rw [← hI]
            have kC := kC I
            have hlen : ∀ h, doBi .len [.lst (c.rows.map rowA)] h = .ok (.int (c.rows.length : Int)) h := fun h => by simp
            obtain ⟨L, hL⟩ : ∃ L, L = AV.lst (c.rows.map rowA) := ⟨_, rfl⟩
            have vL : ∀ h, vw h L = L := fun h => by rw [hL]; rfl
            rw [← hL] at hlen
            unfold b_law_2
            simp only [Ee, ← hL]
            have hcan : c.can I = decide (0 ≤ (c.at_ : Int) + I ∧ (c.at_ : Int) + I < c.rows.length) := rfl
            by_cases a1 : 0 ≤ (c.at_ : Int) + I
            · by_cases a2 : (c.at_ : Int) + I < c.rows.length
              · rw [decide_eq_true ⟨a1, a2⟩] at hcan
                rw [hcan] at kC ⊢
                simp [V3, pureI, slotV, vL, mm bm.2.1, m12, kC, hlen, a1, a2]
              · rw [decide_eq_false (fun z => a2 z.2)] at hcan
                rw [hcan] at kC ⊢
                simp [V3, pureI, slotV, vL, mm bm.2.1, m12, kC, hlen, a1, a2]
            · rw [decide_eq_false (fun z => a1 z.1)] at hcan
              rw [hcan] at kC ⊢
              simp [V3, pureI, slotV, vL, mm bm.2.1, m12, kC, hlen, a1]) ⟨_, _, rfl, rfl⟩
        rw [he1, hh1] at sl
        refine ⟨w13, w15, ?_⟩
        unfold q_b1_9
        rw [for_ok (xs := [.int (-4), .int 5]) (l := rngL (-4) 9) (by simp [Ee, pureI]) (by unfold itemsA; simp only; rw [if_pos ⟨by omega, by omega, by omega, by omega, by rw [lim_def]; omega⟩]; rfl)]
        exact sl
      refine ⟨Ee c V7 V8 V9 V10 V11 V12 w13 V14 w15 v16 v17 v18, h', ?_, c, okc, hcm, V7, V8, V9, V10, V11, V12, w13, V14, w15, v16, v17, v18, rfl, hh'⟩
      rw [← hh]
      show ex b_law_1 (Ee b V7 v8 v9 v10 v11 v12 v13 v14 v15 v16 v17 v18) h = _
      unfold b_law_1 r_b1_0 r_b1_1 r_b1_2 r_b1_3 r_b1_4 r_b1_5 r_b1_6 r_b1_7 r_b1_8
      rw [ex_seq_of x0, ex_seq_of x1, ex_seq_of x2, ex_seq_of x3, ex_seq_of x4, ex_seq_of x5, ex_seq_of x6, ex_seq_of x7, ex_seq_of x8, x9]) ⟨b0, ok0, by rw [hb0], none, none, none, none, none, none, none, none, none, none, none, none, rfl, rfl⟩
  have f6 : ex q_6 (Ee b0 none none none none none none none none none none none none) [bookO b0, bookO b0] = .nx (Ee B u7 u8 u9 u10 u11 u12 u13 u14 u15 u16 u17 u18) [bookO B, bookO b0] := by
    unfold q_6
    rw [for_loopN hl 10 (by decide) (by decide) rfl, s9, he9, hh9]
  have qa : ([bookO B, bookO b0] : AH)[0]? = some (bookO B) := rfl
  have qb : ([bookO B, bookO b0] : AH)[1]? = some (bookO b0) := rfl
  have ma : ∀ {F : Sem}, methOf "entries" [(0, F)] (.ref 0) [bookO B, bookO b0] = some (0, F) := fun {F} => meth_at qa (bk_meth _ _ _).2.2.1 rfl
  have mb : ∀ {F : Sem}, methOf "entries" [(0, F)] (.ref 1) [bookO B, bookO b0] = some (1, F) := fun {F} => meth_at qb (bk_meth _ _ _).2.2.1 rfl
  have kA := Book_entries qa
  have kB := Book_entries qb
  have hB0 : b0.entries = [p0] := by rw [hb0]; rfl
  rw [hB0] at kB
  have ent := fun v => ents_eq B ns V1 V2 V3 V4 (some (.val (.int (B.at_ : Int)))) u7 u8 u9 u10 u11 u12 u13 u14 u15 u16 u17 u18 [bookO B, bookO b0] v
  have eqE : eqA (.lst (B.entries.map plA)) (.lst (B.entries.map plA)) = some true := by
    rw [eqA_of (good_lst good_pl) (by decide) B.entries B.entries, decide_eq_true rfl]
  have eqP : eqA (.lst ([p0].map plA)) (.lst ([p0].map plA)) = some true := by
    rw [eqA_of (good_lst good_pl) (by decide) [p0] [p0], decide_eq_true rfl]
  have hEl : (B.entries.map plA).length < LIM := by
    rw [List.length_map, lim_def]
    have := okB.len
    have := okB.m1
    unfold Bk.entries
    rw [List.length_map]
    omega
  have f7 : ex q_7 (Ee B u7 u8 u9 u10 u11 u12 u13 u14 u15 u16 u17 u18) [bookO B, bookO b0] = .nx (Ee B u7 u8 u9 u10 u11 u12 u13 u14 u15 u16 u17 u18) [bookO B, bookO b0] := by
    have ar : appR "entries" 0 f_Book_entries (.slot 3) .nil (Ee B u7 u8 u9 u10 u11 u12 u13 u14 u15 u16 u17 u18) [bookO B, bookO b0] = .ok (.lst (B.entries.map plA)) [bookO B, bookO b0] := by
      unfold appR
      have e1 : ev false (.slot 3) (Ee B u7 u8 u9 u10 u11 u12 u13 u14 u15 u16 u17 u18) [bookO B, bookO b0] = .ok (.ref 0) [bookO B, bookO b0] := by simp [Ee, V3]
      rw [e1, R.bind_ok, ma]
      show R.bind (f_Book_entries [.ref 0] [bookO B, bookO b0]) ownR = _
      rw [m9, kA]
      rfl
    show R.thn (appR "entries" 0 f_Book_entries (.slot 3) .nil (Ee B u7 u8 u9 u10 u11 u12 u13 u14 u15 u16 u17 u18) [bookO B, bookO b0]) _ _ = _
    rw [ar]
    show (if (B.entries.map plA).length < LIM then RS.nx (Ee B u7 u8 u9 u10 u11 u12 u13 u14 u15 u16 u17 u18) [bookO B, bookO b0] else .bad) = _
    rw [if_pos hEl]
  have f8 : ex q_8 (Ee B u7 u8 u9 u10 u11 u12 u13 u14 u15 u16 u17 u18) [bookO B, bookO b0] = .ret (.bl true) [bookO B, bookO b0] := by
    obtain ⟨EB, hEB⟩ : ∃ E, E = AV.lst (B.entries.map plA) := ⟨_, rfl⟩
    obtain ⟨PB, hPB⟩ : ∃ E, E = plA p0 := ⟨_, rfl⟩
    have fE : ∀ v h, fresh v EB h = .ok EB h := fun v h => by rw [hEB]; cases v <;> rfl
    have vP : ∀ h, vw h PB = PB := fun h => by rw [hPB]; rfl
    have hV1 : V1 = some (.val PB) := by rw [hPB]
    simp only [List.map_cons, List.map_nil, ← hPB] at kB eqP
    simp only [← hEB] at kA ent eqE
    have c1 : ∀ v, ev v (.cmp .eq (.meth "entries" [(0, f_Book_entries)] (.slot 3) .nil) (.comp .seq (.cons (.slot 5) .nil) (.nm 16) (.con (.bl true)) (.sub (.slot 16) (.con (.int 0))) [16])) (Ee B u7 u8 u9 u10 u11 u12 u13 u14 u15 u16 u17 u18) [bookO B, bookO b0] = .ok (.bl true) [bookO B, bookO b0] := fun v => by
      have e1 : ∀ v, ev v (.meth "entries" [(0, f_Book_entries)] (.slot 3) .nil) (Ee B u7 u8 u9 u10 u11 u12 u13 u14 u15 u16 u17 u18) [bookO B, bookO b0] = .ok EB [bookO B, bookO b0] := fun v => by
        simp [Ee, V3, pureI, ma, m9, kA, fE]
      have e2 : ∀ v, ev v (.comp .seq (.cons (.slot 5) .nil) (.nm 16) (.con (.bl true)) (.sub (.slot 16) (.con (.int 0))) [16]) (Ee B u7 u8 u9 u10 u11 u12 u13 u14 u15 u16 u17 u18) [bookO B, bookO b0] = .ok EB [bookO B, bookO b0] := ent
      rw [ev_cmp, e1, R.bind_ok, e2, R.bind_ok]
      simp [eqE]
    have c2 : ∀ v, ev v (.cmp .eq (.meth "entries" [(0, f_Book_entries)] (.slot 4) .nil) (.lst (.cons (.slot 1) .nil))) (Ee B u7 u8 u9 u10 u11 u12 u13 u14 u15 u16 u17 u18) [bookO B, bookO b0] = .ok (.bl true) [bookO B, bookO b0] := fun v => by
      simp only [Ee, hV1]
      simp [V4, pureI, slotV, vP, mb, m9, kB, eqP, -eqA_lst]
    unfold q_8
    rw [ex_ret, ev_and, c1, R.bind_ok]
    show R.thn (ev false (.cmp .eq (.meth "entries" [(0, f_Book_entries)] (.slot 4) .nil) (.lst (.cons (.slot 1) .nil))) (Ee B u7 u8 u9 u10 u11 u12 u13 u14 u15 u16 u17 u18) [bookO B, bookO b0]) _ _ = _
    rw [c2]; rfl
  refine ⟨[bookO B, bookO b0], ?_⟩
  unfold f_law
  refine run_of ?_
  show ex i_law (env ns none none none none none none none none none none none none none none none none none none) [] = _
  unfold i_law r_0 r_1 r_2 r_3 r_4 r_5 r_6 r_7
  rw [ex_seq_of s0, ex_seq_of s1, ex_seq_of s2, ex_seq_of s3, ex_seq_of s4, ex_seq_of s5, ex_seq_of f6, ex_seq_of f7, f8]
end Lw

namespace Lw
open PySem PySem.Spec PyProof.Rows L2 Ab
theorem all_mk {P : Program} {w : World} {K : PySem.W.Frag} {h : Heap} {mg : Str → Option Value} {fa : Addr} (X : K.In h) (G : h.Ns mainGlobals mg) (hfa : mg "law" = some (.ref fa))
    {C0 : Addr}
    {X0 : Addr}
    {X1 : Addr}
    {X2 : Addr}
    {X3 : Addr}
    {X4 : Addr}
    {f0 : Addr} {oc0 kV0 dc0 pm0 cd0 ct0 : Value} {od0 an0 : Option Addr} {sl0 : Array (Option Value)}
    {f1 : Addr} {oc1 kV1 dc1 pm1 cd1 ct1 : Value} {od1 an1 : Option Addr} {sl1 : Array (Option Value)}
    {f2 : Addr} {oc2 kV2 dc2 pm2 cd2 ct2 : Value} {od2 an2 : Option Addr} {sl2 : Array (Option Value)}
    {f3 : Addr} {oc3 kV3 dc3 pm3 cd3 ct3 : Value} {od3 an3 : Option Addr} {sl3 : Array (Option Value)}
    {f4 : Addr} {oc4 kV4 dc4 pm4 cd4 ct4 : Value} {od4 an4 : Option Addr} {sl4 : Array (Option Value)}
    {f5 : Addr} {oc5 kV5 dc5 pm5 cd5 ct5 : Value} {od5 an5 : Option Addr} {sl5 : Array (Option Value)}
    {f6 : Addr} {oc6 kV6 dc6 pm6 cd6 ct6 : Value} {od6 an6 : Option Addr} {sl6 : Array (Option Value)}
    {f7 : Addr} {oc7 kV7 dc7 pm7 cd7 ct7 : Value} {od7 an7 : Option Addr} {sl7 : Array (Option Value)}
    {f8 : Addr} {oc8 kV8 dc8 pm8 cd8 ct8 : Value} {od8 an8 : Option Addr} {sl8 : Array (Option Value)}
    {f9 : Addr} {oc9 kV9 dc9 pm9 cd9 ct9 : Value} {od9 an9 : Option Addr} {sl9 : Array (Option Value)}
    {f10 : Addr} {oc10 kV10 dc10 pm10 cd10 ct10 : Value} {od10 an10 : Option Addr} {sl10 : Array (Option Value)}
    {f11 : Addr} {oc11 kV11 dc11 pm11 cd11 ct11 : Value} {od11 an11 : Option Addr} {sl11 : Array (Option Value)}
    {f12 : Addr} {oc12 kV12 dc12 pm12 cd12 ct12 : Value} {od12 an12 : Option Addr} {sl12 : Array (Option Value)}
    {f13 : Addr} {oc13 kV13 dc13 pm13 cd13 ct13 : Value} {od13 an13 : Option Addr} {sl13 : Array (Option Value)}
    {f14 : Addr} {oc14 kV14 dc14 pm14 cd14 ct14 : Value} {od14 an14 : Option Addr} {sl14 : Array (Option Value)}
    {f15 : Addr} {oc15 kV15 dc15 pm15 cd15 ct15 : Value} {od15 an15 : Option Addr} {sl15 : Array (Option Value)}
    {f16 : Addr} {oc16 kV16 dc16 pm16 cd16 ct16 : Value} {od16 an16 : Option Addr} {sl16 : Array (Option Value)}
    {f17 : Addr} {oc17 kV17 dc17 pm17 cd17 ct17 : Value} {od17 an17 : Option Addr} {sl17 : Array (Option Value)}
    {f18 : Addr} {oc18 kV18 dc18 pm18 cd18 ct18 : Value} {od18 an18 : Option Addr} {sl18 : Array (Option Value)}
    {f19 : Addr} {oc19 kV19 dc19 pm19 cd19 ct19 : Value} {od19 an19 : Option Addr} {sl19 : Array (Option Value)}
    (o0a : PySem.W.nsIn K mainGlobals "Book" = some (some (.ref C0))) (o0g : PySem.W.plainGet K C0 Str.empty = true) (o0h : PySem.W.hasDictIn K C0 = true) (o0p : PySem.W.plainOver K C0 = true) (o0s : PySem.W.findIn K (.ref C0) "__setattr__" = some (some (.builtin "object.__setattr__")))
    (o0f0 : PySem.W.findIn K (.ref C0) "most" = some none)
    (o0f1 : PySem.W.findIn K (.ref C0) "rows" = some none)
    (o0f2 : PySem.W.findIn K (.ref C0) "at" = some none)
    (o0m : PySem.W.makesIn K C0 = true) (o0k : PySem.W.keepIn K (.ref C0) = true)
    (x0a : PySem.W.nsIn K mainGlobals "BookError" = some (some (.ref X0)))
    (x1a : PySem.W.nsIn K mainGlobals "NoPlace" = some (some (.ref X1)))
    (x1q : PySem.W.excIn K X1 [.type "ValueError", .type "Exception", .type "BaseException", .type "object"] "ValueError.__new__" = true) (x1k : PySem.W.keepIn K (.ref X1) = true) (x1s : PySem.W.subIn K (.ref X1) (.type "BaseException") = some true) (x1t : PySem.W.typeIn K (.ref X1) = some (.type "type"))
    (x2a : PySem.W.nsIn K mainGlobals "NoPane" = some (some (.ref X2)))
    (x3a : PySem.W.nsIn K mainGlobals "Taken" = some (some (.ref X3)))
    (x4a : PySem.W.nsIn K mainGlobals "Round" = some (some (.ref X4)))
    (e0_0 : PySem.W.subIn K (.ref X0) (.ref X0) = some true)
    (e0_1 : PySem.W.subIn K (.ref X1) (.ref X0) = some true)
    (e0_2 : PySem.W.subIn K (.ref X2) (.ref X0) = some true)
    (e0_3 : PySem.W.subIn K (.ref X3) (.ref X0) = some true)
    (e0_4 : PySem.W.subIn K (.ref X4) (.ref X0) = some true)
    (h0a : PySem.W.hasDictIn K X0 = true) (h0b : PySem.W.subIn K (.ref X0) (.type "BaseException") = some true) (h0c : PySem.W.typeIn K (.ref X0) = some (.type "type"))
    (yn : PySem.W.specialIn K (.builtin "object.__class__") "__get__" = some (some (.builtin "getset_descriptor.__get__"))) (yt : PySem.W.takesIn K (.builtin "object.__class__") = some true)
    (y0a : PySem.W.findIn K (.ref X0) "__getattribute__" = some (some (.builtin "BaseException.__getattribute__"))) (y0b : PySem.W.findIn K (.ref X0) "__getattr__" = some none) (y0c : PySem.W.subIn K (.ref X0) (.type "BaseException") = some true) (y0d : PySem.W.hasDictIn K X0 = true) (y0e : PySem.W.findIn K (.ref X0) "__class__" = some (some (.builtin "object.__class__"))) (y0f : PySem.W.mroIn K X0 (.type "object") = some true) (y0g : PySem.W.typeIn K (.ref X0) = some (.type "type")) (y0v : PySem.W.subIn K (.ref X0) (.type "ValueError") = some true)
    (s0_0 : PySem.W.subIn K (.ref X0) (.ref X0) = some true)
    (s0_1 : PySem.W.subIn K (.ref X0) (.ref X1) = some false)
    (s0_2 : PySem.W.subIn K (.ref X0) (.ref X2) = some false)
    (s0_3 : PySem.W.subIn K (.ref X0) (.ref X3) = some false)
    (s0_4 : PySem.W.subIn K (.ref X0) (.ref X4) = some false)
    (y1a : PySem.W.findIn K (.ref X1) "__getattribute__" = some (some (.builtin "BaseException.__getattribute__"))) (y1b : PySem.W.findIn K (.ref X1) "__getattr__" = some none) (y1c : PySem.W.subIn K (.ref X1) (.type "BaseException") = some true) (y1d : PySem.W.hasDictIn K X1 = true) (y1e : PySem.W.findIn K (.ref X1) "__class__" = some (some (.builtin "object.__class__"))) (y1f : PySem.W.mroIn K X1 (.type "object") = some true) (y1g : PySem.W.typeIn K (.ref X1) = some (.type "type")) (y1v : PySem.W.subIn K (.ref X1) (.type "ValueError") = some true)
    (s1_1 : PySem.W.subIn K (.ref X1) (.ref X1) = some true)
    (s1_2 : PySem.W.subIn K (.ref X1) (.ref X2) = some false)
    (s1_3 : PySem.W.subIn K (.ref X1) (.ref X3) = some false)
    (s1_4 : PySem.W.subIn K (.ref X1) (.ref X4) = some false)
    (y2a : PySem.W.findIn K (.ref X2) "__getattribute__" = some (some (.builtin "BaseException.__getattribute__"))) (y2b : PySem.W.findIn K (.ref X2) "__getattr__" = some none) (y2c : PySem.W.subIn K (.ref X2) (.type "BaseException") = some true) (y2d : PySem.W.hasDictIn K X2 = true) (y2e : PySem.W.findIn K (.ref X2) "__class__" = some (some (.builtin "object.__class__"))) (y2f : PySem.W.mroIn K X2 (.type "object") = some true) (y2g : PySem.W.typeIn K (.ref X2) = some (.type "type")) (y2v : PySem.W.subIn K (.ref X2) (.type "ValueError") = some true)
    (s2_1 : PySem.W.subIn K (.ref X2) (.ref X1) = some false)
    (s2_2 : PySem.W.subIn K (.ref X2) (.ref X2) = some true)
    (s2_3 : PySem.W.subIn K (.ref X2) (.ref X3) = some false)
    (s2_4 : PySem.W.subIn K (.ref X2) (.ref X4) = some false)
    (y3a : PySem.W.findIn K (.ref X3) "__getattribute__" = some (some (.builtin "BaseException.__getattribute__"))) (y3b : PySem.W.findIn K (.ref X3) "__getattr__" = some none) (y3c : PySem.W.subIn K (.ref X3) (.type "BaseException") = some true) (y3d : PySem.W.hasDictIn K X3 = true) (y3e : PySem.W.findIn K (.ref X3) "__class__" = some (some (.builtin "object.__class__"))) (y3f : PySem.W.mroIn K X3 (.type "object") = some true) (y3g : PySem.W.typeIn K (.ref X3) = some (.type "type")) (y3v : PySem.W.subIn K (.ref X3) (.type "ValueError") = some true)
    (s3_1 : PySem.W.subIn K (.ref X3) (.ref X1) = some false)
    (s3_2 : PySem.W.subIn K (.ref X3) (.ref X2) = some false)
    (s3_3 : PySem.W.subIn K (.ref X3) (.ref X3) = some true)
    (s3_4 : PySem.W.subIn K (.ref X3) (.ref X4) = some false)
    (y4a : PySem.W.findIn K (.ref X4) "__getattribute__" = some (some (.builtin "BaseException.__getattribute__"))) (y4b : PySem.W.findIn K (.ref X4) "__getattr__" = some none) (y4c : PySem.W.subIn K (.ref X4) (.type "BaseException") = some true) (y4d : PySem.W.hasDictIn K X4 = true) (y4e : PySem.W.findIn K (.ref X4) "__class__" = some (some (.builtin "object.__class__"))) (y4f : PySem.W.mroIn K X4 (.type "object") = some true) (y4g : PySem.W.typeIn K (.ref X4) = some (.type "type")) (y4v : PySem.W.subIn K (.ref X4) (.type "ValueError") = some true)
    (s4_1 : PySem.W.subIn K (.ref X4) (.ref X1) = some false)
    (s4_2 : PySem.W.subIn K (.ref X4) (.ref X2) = some false)
    (s4_3 : PySem.W.subIn K (.ref X4) (.ref X3) = some false)
    (s4_4 : PySem.W.subIn K (.ref X4) (.ref X4) = some true)
    (a0 : PySem.W.nsIn K mainGlobals "_law_cell" = some (some (.ref f0)))
    (l0 : K.lookup f0 = some ⟨oc0, od0, .func (PySem.W.fnOf "_law_cell" "_law_cell" (defArgs s_l_cell) (defBody s_l_cell) (defScope s_l_cell) .none kV0 dc0 pm0 an0 cd0 ct0), sl0⟩) (c0 : PySem.W.codeIn K cd0 "_law_cell" = true) (k0 : PySem.W.keepIn K (.ref f0) = true)
    (a1 : PySem.W.nsIn K mainGlobals "_law_drawn" = some (some (.ref f1)))
    (l1 : K.lookup f1 = some ⟨oc1, od1, .func (PySem.W.fnOf "_law_drawn" "_law_drawn" (defArgs s_l_drawn) (defBody s_l_drawn) (defScope s_l_drawn) .none kV1 dc1 pm1 an1 cd1 ct1), sl1⟩) (c1 : PySem.W.codeIn K cd1 "_law_drawn" = true) (k1 : PySem.W.keepIn K (.ref f1) = true)
    (a2 : PySem.W.nsIn K mainGlobals "_law_place" = some (some (.ref f2)))
    (l2 : K.lookup f2 = some ⟨oc2, od2, .func (PySem.W.fnOf "_law_place" "_law_place" (defArgs s_l_place) (defBody s_l_place) (defScope s_l_place) .none kV2 dc2 pm2 an2 cd2 ct2), sl2⟩) (c2 : PySem.W.codeIn K cd2 "_law_place" = true) (k2 : PySem.W.keepIn K (.ref f2) = true)
    (a3 : PySem.W.findIn K (.ref C0) "__init__" = some (some (.ref f3))) (i3 : PySem.W.isFn K (.ref f3) = true)
    (l3 : K.lookup f3 = some ⟨oc3, od3, .func (PySem.W.fnOf "__init__" "Book.__init__" (defArgs s_Book_init) (defBody s_Book_init) (defScope s_Book_init) .none kV3 dc3 pm3 an3 cd3 ct3), sl3⟩) (c3 : PySem.W.codeIn K cd3 "Book.__init__" = true) (k3 : PySem.W.keepIn K (.ref f3) = true)
    (a4 : PySem.W.nsIn K mainGlobals "_law_done" = some (some (.ref f4)))
    (l4 : K.lookup f4 = some ⟨oc4, od4, .func (PySem.W.fnOf "_law_done" "_law_done" (defArgs s_l_done) (defBody s_l_done) (defScope s_l_done) .none kV4 dc4 pm4 an4 cd4 ct4), sl4⟩) (c4 : PySem.W.codeIn K cd4 "_law_done" = true) (k4 : PySem.W.keepIn K (.ref f4) = true)
    (a5 : PySem.W.nsIn K mainGlobals "_law_refused" = some (some (.ref f5)))
    (l5 : K.lookup f5 = some ⟨oc5, od5, .func (PySem.W.fnOf "_law_refused" "_law_refused" (defArgs s_x_l_refused) (defBody s_x_l_refused) (defScope s_x_l_refused) .none kV5 dc5 pm5 an5 cd5 ct5), sl5⟩) (c5 : PySem.W.codeIn K cd5 "_law_refused" = true) (k5 : PySem.W.keepIn K (.ref f5) = true)
    (a6 : PySem.W.findIn K (.ref C0) "visit" = some (some (.ref f6))) (i6 : PySem.W.isFn K (.ref f6) = true)
    (l6 : K.lookup f6 = some ⟨oc6, od6, .func (PySem.W.fnOf "visit" "Book.visit" (defArgs s_Book_visit) (defBody s_Book_visit) (defScope s_Book_visit) .none kV6 dc6 pm6 an6 cd6 ct6), sl6⟩) (c6 : PySem.W.codeIn K cd6 "Book.visit" = true) (k6 : PySem.W.keepIn K (.ref f6) = true)
    (a7 : PySem.W.findIn K (.ref C0) "replace" = some (some (.ref f7))) (i7 : PySem.W.isFn K (.ref f7) = true)
    (l7 : K.lookup f7 = some ⟨oc7, od7, .func (PySem.W.fnOf "replace" "Book.replace" (defArgs s_Book_replace) (defBody s_Book_replace) (defScope s_Book_replace) .none kV7 dc7 pm7 an7 cd7 ct7), sl7⟩) (c7 : PySem.W.codeIn K cd7 "Book.replace" = true) (k7 : PySem.W.keepIn K (.ref f7) = true)
    (a8 : PySem.W.findIn K (.ref C0) "can_go" = some (some (.ref f8))) (i8 : PySem.W.isFn K (.ref f8) = true)
    (l8 : K.lookup f8 = some ⟨oc8, od8, .func (PySem.W.fnOf "can_go" "Book.can_go" (defArgs s_Book_can_go) (defBody s_Book_can_go) (defScope s_Book_can_go) .none kV8 dc8 pm8 an8 cd8 ct8), sl8⟩) (c8 : PySem.W.codeIn K cd8 "Book.can_go" = true) (k8 : PySem.W.keepIn K (.ref f8) = true)
    (a9 : PySem.W.findIn K (.ref C0) "now" = some (some (.ref f9))) (i9 : PySem.W.isFn K (.ref f9) = true)
    (l9 : K.lookup f9 = some ⟨oc9, od9, .func (PySem.W.fnOf "now" "Book.now" (defArgs s_Book_now) (defBody s_Book_now) (defScope s_Book_now) .none kV9 dc9 pm9 an9 cd9 ct9), sl9⟩) (c9 : PySem.W.codeIn K cd9 "Book.now" = true) (k9 : PySem.W.keepIn K (.ref f9) = true)
    (a10 : PySem.W.findIn K (.ref C0) "go" = some (some (.ref f10))) (i10 : PySem.W.isFn K (.ref f10) = true)
    (l10 : K.lookup f10 = some ⟨oc10, od10, .func (PySem.W.fnOf "go" "Book.go" (defArgs s_Book_go) (defBody s_Book_go) (defScope s_Book_go) .none kV10 dc10 pm10 an10 cd10 ct10), sl10⟩) (c10 : PySem.W.codeIn K cd10 "Book.go" = true) (k10 : PySem.W.keepIn K (.ref f10) = true)
    (a11 : PySem.W.findIn K (.ref C0) "mark" = some (some (.ref f11))) (i11 : PySem.W.isFn K (.ref f11) = true)
    (l11 : K.lookup f11 = some ⟨oc11, od11, .func (PySem.W.fnOf "mark" "Book.mark" (defArgs s_Book_mark) (defBody s_Book_mark) (defScope s_Book_mark) .none kV11 dc11 pm11 an11 cd11 ct11), sl11⟩) (c11 : PySem.W.codeIn K cd11 "Book.mark" = true) (k11 : PySem.W.keepIn K (.ref f11) = true)
    (a12 : PySem.W.findIn K (.ref C0) "drop" = some (some (.ref f12))) (i12 : PySem.W.isFn K (.ref f12) = true)
    (l12 : K.lookup f12 = some ⟨oc12, od12, .func (PySem.W.fnOf "drop" "Book.drop" (defArgs s_Book_drop) (defBody s_Book_drop) (defScope s_Book_drop) .none kV12 dc12 pm12 an12 cd12 ct12), sl12⟩) (c12 : PySem.W.codeIn K cd12 "Book.drop" = true) (k12 : PySem.W.keepIn K (.ref f12) = true)
    (a13 : PySem.W.findIn K (.ref C0) "tidy" = some (some (.ref f13))) (i13 : PySem.W.isFn K (.ref f13) = true)
    (l13 : K.lookup f13 = some ⟨oc13, od13, .func (PySem.W.fnOf "tidy" "Book.tidy" (defArgs s_Book_tidy) (defBody s_Book_tidy) (defScope s_Book_tidy) .none kV13 dc13 pm13 an13 cd13 ct13), sl13⟩) (c13 : PySem.W.codeIn K cd13 "Book.tidy" = true) (k13 : PySem.W.keepIn K (.ref f13) = true)
    (a14 : PySem.W.nsIn K mainGlobals "_law_told" = some (some (.ref f14)))
    (l14 : K.lookup f14 = some ⟨oc14, od14, .func (PySem.W.fnOf "_law_told" "_law_told" (defArgs s_l_told) (defBody s_l_told) (defScope s_l_told) .none kV14 dc14 pm14 an14 cd14 ct14), sl14⟩) (c14 : PySem.W.codeIn K cd14 "_law_told" = true) (k14 : PySem.W.keepIn K (.ref f14) = true)
    (a15 : PySem.W.findIn K (.ref C0) "number" = some (some (.ref f15))) (i15 : PySem.W.isFn K (.ref f15) = true)
    (l15 : K.lookup f15 = some ⟨oc15, od15, .func (PySem.W.fnOf "number" "Book.number" (defArgs s_Book_number) (defBody s_Book_number) (defScope s_Book_number) .none kV15 dc15 pm15 an15 cd15 ct15), sl15⟩) (c15 : PySem.W.codeIn K cd15 "Book.number" = true) (k15 : PySem.W.keepIn K (.ref f15) = true)
    (a16 : PySem.W.findIn K (.ref C0) "entries" = some (some (.ref f16))) (i16 : PySem.W.isFn K (.ref f16) = true)
    (l16 : K.lookup f16 = some ⟨oc16, od16, .func (PySem.W.fnOf "entries" "Book.entries" (defArgs s_Book_entries) (defBody s_Book_entries) (defScope s_Book_entries) .none kV16 dc16 pm16 an16 cd16 ct16), sl16⟩) (c16 : PySem.W.codeIn K cd16 "Book.entries" = true) (k16 : PySem.W.keepIn K (.ref f16) = true)
    (a17 : PySem.W.findIn K (.ref C0) "marked" = some (some (.ref f17))) (i17 : PySem.W.isFn K (.ref f17) = true)
    (l17 : K.lookup f17 = some ⟨oc17, od17, .func (PySem.W.fnOf "marked" "Book.marked" (defArgs s_Book_marked) (defBody s_Book_marked) (defScope s_Book_marked) .none kV17 dc17 pm17 an17 cd17 ct17), sl17⟩) (c17 : PySem.W.codeIn K cd17 "Book.marked" = true) (k17 : PySem.W.keepIn K (.ref f17) = true)
    (a18 : PySem.W.findIn K (.ref C0) "nearest" = some (some (.ref f18))) (i18 : PySem.W.isFn K (.ref f18) = true)
    (l18 : K.lookup f18 = some ⟨oc18, od18, .func (PySem.W.fnOf "nearest" "Book.nearest" (defArgs s_Book_nearest) (defBody s_Book_nearest) (defScope s_Book_nearest) .none kV18 dc18 pm18 an18 cd18 ct18), sl18⟩) (c18 : PySem.W.codeIn K cd18 "Book.nearest" = true) (k18 : PySem.W.keepIn K (.ref f18) = true)
    (a19 : PySem.W.nsIn K mainGlobals "law" = some (some (.ref f19)))
    (l19 : K.lookup f19 = some ⟨oc19, od19, .func (PySem.W.fnOf "law" "law" (defArgs s_law) (defBody s_law) (defScope s_law) .none kV19 dc19 pm19 an19 cd19 ct19), sl19⟩) (c19 : PySem.W.codeIn K cd19 "law" = true) (k19 : PySem.W.keepIn K (.ref f19) = true)
    (z0 : PySem.W.nsIn K mainGlobals "ValueError" = some none)
    (z1 : PySem.W.nsIn K mainGlobals "abs" = some none)
    (z2 : PySem.W.nsIn K mainGlobals "bool" = some none)
    (z3 : PySem.W.nsIn K mainGlobals "enumerate" = some none)
    (z4 : PySem.W.nsIn K mainGlobals "int" = some none)
    (z5 : PySem.W.nsIn K mainGlobals "isinstance" = some none)
    (z6 : PySem.W.nsIn K mainGlobals "len" = some none)
    (z7 : PySem.W.nsIn K mainGlobals "max" = some none)
    (z8 : PySem.W.nsIn K mainGlobals "min" = some none)
    (z9 : PySem.W.nsIn K mainGlobals "range" = some none)
    (z10 : PySem.W.nsIn K mainGlobals "sorted" = some none)
    (z11 : PySem.W.nsIn K mainGlobals "tuple" = some none)
    (hlaw : ∀ ns : List Int, ns.length ≤ 63 → (∀ z ∈ ns, Builtin.Int.intBits z ≤ 1048576) → ∃ h, f_law [.scr ns] [] = .ok (.bl true) h) :
    ∃ fd : FuncData, (∀ (s : Shared) (v : Value), BindsTo s fd ⟨[v], []⟩ [("_law_script", v)]) ∧ ∀ base : Heap, K.In base → base.Ns mainGlobals mg → FnOk P w K mg base (L2.CX P w) 4 fa fd ["_law_script"] (spLaw K) := by
  have e := hfa.symm.trans (PySem.W.mg_of X G a19)
  cases e
  have F0 := fun_mk (st := s_l_cell) l0 c0 k0
  have b0 := F0.binds (ps := p_l_cell) fun _ _ _ _ _ _ us hl => match us, hl with | [_, _], _ => rfl
  have F1 := fun_mk (st := s_l_drawn) l1 c1 k1
  have b1 := F1.binds (ps := p_l_drawn) fun _ _ _ _ _ _ us hl => match us, hl with | [_, _, _], _ => rfl
  have F2 := fun_mk (st := s_l_place) l2 c2 k2
  have b2 := F2.binds (ps := p_l_place) fun _ _ _ _ _ _ us hl => match us, hl with | [_, _], _ => rfl
  have F3 := fun_mk (st := s_Book_init) l3 c3 k3
  have b3 := F3.binds (ps := p_Book_init) fun _ _ _ _ _ _ us hl => match us, hl with | [_, _, _], _ => rfl
  have F4 := fun_mk (st := s_l_done) l4 c4 k4
  have b4 := F4.binds (ps := p_l_done) fun _ _ _ _ _ _ us hl => match us, hl with | [_, _, _, _, _, _], _ => rfl
  have F5 := fun_mk (st := s_x_l_refused) l5 c5 k5
  have b5 := F5.binds (ps := p_x_l_refused) fun _ _ _ _ _ _ us hl => match us, hl with | [_], _ => rfl
  have F6 := fun_mk (st := s_Book_visit) l6 c6 k6
  have b6 := F6.binds (ps := p_Book_visit) fun _ _ _ _ _ _ us hl => match us, hl with | [_, _], _ => rfl
  have F7 := fun_mk (st := s_Book_replace) l7 c7 k7
  have b7 := F7.binds (ps := p_Book_replace) fun _ _ _ _ _ _ us hl => match us, hl with | [_, _], _ => rfl
  have F8 := fun_mk (st := s_Book_can_go) l8 c8 k8
  have b8 := F8.binds (ps := p_Book_can_go) fun _ _ _ _ _ _ us hl => match us, hl with | [_, _], _ => rfl
  have F9 := fun_mk (st := s_Book_now) l9 c9 k9
  have b9 := F9.binds (ps := p_Book_now) fun _ _ _ _ _ _ us hl => match us, hl with | [_], _ => rfl
  have F10 := fun_mk (st := s_Book_go) l10 c10 k10
  have b10 := F10.binds (ps := p_Book_go) fun _ _ _ _ _ _ us hl => match us, hl with | [_, _], _ => rfl
  have F11 := fun_mk (st := s_Book_mark) l11 c11 k11
  have b11 := F11.binds (ps := p_Book_mark) fun _ _ _ _ _ _ us hl => match us, hl with | [_, _], _ => rfl
  have F12 := fun_mk (st := s_Book_drop) l12 c12 k12
  have b12 := F12.binds (ps := p_Book_drop) fun _ _ _ _ _ _ us hl => match us, hl with | [_, _], _ => rfl
  have F13 := fun_mk (st := s_Book_tidy) l13 c13 k13
  have b13 := F13.binds (ps := p_Book_tidy) fun _ _ _ _ _ _ us hl => match us, hl with | [_], _ => rfl
  have F14 := fun_mk (st := s_l_told) l14 c14 k14
  have b14 := F14.binds (ps := p_l_told) fun _ _ _ _ _ _ us hl => match us, hl with | [_, _, _, _], _ => rfl
  have F15 := fun_mk (st := s_Book_number) l15 c15 k15
  have b15 := F15.binds (ps := p_Book_number) fun _ _ _ _ _ _ us hl => match us, hl with | [_], _ => rfl
  have F16 := fun_mk (st := s_Book_entries) l16 c16 k16
  have b16 := F16.binds (ps := p_Book_entries) fun _ _ _ _ _ _ us hl => match us, hl with | [_], _ => rfl
  have F17 := fun_mk (st := s_Book_marked) l17 c17 k17
  have b17 := F17.binds (ps := p_Book_marked) fun _ _ _ _ _ _ us hl => match us, hl with | [_], _ => rfl
  have F18 := fun_mk (st := s_Book_nearest) l18 c18 k18
  have b18 := F18.binds (ps := p_Book_nearest) fun _ _ _ _ _ _ us hl => match us, hl with | [_, _], _ => rfl
  have F19 := fun_mk (st := s_law) l19 c19 k19
  have b19 := F19.binds (ps := p_law) fun _ _ _ _ _ _ us hl => match us, hl with | [_], _ => rfl
  refine ⟨PySem.W.fnOf "law" "law" (defArgs s_law) (defBody s_law) (defScope s_law) .none kV19 dc19 pm19 an19 cd19 ct19, fun s v => .of_eq rfl, fun base _ _ => ?_⟩
  · let B : Bs := ⟨K, fun n => match n with | 0 => C0 | _ => 0, fun n => match n with | 0 => X0 | 1 => X1 | 2 => X2 | 3 => X3 | 4 => X4 | _ => 0, fun _ _ => False⟩
    have hi : ∀ p ∈ (tabOf [] [] [] [] [] [] [] [] [] [] []).kInt, ∃ u, mg p.1 = some u ∧ RelV (.int p.2) u := by
      intro p hp
      cases hp
    have hs : ∀ p ∈ (tabOf [] [] [] [] [] [] [] [] [] [] []).kStr, PyData.strOk p.2 = true ∧ ∃ u, mg p.1 = some u ∧ RelV (.str p.2) u := by
      intro p hp
      cases hp
    have hz : ∀ x ∈ (tabOf [] [] [] [] [] [] [] [] [] [] []).blts, mg x = none := by
      intro x hx
      simp only [tabOf, List.mem_cons, List.not_mem_nil, or_false] at hx
      rcases hx with rfl | rfl | rfl | rfl | rfl | rfl | rfl | rfl | rfl | rfl | rfl | rfl
      · exact PySem.W.mg_none_of X G z0
      · exact PySem.W.mg_none_of X G z1
      · exact PySem.W.mg_none_of X G z2
      · exact PySem.W.mg_none_of X G z3
      · exact PySem.W.mg_none_of X G z4
      · exact PySem.W.mg_none_of X G z5
      · exact PySem.W.mg_none_of X G z6
      · exact PySem.W.mg_none_of X G z7
      · exact PySem.W.mg_none_of X G z8
      · exact PySem.W.mg_none_of X G z9
      · exact PySem.W.mg_none_of X G z10
      · exact PySem.W.mg_none_of X G z11
    have hf0 : Cls K (B.ca 0) ∧ ∀ f ∈ (["most", "rows", "at"] : List Str), NoAttr K (B.ca 0) f := ⟨⟨o0g, o0h, o0p, o0s⟩, fun f hf => by
      simp only [List.mem_cons, List.not_mem_nil, or_false] at hf
      rcases hf with rfl | rfl | rfl
      · exact o0f0
      · exact o0f1
      · exact o0f2⟩
    have hx : ∀ p ∈ (tabOf [] [] [] [] [] [] [] [] [] [] []).excs, ExcOk B K mg p.1 p.2 := by
      intro p hp
      simp only [tabOf, List.mem_cons, List.not_mem_nil, or_false] at hp
      subst hp; exact ⟨x1q, PySem.W.mg_of X G x1a, x1k, x1s, x1t⟩
    have hh : ∀ p ∈ (tabOf [] [] [] [] [] [] [] [] [] [] []).hnds, ∃ c0, mg p.1 = some c0 ∧ ∀ c ∈ (tabOf [] [] [] [] [] [] [] [] [] [] []).xall, ∃ b, PySem.W.exmOne K (.ref (B.xa c)) c0 = some b ∧ (b = true ↔ p.2.contains c = true) := by
      intro p hp
      simp only [tabOf, List.mem_cons, List.not_mem_nil, or_false] at hp
      subst hp; exact ⟨_, PySem.W.mg_of X G x0a, fun c hc => by
          simp only [tabOf, List.mem_cons, List.not_mem_nil, or_false] at hc
          rcases hc with rfl | rfl | rfl | rfl | rfl
          · exact ⟨_, PySem.W.exm_ref h0b h0a h0c e0_0, by decide⟩
          · exact ⟨_, PySem.W.exm_ref h0b h0a h0c e0_1, by decide⟩
          · exact ⟨_, PySem.W.exm_ref h0b h0a h0c e0_2, by decide⟩
          · exact ⟨_, PySem.W.exm_ref h0b h0a h0c e0_3, by decide⟩
          · exact ⟨_, PySem.W.exm_ref h0b h0a h0c e0_4, by decide⟩⟩
    have hxi : ∀ p ∈ (tabOf [] [] [] [] [] [] [] [] [] [] []).xis, XisOk B K mg (tabOf [] [] [] [] [] [] [] [] [] [] []).xall p.1 p.2 := by
      intro p hp
      have hC : ∀ c ∈ ([0, 1, 2, 3, 4] : List Nat), ExcC K (B.xa c) := fun c hc => by
        simp only [List.mem_cons, List.not_mem_nil, or_false] at hc
        rcases hc with rfl | rfl | rfl | rfl | rfl
        · exact ⟨y0a, y0b, y0c, y0d, y0e, yn, yt, y0f⟩
        · exact ⟨y1a, y1b, y1c, y1d, y1e, yn, yt, y1f⟩
        · exact ⟨y2a, y2b, y2c, y2d, y2e, yn, yt, y2f⟩
        · exact ⟨y3a, y3b, y3c, y3d, y3e, yn, yt, y3f⟩
        · exact ⟨y4a, y4b, y4c, y4d, y4e, yn, yt, y4f⟩
      simp only [tabOf, List.mem_cons, List.not_mem_nil, or_false] at hp
      rcases hp with rfl | rfl | rfl | rfl | rfl
      · exact ⟨hC, _, .inr ⟨PySem.W.mg_none_of X G z0, "ValueError", rfl, by decide +kernel, by decide⟩, fun c hc => by
          simp only [tabOf, List.mem_cons, List.not_mem_nil, or_false] at hc
          rcases hc with rfl | rfl | rfl | rfl | rfl
          · exact ⟨_, kit_ty (by decide +kernel) y0v, by decide⟩
          · exact ⟨_, kit_ty (by decide +kernel) y1v, by decide⟩
          · exact ⟨_, kit_ty (by decide +kernel) y2v, by decide⟩
          · exact ⟨_, kit_ty (by decide +kernel) y3v, by decide⟩
          · exact ⟨_, kit_ty (by decide +kernel) y4v, by decide⟩⟩
      · exact ⟨hC, _, .inl ⟨PySem.W.mg_of X G x1a, _, rfl⟩, fun c hc => by
          simp only [tabOf, List.mem_cons, List.not_mem_nil, or_false] at hc
          rcases hc with rfl | rfl | rfl | rfl | rfl
          · exact ⟨_, kit_ref y1g y1d s0_1 s0_0, by decide⟩
          · exact ⟨_, kit_ref y1g y1d s1_1 s1_1, by decide⟩
          · exact ⟨_, kit_ref y1g y1d s2_1 s2_2, by decide⟩
          · exact ⟨_, kit_ref y1g y1d s3_1 s3_3, by decide⟩
          · exact ⟨_, kit_ref y1g y1d s4_1 s4_4, by decide⟩⟩
      · exact ⟨hC, _, .inl ⟨PySem.W.mg_of X G x2a, _, rfl⟩, fun c hc => by
          simp only [tabOf, List.mem_cons, List.not_mem_nil, or_false] at hc
          rcases hc with rfl | rfl | rfl | rfl | rfl
          · exact ⟨_, kit_ref y2g y2d s0_2 s0_0, by decide⟩
          · exact ⟨_, kit_ref y2g y2d s1_2 s1_1, by decide⟩
          · exact ⟨_, kit_ref y2g y2d s2_2 s2_2, by decide⟩
          · exact ⟨_, kit_ref y2g y2d s3_2 s3_3, by decide⟩
          · exact ⟨_, kit_ref y2g y2d s4_2 s4_4, by decide⟩⟩
      · exact ⟨hC, _, .inl ⟨PySem.W.mg_of X G x3a, _, rfl⟩, fun c hc => by
          simp only [tabOf, List.mem_cons, List.not_mem_nil, or_false] at hc
          rcases hc with rfl | rfl | rfl | rfl | rfl
          · exact ⟨_, kit_ref y3g y3d s0_3 s0_0, by decide⟩
          · exact ⟨_, kit_ref y3g y3d s1_3 s1_1, by decide⟩
          · exact ⟨_, kit_ref y3g y3d s2_3 s2_2, by decide⟩
          · exact ⟨_, kit_ref y3g y3d s3_3 s3_3, by decide⟩
          · exact ⟨_, kit_ref y3g y3d s4_3 s4_4, by decide⟩⟩
      · exact ⟨hC, _, .inl ⟨PySem.W.mg_of X G x4a, _, rfl⟩, fun c hc => by
          simp only [tabOf, List.mem_cons, List.not_mem_nil, or_false] at hc
          rcases hc with rfl | rfl | rfl | rfl | rfl
          · exact ⟨_, kit_ref y4g y4d s0_4 s0_0, by decide⟩
          · exact ⟨_, kit_ref y4g y4d s1_4 s1_1, by decide⟩
          · exact ⟨_, kit_ref y4g y4d s2_4 s2_2, by decide⟩
          · exact ⟨_, kit_ref y4g y4d s3_4 s3_3, by decide⟩
          · exact ⟨_, kit_ref y4g y4d s4_4 s4_4, by decide⟩⟩
    have T0 : TabOk B t_l_cell P w K mg base 0 := by
      refine ⟨fun p hp => ?_, hi, hs, hz, (fun _ h => nomatch h), fun p hp => ?_, fun p hp => ?_, hx, hh, hxi, fun p hp => ?_, (fun _ h => nomatch h), fun p hp => ?_⟩
      · cases hp
      · cases hp
      · cases hp
      · cases hp
      · cases hp
    have O0 : FnOk P w K mg base (L2.CX P w) 1 f0 _ p_l_cell (spOf B f_l_cell 2) := def_ok (fun _ _ h => h) F0 rfl sc_l_cell (by decide) T0 c_l_cell
    have T1 : TabOk B t_l_drawn P w K mg base 1 := by
      refine ⟨fun p hp => ?_, hi, hs, hz, (fun _ h => nomatch h), fun p hp => ?_, fun p hp => ?_, hx, hh, hxi, fun p hp => ?_, (fun _ h => nomatch h), fun p hp => ?_⟩
      · simp only [t_l_drawn, tabOf, List.mem_cons, List.not_mem_nil, or_false] at hp
        subst hp; exact ⟨⟨_, _, _, 1, rfl, by decide, O0, PySem.W.mg_of X G a0, k0, b0⟩⟩
      · cases hp
      · cases hp
      · cases hp
      · cases hp
    have O1 : FnOk P w K mg base (L2.CX P w) 2 f1 _ p_l_drawn (spOf B f_l_drawn 3) := def_ok (fun _ _ h => h) F1 rfl sc_l_drawn (by decide) T1 c_l_drawn
    have T2 : TabOk B t_l_place P w K mg base 2 := by
      refine ⟨fun p hp => ?_, hi, hs, hz, (fun _ h => nomatch h), fun p hp => ?_, fun p hp => ?_, hx, hh, hxi, fun p hp => ?_, (fun _ h => nomatch h), fun p hp => ?_⟩
      · simp only [t_l_place, tabOf, List.mem_cons, List.not_mem_nil, or_false] at hp
        subst hp; exact ⟨⟨_, _, _, 2, rfl, by decide, O1, PySem.W.mg_of X G a1, k1, b1⟩⟩
      · cases hp
      · cases hp
      · cases hp
      · cases hp
    have O2 : FnOk P w K mg base (L2.CX P w) 3 f2 _ p_l_place (spOf B f_l_place 2) := def_ok (fun _ _ h => h) F2 rfl sc_l_place (by decide) T2 c_l_place
    have T3 : TabOk B t_Book_init P w K mg base 0 := by
      refine ⟨fun p hp => ?_, hi, hs, hz, (fun c hc => by
          simp only [t_Book_init, tabOf, List.mem_cons, List.not_mem_nil, or_false] at hc
          subst hc; exact hf0), fun p hp => ?_, fun p hp => ?_, hx, hh, hxi, fun p hp => ?_, (fun _ h => nomatch h), fun p hp => ?_⟩
      · cases hp
      · cases hp
      · cases hp
      · cases hp
      · cases hp
    have O3 : FnOk P w K mg base (L2.CX P w) 1 f3 _ p_Book_init (spOf B f_Book_init 3) := def_ok (fun _ _ h => h) F3 rfl sc_Book_init (by decide) T3 c_Book_init
    have T4 : TabOk B t_l_done P w K mg base 0 := by
      refine ⟨fun p hp => ?_, hi, hs, hz, (fun _ h => nomatch h), fun p hp => ?_, fun p hp => ?_, hx, hh, hxi, fun p hp => ?_, (fun _ h => nomatch h), fun p hp => ?_⟩
      · cases hp
      · cases hp
      · cases hp
      · cases hp
      · cases hp
    have O4 : FnOk P w K mg base (L2.CX P w) 1 f4 _ p_l_done (spOf B f_l_done 6) := def_ok (fun _ _ h => h) F4 rfl sc_l_done (by decide) T4 c_l_done
    have T5 : TabOk B t_x_l_refused P w K mg base 0 := ⟨fun _ h => (nomatch h), hi, hs, hz, fun _ h => (nomatch h), fun _ h => (nomatch h), fun _ h => (nomatch h), fun _ h => (nomatch h), fun _ h => (nomatch h), hxi, fun _ h => (nomatch h), fun _ h => (nomatch h), fun _ h => (nomatch h)⟩
    have O5 : FnX P w K mg base 1 f5 _ p_x_l_refused (spX B (t_x_l_refused).xall f_x_l_refused) := hot_ok F5 rfl sc_x_l_refused (by decide) rfl T5 ⟨rfl, rfl, rfl, rfl, rfl, rfl, rfl, rfl⟩ c_x_l_refused
    have T6 : TabOk B t_Book_visit P w K mg base 0 := by
      refine ⟨fun p hp => ?_, hi, hs, hz, (fun c hc => by
          simp only [t_Book_visit, tabOf, List.mem_cons, List.not_mem_nil, or_false] at hc
          subst hc; exact hf0), fun p hp => ?_, fun p hp => ?_, hx, hh, hxi, fun p hp => ?_, (fun _ h => nomatch h), fun p hp => ?_⟩
      · cases hp
      · cases hp
      · cases hp
      · cases hp
      · cases hp
    have O6 : FnOk P w K mg base (L2.CX P w) 1 f6 _ p_Book_visit (spOf B f_Book_visit 2) := def_ok (fun _ _ h => h) F6 rfl sc_Book_visit (by decide) T6 c_Book_visit
    have T7 : TabOk B t_Book_replace P w K mg base 0 := by
      refine ⟨fun p hp => ?_, hi, hs, hz, (fun c hc => by
          simp only [t_Book_replace, tabOf, List.mem_cons, List.not_mem_nil, or_false] at hc
          subst hc; exact hf0), fun p hp => ?_, fun p hp => ?_, hx, hh, hxi, fun p hp => ?_, (fun _ h => nomatch h), fun p hp => ?_⟩
      · cases hp
      · cases hp
      · cases hp
      · cases hp
      · cases hp
    have O7 : FnOk P w K mg base (L2.CX P w) 1 f7 _ p_Book_replace (spOf B f_Book_replace 2) := def_ok (fun _ _ h => h) F7 rfl sc_Book_replace (by decide) T7 c_Book_replace
    have T8 : TabOk B t_Book_can_go P w K mg base 0 := by
      refine ⟨fun p hp => ?_, hi, hs, hz, (fun c hc => by
          simp only [t_Book_can_go, tabOf, List.mem_cons, List.not_mem_nil, or_false] at hc
          subst hc; exact hf0), fun p hp => ?_, fun p hp => ?_, hx, hh, hxi, fun p hp => ?_, (fun _ h => nomatch h), fun p hp => ?_⟩
      · cases hp
      · cases hp
      · cases hp
      · cases hp
      · cases hp
    have O8 : FnOk P w K mg base (L2.CX P w) 1 f8 _ p_Book_can_go (spOf B f_Book_can_go 2) := def_ok (fun _ _ h => h) F8 rfl sc_Book_can_go (by decide) T8 c_Book_can_go
    have T9 : TabOk B t_Book_now P w K mg base 0 := by
      refine ⟨fun p hp => ?_, hi, hs, hz, (fun c hc => by
          simp only [t_Book_now, tabOf, List.mem_cons, List.not_mem_nil, or_false] at hc
          subst hc; exact hf0), fun p hp => ?_, fun p hp => ?_, hx, hh, hxi, fun p hp => ?_, (fun _ h => nomatch h), fun p hp => ?_⟩
      · cases hp
      · cases hp
      · cases hp
      · cases hp
      · cases hp
    have O9 : FnOk P w K mg base (L2.CX P w) 1 f9 _ p_Book_now (spOf B f_Book_now 1) := def_ok (fun _ _ h => h) F9 rfl sc_Book_now (by decide) T9 c_Book_now
    have T10 : TabOk B t_Book_go P w K mg base 1 := by
      refine ⟨fun p hp => ?_, hi, hs, hz, (fun c hc => by
          simp only [t_Book_go, tabOf, List.mem_cons, List.not_mem_nil, or_false] at hc
          subst hc; exact hf0), fun p hp => ?_, fun p hp => ?_, hx, hh, hxi, fun p hp => ?_, (fun _ h => nomatch h), fun p hp => ?_⟩
      · cases hp
      · cases hp
      · simp only [t_Book_go, tabOf, List.mem_cons, List.not_mem_nil, or_false] at hp
        rcases hp with rfl | rfl
        · exact (fun q hq => by
            simp only [List.mem_cons, List.not_mem_nil, or_false] at hq
            subst hq
            exact ⟨⟨o0g, o0h, o0p, o0s⟩, ⟨_, _, _, 1, rfl, by decide, O8, ⟨a8, i8, k8⟩, b8⟩⟩)
        · exact (fun q hq => by
            simp only [List.mem_cons, List.not_mem_nil, or_false] at hq
            subst hq
            exact ⟨⟨o0g, o0h, o0p, o0s⟩, ⟨_, _, _, 1, rfl, by decide, O9, ⟨a9, i9, k9⟩, b9⟩⟩)
      · cases hp
      · cases hp
    have O10 : FnOk P w K mg base (L2.CX P w) 2 f10 _ p_Book_go (spOf B f_Book_go 2) := def_ok (fun _ _ h => h) F10 rfl sc_Book_go (by decide) T10 c_Book_go
    have T11 : TabOk B t_Book_mark P w K mg base 1 := by
      refine ⟨fun p hp => ?_, hi, hs, hz, (fun c hc => by
          simp only [t_Book_mark, tabOf, List.mem_cons, List.not_mem_nil, or_false] at hc
          subst hc; exact hf0), fun p hp => ?_, fun p hp => ?_, hx, hh, hxi, fun p hp => ?_, (fun _ h => nomatch h), fun p hp => ?_⟩
      · cases hp
      · cases hp
      · simp only [t_Book_mark, tabOf, List.mem_cons, List.not_mem_nil, or_false] at hp
        subst hp; exact (fun q hq => by
            simp only [List.mem_cons, List.not_mem_nil, or_false] at hq
            subst hq
            exact ⟨⟨o0g, o0h, o0p, o0s⟩, ⟨_, _, _, 1, rfl, by decide, O9, ⟨a9, i9, k9⟩, b9⟩⟩)
      · cases hp
      · cases hp
    have O11 : FnOk P w K mg base (L2.CX P w) 2 f11 _ p_Book_mark (spOf B f_Book_mark 2) := def_ok (fun _ _ h => h) F11 rfl sc_Book_mark (by decide) T11 c_Book_mark
    have T12 : TabOk B t_Book_drop P w K mg base 0 := by
      refine ⟨fun p hp => ?_, hi, hs, hz, (fun c hc => by
          simp only [t_Book_drop, tabOf, List.mem_cons, List.not_mem_nil, or_false] at hc
          subst hc; exact hf0), fun p hp => ?_, fun p hp => ?_, hx, hh, hxi, fun p hp => ?_, (fun _ h => nomatch h), fun p hp => ?_⟩
      · cases hp
      · cases hp
      · cases hp
      · cases hp
      · cases hp
    have O12 : FnOk P w K mg base (L2.CX P w) 1 f12 _ p_Book_drop (spOf B f_Book_drop 2) := def_ok (fun _ _ h => h) F12 rfl sc_Book_drop (by decide) T12 c_Book_drop
    have T13 : TabOk B t_Book_tidy P w K mg base 0 := by
      refine ⟨fun p hp => ?_, hi, hs, hz, (fun c hc => by
          simp only [t_Book_tidy, tabOf, List.mem_cons, List.not_mem_nil, or_false] at hc
          subst hc; exact hf0), fun p hp => ?_, fun p hp => ?_, hx, hh, hxi, fun p hp => ?_, (fun _ h => nomatch h), fun p hp => ?_⟩
      · cases hp
      · cases hp
      · cases hp
      · cases hp
      · cases hp
    have O13 : FnOk P w K mg base (L2.CX P w) 1 f13 _ p_Book_tidy (spOf B f_Book_tidy 1) := def_ok (fun _ _ h => h) F13 rfl sc_Book_tidy (by decide) T13 c_Book_tidy
    have T14 : TabOk B t_l_told P w K mg base 2 := by
      refine ⟨fun p hp => ?_, hi, hs, hz, (fun _ h => nomatch h), fun p hp => ?_, fun p hp => ?_, hx, hh, hxi, fun p hp => ?_, (fun _ h => nomatch h), fun p hp => ?_⟩
      · cases hp
      · cases hp
      · simp only [t_l_told, tabOf, List.mem_cons, List.not_mem_nil, or_false] at hp
        rcases hp with rfl | rfl | rfl | rfl | rfl | rfl
        · exact (fun q hq => by
            simp only [List.mem_cons, List.not_mem_nil, or_false] at hq
            subst hq
            exact ⟨⟨o0g, o0h, o0p, o0s⟩, ⟨_, _, _, 1, rfl, by decide, O6, ⟨a6, i6, k6⟩, b6⟩⟩)
        · exact (fun q hq => by
            simp only [List.mem_cons, List.not_mem_nil, or_false] at hq
            subst hq
            exact ⟨⟨o0g, o0h, o0p, o0s⟩, ⟨_, _, _, 1, rfl, by decide, O7, ⟨a7, i7, k7⟩, b7⟩⟩)
        · exact (fun q hq => by
            simp only [List.mem_cons, List.not_mem_nil, or_false] at hq
            subst hq
            exact ⟨⟨o0g, o0h, o0p, o0s⟩, ⟨_, _, _, 2, rfl, by decide, O10, ⟨a10, i10, k10⟩, b10⟩⟩)
        · exact (fun q hq => by
            simp only [List.mem_cons, List.not_mem_nil, or_false] at hq
            subst hq
            exact ⟨⟨o0g, o0h, o0p, o0s⟩, ⟨_, _, _, 2, rfl, by decide, O11, ⟨a11, i11, k11⟩, b11⟩⟩)
        · exact (fun q hq => by
            simp only [List.mem_cons, List.not_mem_nil, or_false] at hq
            subst hq
            exact ⟨⟨o0g, o0h, o0p, o0s⟩, ⟨_, _, _, 1, rfl, by decide, O12, ⟨a12, i12, k12⟩, b12⟩⟩)
        · exact (fun q hq => by
            simp only [List.mem_cons, List.not_mem_nil, or_false] at hq
            subst hq
            exact ⟨⟨o0g, o0h, o0p, o0s⟩, ⟨_, _, _, 1, rfl, by decide, O13, ⟨a13, i13, k13⟩, b13⟩⟩)
      · simp only [t_l_told, tabOf, List.mem_cons, List.not_mem_nil, or_false] at hp
        subst hp; exact ⟨⟨_, _, _, 1, by decide, O5, runX_noexc, PySem.W.mg_of X G a5, k5, b5⟩⟩
      · cases hp
    have O14 : FnOk P w K mg base (L2.CX P w) 3 f14 _ p_l_told (spOf B f_l_told 4) := def_ok (fun _ _ h => h) F14 rfl sc_l_told (by decide) T14 c_l_told
    have T15 : TabOk B t_Book_number P w K mg base 0 := by
      refine ⟨fun p hp => ?_, hi, hs, hz, (fun c hc => by
          simp only [t_Book_number, tabOf, List.mem_cons, List.not_mem_nil, or_false] at hc
          subst hc; exact hf0), fun p hp => ?_, fun p hp => ?_, hx, hh, hxi, fun p hp => ?_, (fun _ h => nomatch h), fun p hp => ?_⟩
      · cases hp
      · cases hp
      · cases hp
      · cases hp
      · cases hp
    have O15 : FnOk P w K mg base (L2.CX P w) 1 f15 _ p_Book_number (spOf B f_Book_number 1) := def_ok (fun _ _ h => h) F15 rfl sc_Book_number (by decide) T15 c_Book_number
    have T16 : TabOk B t_Book_entries P w K mg base 0 := by
      refine ⟨fun p hp => ?_, hi, hs, hz, (fun c hc => by
          simp only [t_Book_entries, tabOf, List.mem_cons, List.not_mem_nil, or_false] at hc
          subst hc; exact hf0), fun p hp => ?_, fun p hp => ?_, hx, hh, hxi, fun p hp => ?_, (fun _ h => nomatch h), fun p hp => ?_⟩
      · cases hp
      · cases hp
      · cases hp
      · cases hp
      · cases hp
    have O16 : FnOk P w K mg base (L2.CX P w) 1 f16 _ p_Book_entries (spOf B f_Book_entries 1) := def_ok (fun _ _ h => h) F16 rfl sc_Book_entries (by decide) T16 c_Book_entries
    have N16 : FnOk P w K mg base (L2.CX P w) 1 f16 _ p_Book_entries (spN B f_Book_entries 1) := def_okN (fun _ _ h => h) F16 rfl sc_Book_entries (by decide) T16 cN_Book_entries
    have T17 : TabOk B t_Book_marked P w K mg base 0 := by
      refine ⟨fun p hp => ?_, hi, hs, hz, (fun c hc => by
          simp only [t_Book_marked, tabOf, List.mem_cons, List.not_mem_nil, or_false] at hc
          subst hc; exact hf0), fun p hp => ?_, fun p hp => ?_, hx, hh, hxi, fun p hp => ?_, (fun _ h => nomatch h), fun p hp => ?_⟩
      · cases hp
      · cases hp
      · cases hp
      · cases hp
      · cases hp
    have O17 : FnOk P w K mg base (L2.CX P w) 1 f17 _ p_Book_marked (spOf B f_Book_marked 1) := def_ok (fun _ _ h => h) F17 rfl sc_Book_marked (by decide) T17 c_Book_marked
    have T18 : TabOk B t_Book_nearest P w K mg base 0 := by
      refine ⟨fun p hp => ?_, hi, hs, hz, (fun c hc => by
          simp only [t_Book_nearest, tabOf, List.mem_cons, List.not_mem_nil, or_false] at hc
          subst hc; exact hf0), fun p hp => ?_, fun p hp => ?_, hx, hh, hxi, fun p hp => ?_, (fun _ h => nomatch h), fun p hp => ?_⟩
      · cases hp
      · cases hp
      · cases hp
      · cases hp
      · cases hp
    have O18 : FnOk P w K mg base (L2.CX P w) 1 f18 _ p_Book_nearest (spOf B f_Book_nearest 2) := def_ok (fun _ _ h => h) F18 rfl sc_Book_nearest (by decide) T18 c_Book_nearest
    have T19 : TabOk B t_law P w K mg base 3 := by
      refine ⟨fun p hp => ?_, hi, hs, hz, (fun _ h => nomatch h), fun p hp => ?_, fun p hp => ?_, hx, hh, hxi, fun p hp => ?_, (fun _ h => nomatch h), fun p hp => ?_⟩
      · simp only [t_law, tabOf, List.mem_cons, List.not_mem_nil, or_false] at hp
        rcases hp with rfl | rfl | rfl | rfl
        · exact ⟨⟨_, _, _, 3, rfl, by decide, O2, PySem.W.mg_of X G a2, k2, b2⟩⟩
        · exact ⟨⟨_, _, _, 2, rfl, by decide, O1, PySem.W.mg_of X G a1, k1, b1⟩⟩
        · exact ⟨⟨_, _, _, 1, rfl, by decide, O4, PySem.W.mg_of X G a4, k4, b4⟩⟩
        · exact ⟨⟨_, _, _, 3, rfl, by decide, O14, PySem.W.mg_of X G a14, k14, b14⟩⟩
      · simp only [t_law, tabOf, List.mem_cons, List.not_mem_nil, or_false] at hp
        subst hp; exact ⟨⟨_, _, _, 1, rfl, by decide, O3, ⟨o0m, a3, i3, o0k⟩, PySem.W.mg_of X G o0a, b3⟩⟩
      · simp only [t_law, tabOf, List.mem_cons, List.not_mem_nil, or_false] at hp
        rcases hp with rfl | rfl | rfl | rfl | rfl | rfl
        · exact (fun q hq => by
            simp only [List.mem_cons, List.not_mem_nil, or_false] at hq
            subst hq
            exact ⟨⟨o0g, o0h, o0p, o0s⟩, ⟨_, _, _, 1, rfl, by decide, O9, ⟨a9, i9, k9⟩, b9⟩⟩)
        · exact (fun q hq => by
            simp only [List.mem_cons, List.not_mem_nil, or_false] at hq
            subst hq
            exact ⟨⟨o0g, o0h, o0p, o0s⟩, ⟨_, _, _, 1, rfl, by decide, O15, ⟨a15, i15, k15⟩, b15⟩⟩)
        · exact (fun q hq => by
            simp only [List.mem_cons, List.not_mem_nil, or_false] at hq
            subst hq
            exact ⟨⟨o0g, o0h, o0p, o0s⟩, ⟨_, _, _, 1, rfl, by decide, O16, ⟨a16, i16, k16⟩, b16⟩⟩)
        · exact (fun q hq => by
            simp only [List.mem_cons, List.not_mem_nil, or_false] at hq
            subst hq
            exact ⟨⟨o0g, o0h, o0p, o0s⟩, ⟨_, _, _, 1, rfl, by decide, O17, ⟨a17, i17, k17⟩, b17⟩⟩)
        · exact (fun q hq => by
            simp only [List.mem_cons, List.not_mem_nil, or_false] at hq
            subst hq
            exact ⟨⟨o0g, o0h, o0p, o0s⟩, ⟨_, _, _, 1, rfl, by decide, O18, ⟨a18, i18, k18⟩, b18⟩⟩)
        · exact (fun q hq => by
            simp only [List.mem_cons, List.not_mem_nil, or_false] at hq
            subst hq
            exact ⟨⟨o0g, o0h, o0p, o0s⟩, ⟨_, _, _, 1, rfl, by decide, O8, ⟨a8, i8, k8⟩, b8⟩⟩)
      · cases hp
      · simp only [t_law, tabOf, List.mem_cons, List.not_mem_nil, or_false] at hp
        subst hp; exact ⟨⟨o0g, o0h, o0p, o0s⟩, ⟨_, _, _, 1, rfl, by decide, N16, ⟨a16, i16, k16⟩, b16⟩⟩
    have O19 : FnOk P w K mg base (L2.CX P w) 4 fa _ p_law (spOf B f_law 1) := def_ok (fun _ _ h => h) F19 rfl sc_law (by decide) T19 c_law
    exact FnOk.imp O19 fun vs H Q E z => law_sp hlaw z
theorem walk {l : PySem.W.OpenLaw} {q : Program} {loose : List Str} {XP : (Str → Option Value) → Heap → Prop} {YP : World → Heap → Prop} {d : DefRec} {K : Params → PySem.W.Frag} (hn : l.most = some 63) (hdf : d.params.defaults = [])
    (hY : ∀ (w : World) (h : Heap), YP w h → (K w.params).In h)
    (F : ∀ (w : World) (mg : Str → Option Value) (fa : Addr) (h : Heap), (K w.params).In h → h.Ns mainGlobals mg → mg d.name = some (.ref fa) →
      ∃ fd : FuncData, (∀ (s : Shared) (u : Value), BindsTo s fd ⟨[u], []⟩ [("_law_script", u)]) ∧ ∀ base : Heap, (K w.params).In base → base.Ns mainGlobals mg → FnOk l.prog w (K w.params) mg base (L2.CX l.prog w) 4 fa fd ["_law_script"] (spLaw (K w.params))) :
    PySem.W.WalkO q loose XP YP l.row.toRowW d [] (fun f vs => PySem.call f vs) :=
  L2.walk_ofB (n := 63) (k := 4) (x := "_law_script") (CX := fun w => L2.CX l.prog w) (sp := fun w => spLaw (K w.params)) hn (by decide) hdf ⟨rfl, by decide, by decide⟩ hY F (fun _ _ a ns hl hb hO hS => ⟨a, ns, rfl, hO, hS, hl, hb, fun _ => rfl⟩) fun _ _ _ _ _ z => cx_none z

end Lw
open PySem PySem.W PyProof.Rows in
set_option maxRecDepth 100000 in
set_option maxHeartbeats 0 in
theorem PySem.Challenge.cw_cardplaces_k10_books_holds : PySem.Challenge.rw_cardplaces_k10_books.Holds := by
  w_on; o_law; k_head; (case hw => w_witness2)
  k_fill
  refine Lw.walk (l := PySem.Challenge.rw_cardplaces_k10_books) rfl rfl (fun w h Y => PySem.W.kIn_of Y) ?F
  case F =>
    intro w mg fa h KX G hmg
    refine' Lw.all_mk KX G hmg ?o0a ?o0g ?o0h ?o0p ?o0s ?o0f0 ?o0f1 ?o0f2 ?o0m ?o0k ?x0a ?x1a ?x1q ?x1k ?x1s ?x1t ?x2a ?x3a ?x4a ?e0_0 ?e0_1 ?e0_2 ?e0_3 ?e0_4 ?h0a ?h0b ?h0c ?yn ?yt ?y0a ?y0b ?y0c ?y0d ?y0e ?y0f ?y0g ?y0v ?s0_0 ?s0_1 ?s0_2 ?s0_3 ?s0_4 ?y1a ?y1b ?y1c ?y1d ?y1e ?y1f ?y1g ?y1v ?s1_1 ?s1_2 ?s1_3 ?s1_4 ?y2a ?y2b ?y2c ?y2d ?y2e ?y2f ?y2g ?y2v ?s2_1 ?s2_2 ?s2_3 ?s2_4 ?y3a ?y3b ?y3c ?y3d ?y3e ?y3f ?y3g ?y3v ?s3_1 ?s3_2 ?s3_3 ?s3_4 ?y4a ?y4b ?y4c ?y4d ?y4e ?y4f ?y4g ?y4v ?s4_1 ?s4_2 ?s4_3 ?s4_4 ?a0 ?l0 ?c0 ?k0 ?a1 ?l1 ?c1 ?k1 ?a2 ?l2 ?c2 ?k2 ?a3 ?i3 ?l3 ?c3 ?k3 ?a4 ?l4 ?c4 ?k4 ?a5 ?l5 ?c5 ?k5 ?a6 ?i6 ?l6 ?c6 ?k6 ?a7 ?i7 ?l7 ?c7 ?k7 ?a8 ?i8 ?l8 ?c8 ?k8 ?a9 ?i9 ?l9 ?c9 ?k9 ?a10 ?i10 ?l10 ?c10 ?k10 ?a11 ?i11 ?l11 ?c11 ?k11 ?a12 ?i12 ?l12 ?c12 ?k12 ?a13 ?i13 ?l13 ?c13 ?k13 ?a14 ?l14 ?c14 ?k14 ?a15 ?i15 ?l15 ?c15 ?k15 ?a16 ?i16 ?l16 ?c16 ?k16 ?a17 ?i17 ?l17 ?c17 ?k17 ?a18 ?i18 ?l18 ?c18 ?k18 ?a19 ?l19 ?c19 ?k19 ?z0 ?z1 ?z2 ?z3 ?z4 ?z5 ?z6 ?z7 ?z8 ?z9 ?z10 ?z11 Lw.law_true
    (case o0a => k_is)
    (case o0g => k_is)
    (case o0h => k_is)
    (case o0p => k_is)
    (case o0s => k_is)
    (case o0f0 => k_is)
    (case o0f1 => k_is)
    (case o0f2 => k_is)
    (case o0m => k_is)
    (case o0k => k_is)
    (case x0a => k_is)
    (case x1a => k_is)
    (case x1q => k_exc)
    (case x1k => k_is)
    (case x1s => k_is)
    (case x1t => k_is)
    (case x2a => k_is)
    (case x3a => k_is)
    (case x4a => k_is)
    (case e0_0 => k_is)
    (case e0_1 => k_is)
    (case e0_2 => k_is)
    (case e0_3 => k_is)
    (case e0_4 => k_is)
    (case h0a => k_is)
    (case h0b => k_is)
    (case h0c => k_is)
    (case yn => k_is)
    (case yt => k_is)
    (case y0a => k_is)
    (case y0b => k_is)
    (case y0c => k_is)
    (case y0d => k_is)
    (case y0e => k_is)
    (case y0f => k_is)
    (case y0g => k_is)
    (case y0v => k_is)
    (case s0_0 => k_is)
    (case s0_1 => k_is)
    (case s0_2 => k_is)
    (case s0_3 => k_is)
    (case s0_4 => k_is)
    (case y1a => k_is)
    (case y1b => k_is)
    (case y1c => k_is)
    (case y1d => k_is)
    (case y1e => k_is)
    (case y1f => k_is)
    (case y1g => k_is)
    (case y1v => k_is)
    (case s1_1 => k_is)
    (case s1_2 => k_is)
    (case s1_3 => k_is)
    (case s1_4 => k_is)
    (case y2a => k_is)
    (case y2b => k_is)
    (case y2c => k_is)
    (case y2d => k_is)
    (case y2e => k_is)
    (case y2f => k_is)
    (case y2g => k_is)
    (case y2v => k_is)
    (case s2_1 => k_is)
    (case s2_2 => k_is)
    (case s2_3 => k_is)
    (case s2_4 => k_is)
    (case y3a => k_is)
    (case y3b => k_is)
    (case y3c => k_is)
    (case y3d => k_is)
    (case y3e => k_is)
    (case y3f => k_is)
    (case y3g => k_is)
    (case y3v => k_is)
    (case s3_1 => k_is)
    (case s3_2 => k_is)
    (case s3_3 => k_is)
    (case s3_4 => k_is)
    (case y4a => k_is)
    (case y4b => k_is)
    (case y4c => k_is)
    (case y4d => k_is)
    (case y4e => k_is)
    (case y4f => k_is)
    (case y4g => k_is)
    (case y4v => k_is)
    (case s4_1 => k_is)
    (case s4_2 => k_is)
    (case s4_3 => k_is)
    (case s4_4 => k_is)
    (case a0 => k_is)
    (case l0 => k_is)
    (case c0 => k_is)
    (case k0 => k_is)
    (case a1 => k_is)
    (case l1 => k_is)
    (case c1 => k_is)
    (case k1 => k_is)
    (case a2 => k_is)
    (case l2 => k_is)
    (case c2 => k_is)
    (case k2 => k_is)
    (case a3 => k_is)
    (case i3 => k_is)
    (case l3 => k_is)
    (case c3 => k_is)
    (case k3 => k_is)
    (case a4 => k_is)
    (case l4 => k_is)
    (case c4 => k_is)
    (case k4 => k_is)
    (case a5 => k_is)
    (case l5 => k_is)
    (case c5 => k_is)
    (case k5 => k_is)
    (case a6 => k_is)
    (case i6 => k_is)
    (case l6 => k_is)
    (case c6 => k_is)
    (case k6 => k_is)
    (case a7 => k_is)
    (case i7 => k_is)
    (case l7 => k_is)
    (case c7 => k_is)
    (case k7 => k_is)
    (case a8 => k_is)
    (case i8 => k_is)
    (case l8 => k_is)
    (case c8 => k_is)
    (case k8 => k_is)
    (case a9 => k_is)
    (case i9 => k_is)
    (case l9 => k_is)
    (case c9 => k_is)
    (case k9 => k_is)
    (case a10 => k_is)
    (case i10 => k_is)
    (case l10 => k_is)
    (case c10 => k_is)
    (case k10 => k_is)
    (case a11 => k_is)
    (case i11 => k_is)
    (case l11 => k_is)
    (case c11 => k_is)
    (case k11 => k_is)
    (case a12 => k_is)
    (case i12 => k_is)
    (case l12 => k_is)
    (case c12 => k_is)
    (case k12 => k_is)
    (case a13 => k_is)
    (case i13 => k_is)
    (case l13 => k_is)
    (case c13 => k_is)
    (case k13 => k_is)
    (case a14 => k_is)
    (case l14 => k_is)
    (case c14 => k_is)
    (case k14 => k_is)
    (case a15 => k_is)
    (case i15 => k_is)
    (case l15 => k_is)
    (case c15 => k_is)
    (case k15 => k_is)
    (case a16 => k_is)
    (case i16 => k_is)
    (case l16 => k_is)
    (case c16 => k_is)
    (case k16 => k_is)
    (case a17 => k_is)
    (case i17 => k_is)
    (case l17 => k_is)
    (case c17 => k_is)
    (case k17 => k_is)
    (case a18 => k_is)
    (case i18 => k_is)
    (case l18 => k_is)
    (case c18 => k_is)
    (case k18 => k_is)
    (case a19 => k_is)
    (case l19 => k_is)
    (case c19 => k_is)
    (case k19 => k_is)
    (case z0 => k_is)
    (case z1 => k_is)
    (case z2 => k_is)
    (case z3 => k_is)
    (case z4 => k_is)
    (case z5 => k_is)
    (case z6 => k_is)
    (case z7 => k_is)
    (case z8 => k_is)
    (case z9 => k_is)
    (case z10 => k_is)
    (case z11 => k_is)

