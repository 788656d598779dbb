import PyProof.Rows.All
import Wide.All
import OpenK.AllK
import Wide.FinOn
import HandS.ForMost
import HandS.Defaults
import HandS.HeadHook2
import HandS.Wide
import HandS.TupAny
import HandS.TupMul
import HandS.IsInst
import HandS.Exc
import HandS.ExcOwn
import HandS.WordsExc
import HandS.Flow
import HandS.RaiseMore
import HandS.WideBits
import HandS.Deep
import HandS.ExcInit
import HandS.ExcField
import HandS.ClsMeth
import HandS.MakeKw
import HandS.MakeKwOnly
import HandS.TryMany
import HandS.TryOnly
import HandS.Codes
import HandS.ExcIs
import HandS.SlotsOwn
import KE.KExcIs
import HandS.FStr
import KE.KCallOwn
import KE.KFmtOwn
import HandS.Style
import HandS.HeadEnd
import HandS.HeadHook4
import HandS.Head2
import PySem.Challenge.RW_surmise_k16_beliefs_read
set_option Elab.async false
set_option linter.all false
set_option maxRecDepth 100000
/-! MP1: a small language, its evaluator over an abstract heap. -/
namespace MP
open PySem L2

/-- values; ref: an abstract address; fn: a def or class of the text, by its number -/
inductive AV where
  | non | bl (b : Bool) | int (i : Int) | str (x : Str) | ref (n : Nat) | fn (g : Nat) | tup (vs : List AV)
  deriving Inhabited
/-- objects: a list, a list that is never written, an instance, a dict by ints and texts, a dict by tuples of such, an exception's own dict -/
inductive AO where
  | lst (vs : List AV) | ro (vs : List AV) | ins (C : Nat) (fs : List (Str × AV)) | dk (kvs : List (Key × AV)) | dt (kvs : List (List Key × AV)) | xd (fs : List (Str × AV))
  deriving Inhabited
abbrev AH := List AO
inductive R (α : Type) where
  | ok (a : α) (A : AH) | exc (C : Nat) (fs : List (Str × AV)) (A : AH) | stuck
@[inline] def R.bind {α β : Type} (r : R α) (f : α → AH → R β) : R β := match r with
  | .ok a A => f a A
  | .exc C fs A => .exc C fs A
  | .stuck => .stuck

/-- operators, comparisons -/
inductive BO where
  | add | sub | mul | fdiv | mod | pow
inductive CO where
  | eq | ne | lt | le | gt | ge | is | isnot | in_ | notin
/-- built-in functions, by values -/
inductive BF where
  | len | abs | sum | max | min | int | str | list | tuple | all | any | repr | divmod
/-- methods of built-in types -/
inductive BM where
  | append | pop | popAt | reverse | clear
  | split | partition | join | startswith | find
/-- what an except clause names: an own exception class by its number, ValueError -/
inductive XN where
  | own (C : Nat) | ve
  deriving DecidableEq
/-- built-in types for isinstance -/
inductive TyN where
  | int | bool | str | list | tuple
  deriving DecidableEq
/-- what is walked -/
inductive IK where
  | seq | range1 | range2 | enum | zip | zips | items | keys
/-- targets -/
inductive MT where
  | nm (i : Nat) | tp (ts : List MT)

mutual
inductive ME where
  | var (i : Nat) | cst (v : AV) | gl (g : Nat)
  | bin (o : BO) (a b : ME) | neg (a : ME) | not (a : ME)
  | cmp (o : CO) (a b : ME) | cmp2 (o p : CO) (a b c : ME)
  | bop (conj : Bool) (es : MEs) | ife (c a b : ME)
  | tup (es : MEs) | lst (es : MEs)
  | idx (a b : ME) | slc (a : ME) (lo hi : MEs)
  | call (f : Nat) (es : MEs) | callk (f fm : Nat) (es : MEs) (kes : MEs)
  | mk (C : Nat) (es : MEs) | mkk (C fm : Nat) (es kes : MEs)
  | meth (C : Nat) (m : Str) (o : ME) (es : MEs) | methk (C : Nat) (m : Str) (fm : Nat) (o : ME) (es kes : MEs)
  | fld (o : ME) (f : Str)
  | isc (a : ME) (C : Nat)
  | xfld (i : Nat) (f : Str) | xis (i : Nat) (t : XN)
  | oeq (a b : ME) | olen (a : ME) | ostr (a : ME) | orep (a : ME) | ofmt (a : ME)
  | rev (a : ME)
  | blt (b : BF) (es : MEs)
  | bm (m : BM) (o : ME) (es : MEs)
  | isi (a : ME) (t : TyN)
  | comp (own : List Nat) (tg : MT) (k : IK) (src ifs : MEs) (elt : ME)
  | fmt (a : ME) | fstr (es : MEs)
inductive MEs where
  | nil | cons (e : ME) (es : MEs)
end
mutual
inductive MS where
  | expr (e : ME) | asg (t : MT) (e : ME) | setSub (o i e : ME) | setFld (o : ME) (f : Str) (e : ME)
  | aug (i : Nat) (o : BO) (e : ME) | augSub (o i : ME) (op : BO) (e : ME) | augFld (o : ME) (f : Str) (op : BO) (e : ME)
  | iff (c : ME) (a b : MSs) | whl (c : ME) (b : MSs) | forr (t : MT) (k : IK) (src : MEs) (b : MSs)
  | ret (e : ME) | retN | pass | brk | cnt
  | par (is : List Nat) (es : MEs)
  | raise (C : Nat) (es : MEs)
  | tryAs (b : MSs) (hs : MHs)
inductive MSs where
  | nil | cons (s : MS) (ss : MSs)
/-- except clauses: the class, the name's slot, the suite -/
inductive MHs where
  | nil | cons (C : XN) (i : Option Nat) (b : MSs) (hs : MHs)
end
/-- what a statement ends with -/
abbrev AS := List (Option AV)
inductive F where
  | nx (s : AS) (A : AH) | rt (v : AV) (s : AS) (A : AH) | bk (s : AS) (A : AH) | ct (s : AS) (A : AH)
  | exc (C : Nat) (fs : List (Str × AV)) (s : AS) (A : AH) | stuck
def R.fl {α : Type} (s : AS) (r : R α) (f : α → AH → F) : F := match r with
  | .ok a A => f a A
  | .exc C fs A => .exc C fs s A
  | .stuck => .stuck
def F.andThen (r : F) (f : AS → AH → F) : F := match r with
  | .nx s A => f s A
  | r => r

/-! ### values -/
def AO.items? : AO → Option (List AV)
  | .lst vs => some vs
  | .ro vs => some vs
  | _ => none
/-- the items of a list or tuple -/
def itemsOf (A : AH) : AV → Option (List AV)
  | .ref n => A[n]?.bind AO.items?
  | .tup vs => some vs
  | _ => none
def signs (x : Str) : List AV := x.cps.toList.map fun c => .str ⟨#[c]⟩
def mapO {α β : Type} (f : α → Option β) : List α → Option (List β)
  | [] => some []
  | x :: xs => match f x, mapO f xs with
    | some y, some ys => some (y :: ys)
    | _, _ => none
theorem mapO_cons {α β : Type} (f : α → Option β) (x : α) (xs : List α) : mapO f (x :: xs) = (match f x, mapO f xs with | some y, some ys => some (y :: ys) | _, _ => none) := rfl
/-- plain data of a value, so many levels deep -/
def toD (A : AH) : Nat → AV → Option PyData
  | 0, _ => none
  | n + 1, v => match v with
    | .non => some .none
    | .bl b => some (.bool b)
    | .int i => some (.int i)
    | .str x => if PyData.strOk x then some (.str x) else none
    | .tup vs => (mapO (toD A n) vs).map .tuple
    | .ref a => match A[a]?.bind AO.items? with
      | some vs => (mapO (toD A n) vs).map .list
      | none => none
    | .fn _ => none
def eqA (A : AH) (v w : AV) : Option Bool := match toD A 60 v, toD A 60 w with
  | some d, some e => some (PyData.eqv d e)
  | _, _ => none
def truA (A : AH) : AV → Option Bool
  | .non => some false
  | .bl b => some b
  | .int i => some (i != 0)
  | .str x => if x.length ≤ sizeLine then some (x.length != 0) else none
  | .tup vs => some (!vs.isEmpty)
  | .ref n => match A[n]?.bind AO.items? with
    | some vs => some (!vs.isEmpty)
    | none => none
  | .fn _ => none
def new (A : AH) (o : AO) : R AV := .ok (.ref A.length) (A ++ [o])
def newL (A : AH) (vs : List AV) : R AV := if vs.length ≤ sizeLine then new A (.lst vs) else .stuck
def optR {α : Type} (A : AH) : Option α → R α
  | some a => .ok a A
  | none => .stuck
def blR (A : AH) : Option Bool → R AV
  | some b => .ok (.bl b) A
  | none => .stuck
/-- operators -/
def opA (A : AH) : BO → AV → AV → R AV
  | .add, .int i, .int j => .ok (.int (i + j)) A
  | .add, .str x, .str y => if x.length + y.length ≤ sizeLine then .ok (.str (x ++ y)) A else .stuck
  | .add, .tup xs, .tup ys => if xs.length + ys.length ≤ sizeLine then .ok (.tup (xs ++ ys)) A else .stuck
  | .add, .ref n, .ref m => match A[n]?, A[m]? with
    | some (.lst xs), some (.lst ys) => if xs.length + ys.length ≤ sizeLine then new A (.lst (xs ++ ys)) else .stuck
    | _, _ => .stuck
  | .sub, .int i, .int j => .ok (.int (i - j)) A
  | .mul, .int i, .int j => if i.natAbs.log2 + j.natAbs.log2 < 1000000 then .ok (.int (i * j)) A else .stuck
  | .mul, .ref n, .int k => match A[n]? with
    | some (.lst xs) => if -(2 ^ 63) ≤ k ∧ k < 2 ^ 63 ∧ xs.length * k.toNat ≤ sizeLine then new A (.lst (List.replicate k.toNat xs).flatten) else .stuck
    | _ => .stuck
  | .mul, .tup xs, .int k => if xs ≠ [] ∧ 2 ≤ k ∧ k ≤ 1000 ∧ xs.length ≤ 1000 then .ok (.tup (List.replicate k.toNat xs).flatten) A else .stuck
  | .mul, .str x, .int k => if 0 ≤ k ∧ k ≤ 4000 ∧ x.length ≤ 4000 then .ok (.str (Txt.mul x k)) A else .stuck
  | .fdiv, .int i, .int j => if j ≠ 0 ∧ j.natAbs.log2 < 9000 then .ok (.int (i.fdiv j)) A else .stuck
  | .mod, .int i, .int j => if j ≠ 0 then .ok (.int (i.fmod j)) A else .stuck
  | .pow, .int i, .int j => if 0 ≤ j ∧ j ≤ 1000000 ∧ i.natAbs < 2 ^ 64 then .ok (.int (i ^ j.toNat)) A else .stuck
  | _, _, _ => .stuck
def subText (x y : Str) : Bool := !(Builtin.Str.occurrences y x 0 y.length 1).isEmpty
/-- x in y: a list, by plain data; a tuple of flat things -/
def inD (A : AH) (v : AV) (n : Nat) : Option Bool := match toD A 60 v, toD A 60 (.ref n) with
  | some d, some (.list ds) => some (ds.any fun z => PyData.eqv z d)
  | _, _ => none
def flatA : AV → Bool
  | .non => true
  | .bl _ => true
  | .int _ => true
  | .str _ => true
  | _ => false
def eqF : AV → AV → Bool
  | .non, .non => true
  | .bl a, .bl b => a == b
  | .bl a, .int b => (if a then 1 else 0) == b
  | .int a, .bl b => a == (if b then 1 else 0)
  | .int a, .int b => a == b
  | .str a, .str b => a == b
  | _, _ => false
def inF (v : AV) (ws : List AV) : Option Bool := if flatA v && ws.all flatA then some (ws.any fun w => eqF w v) else none
def AV.isNon : AV → Bool
  | .non => true
  | _ => false
def cmpA (A : AH) : CO → AV → AV → Option Bool
  | .eq, v, w => eqA A v w
  | .ne, v, w => (eqA A v w).map (!·)
  | .lt, .int i, .int j => some (decide (i < j))
  | .le, .int i, .int j => some (decide (i ≤ j))
  | .gt, .int i, .int j => some (decide (j < i))
  | .ge, .int i, .int j => some (decide (j ≤ i))
  | .is, v, .non => some v.isNon
  | .isnot, v, .non => some (!v.isNon)
  | .in_, .str x, .str y => some (subText x y)
  | .notin, .str x, .str y => some (!subText x y)
  | .in_, v, .tup ws => inF v ws
  | .notin, v, .tup ws => (inF v ws).map (!·)
  | .in_, v, .ref n => inD A v n
  | .notin, v, .ref n => (inD A v n).map (!·)
  | _, _, _ => none
def idxA (A : AH) : AV → AV → Option AV
  | .tup vs, .int i => atI vs i
  | .ref n, .int i => match A[n]?.bind AO.items? with
    | some vs => atI vs i
    | none => none
  | .str x, .int i => if x.length ≤ sizeLine then (atI x.cps.toList i).map fun c => .str ⟨#[c]⟩ else none
  | _, _ => none
/-- what a slice takes -/
def cutL {α : Type} (xs : List α) (lo hi : Option Int) : List α := (xs.drop (HT.sIx xs.length 0 lo)).take (HT.sIx xs.length xs.length hi - HT.sIx xs.length 0 lo)
def allInts : List AV → Option (List Int)
  | [] => some []
  | .int i :: vs => (allInts vs).map (i :: ·)
  | _ => none
def allBls : List AV → Option (List Bool)
  | [] => some []
  | .bl b :: vs => (allBls vs).map (b :: ·)
  | _ => none
def allStrs : List AV → Option (List Str)
  | [] => some []
  | .str x :: vs => (allStrs vs).map (x :: ·)
  | _ => none
def intsOf (A : AH) (v : AV) : Option (List Int) := (match v with
  | .ref _ => itemsOf A v
  | _ => none).bind allInts
def blsOf (A : AH) (v : AV) : Option (List Bool) := (match v with
  | .ref _ => itemsOf A v
  | _ => none).bind allBls
def maxL : List Int → Int
  | [] => 0
  | x :: xs => xs.foldl (fun a b => if a < b then b else a) x
def minL : List Int → Int
  | [] => 0
  | x :: xs => xs.foldl (fun a b => if b < a then b else a) x
/-- built-in functions -/
def bltA (A : AH) : BF → List AV → R AV
  | .len, [.str x] => if x.length ≤ sizeLine then .ok (.int x.length) A else .stuck
  | .len, [v] => match itemsOf A v with
    | some vs => .ok (.int vs.length) A
    | none => .stuck
  | .abs, [.int i] => .ok (.int (if i < 0 then -i else i)) A
  | .max, [.int i, .int j] => .ok (.int (if j > i then j else i)) A
  | .min, [.int i, .int j] => .ok (.int (if j < i then j else i)) A
  | .sum, [v] => match intsOf A v with
    | some ns => .ok (.int ns.sum) A
    | none => .stuck
  | .max, [v] => match intsOf A v with
    | some (n :: ns) => .ok (.int (maxL (n :: ns))) A
    | _ => .stuck
  | .min, [v] => match intsOf A v with
    | some (n :: ns) => .ok (.int (minL (n :: ns))) A
    | _ => .stuck
  | .all, [v] => match blsOf A v with
    | some bs => .ok (.bl (bs.all id)) A
    | none => .stuck
  | .any, [v] => match blsOf A v with
    | some bs => .ok (.bl (bs.any id)) A
    | none => .stuck
  | .int, [.int i] => .ok (.int i) A
  | .int, [.bl b] => .ok (.int (if b then 1 else 0)) A
  | .int, [.str x] => if x.length ≤ 640 then (match PySem.intText? x with
    | some n => .ok (.int n) A
    | none => .stuck) else .stuck
  | .str, [.int i] => if i.natAbs.log2 < 1920 then .ok (.str (toString i)) A else .stuck
  | .str, [.str x] => .ok (.str x) A
  | .repr, [.int i] => if i.natAbs.log2 < 1920 then .ok (.str (toString i)) A else .stuck
  | .divmod, [.int i, .int j] => if 0 < j ∧ j.natAbs.log2 < 9000 then .ok (.tup [.int (i / j), .int (i % j)]) A else .stuck
  | .list, [v] => match itemsOf A v with
    | some vs => new A (.lst vs)
    | none => .stuck
  | .tuple, [v] => match itemsOf A v with
    | some vs => .ok (.tup vs) A
    | none => .stuck
  | _, _ => .stuck
/-- a list that may be written -/
def lstAt (A : AH) (n : Nat) : Option (List AV) := match A[n]? with
  | some (.lst vs) => some vs
  | _ => none
def setL (A : AH) (n : Nat) (vs : List AV) : AH := A.set n (.lst vs)
def bmA (A : AH) : BM → AV → List AV → R AV
  | .append, .ref n, [v] => match lstAt A n with
    | some vs => if vs.length < sizeLine then .ok .non (setL A n (vs ++ [v])) else .stuck
    | none => .stuck
  | .pop, .ref n, [] => match lstAt A n with
    | some vs => match vs[vs.length - 1]? with
      | some v => .ok v (setL A n vs.dropLast)
      | none => .stuck
    | none => .stuck
  | .popAt, .ref n, [.int i] => match lstAt A n with
    | some vs => match atI vs i with
      | some v => if -(2 ^ 63) ≤ i ∧ i < 2 ^ 63 then .ok v (setL A n (vs.eraseIdx ((seqIndex? i vs.length).getD 0))) else .stuck
      | none => .stuck
    | none => .stuck
  | .reverse, .ref n, [] => match lstAt A n with
    | some vs => .ok .non (setL A n vs.reverse)
    | none => .stuck
  | .clear, .ref n, [] => match lstAt A n with
    | some vs => .ok .non (setL A n [])
    | none => .stuck
  | .split, .str x, [.str y] => if (y.length == 0) = false ∧ x.length + 2 ≤ sizeLine then new A (.lst ((Txt.split x y).map AV.str)) else .stuck
  | .partition, .str x, [.str y] => if (y.length == 0) = false ∧ x.length ≤ sizeLine then .ok (.tup [.str (Txt.partition x y).1, .str (Txt.partition x y).2.1, .str (Txt.partition x y).2.2]) A else .stuck
  | .join, .str x, [v] => match (itemsOf A v).bind allStrs with
    | some ys => if (ys.map (·.length)).sum + ys.length * x.length ≤ 16777216 then .ok (.str (Txt.join x ys)) A else .stuck
    | none => .stuck
  | .startswith, .str x, [.str y] => .ok (.bl (Txt.startswith x y)) A
  | .find, .str x, [.str y] => .ok (.int (Txt.find x y)) A
  | _, _, _ => .stuck
def AV.isStr : AV → Bool
  | .str _ => true
  | _ => false
def BM.isStr : BM → Bool
  | .split => true | .partition => true | .join => true | .startswith => true | .find => true
  | _ => false
/-- the receiver's type stands ahead of the arguments -/
def rcvA (A : AH) : BM → AV → Bool
  | .append, .ref n => (lstAt A n).isSome
  | .pop, .ref n => (lstAt A n).isSome
  | .popAt, .ref n => (lstAt A n).isSome
  | .reverse, .ref n => (lstAt A n).isSome
  | .clear, .ref n => (lstAt A n).isSome
  | m, v => m.isStr && v.isStr
def isiA (A : AH) : AV → TyN → Option Bool
  | .int _, t => some (decide (t = .int))
  | .bl _, t => some (decide (t = .int) || decide (t = .bool))
  | .str _, t => some (decide (t = .str))
  | .non, _ => some false
  | .tup _, t => some (decide (t = .tuple))
  | .ref n, t => match A[n]?.bind AO.items? with
    | some _ => some (decide (t = .list))
    | none => none
  | .fn _, _ => none

/-! ### what is walked -/
inductive Src where
  | fx (vs : List AV) | dy (n : Nat) | en (s : Src) | zp (s t : Src)
/-- the item of a turn: none: not told; some none: the end -/
def Src.at (A : AH) (i : Nat) : Src → Option (Option AV)
  | .fx vs => some vs[i]?
  | .dy n => (A[n]?.bind AO.items?).map (·[i]?)
  | .en s => (s.at A i).map fun o => o.map fun v => .tup [.int i, v]
  | .zp s t => match s.at A i, t.at A i with
    | some (some v), some (some w) => some (some (.tup [v, w]))
    | some none, some _ => some none
    | some (some _), some none => some none
    | _, _ => none
def Src.len (A : AH) : Src → Option Nat
  | .fx vs => some vs.length
  | .dy n => (A[n]?.bind AO.items?).map (·.length)
  | .en s => s.len A
  | .zp s t => match s.len A, t.len A with
    | some n, some m => some (min n m)
    | _, _ => none
def rangeL (lo hi : Int) : List AV := (List.range (hi - lo).toNat).map fun (k : Nat) => .int (lo + (k : Int))
def seqSrc (A : AH) : AV → Option Src
  | .ref n => match A[n]?.bind AO.items? with
    | some _ => some (.dy n)
    | none => none
  | .tup vs => some (.fx vs)
  | .str x => some (.fx (signs x))
  | _ => none
def big : Int := 4611686018427387904
def srcA (A : AH) : IK → List AV → Option Src
  | .seq, [v] => seqSrc A v
  | .range1, [.int j] => if -big ≤ j ∧ j < big then some (.fx (rangeL 0 j)) else none
  | .range2, [.int i, .int j] => if (-big ≤ i ∧ i < big) ∧ (-big ≤ j ∧ j < big) then some (.fx (rangeL i j)) else none
  | .enum, [.ref n] => (seqSrc A (.ref n)).map .en
  | .zip, [.ref n, .ref m] => match seqSrc A (.ref n), seqSrc A (.ref m) with
    | some s, some t => some (.zp s t)
    | _, _ => none
  | _, _ => none

/-! ### names -/
mutual
def bindT (A : AH) : MT → AV → AS → Option AS
  | .nm i, v, s => some (s.set i (some v))
  | .tp ts, v, s => match itemsOf A v with
    | some vs => bindTs A ts vs s
    | none => none
def bindTs (A : AH) : List MT → List AV → AS → Option AS
  | [], [], s => some s
  | t :: ts, v :: vs, s => match bindT A t v s with
    | some s' => bindTs A ts vs s'
    | none => none
  | _, _, _ => none
end
def wipeA (s : AS) : List Nat → AS
  | [] => s
  | i :: is => (wipeA s is).set i none

/-! ### the evaluator: what calls do is a parameter -/
structure Cl where
  gl : Nat → Option AV
  call : Nat → List AV → AH → R AV
  form : Nat → Nat → List AV → List AV → Option (List AV)
  /-- a class's __init__, a class's method: the def's number -/
  init : Nat → Option Nat
  meth : Nat → Str → Option Nat
  dun : Nat → Str → Option Nat
  ownB : Nat → Bool
  /-- a field that may be read and stored -/
  fldB : Nat → Str → Bool
  /-- an own exception class made of values: its fields -/
  xf : Nat → List AV → Option (List (Str × AV))
  /-- an exception's class and a class that is named -/
  sub : Nat → XN → Option Bool
  /-- the exception that is handled: the name's slot, its class, its dict -/
  ex : Option (Nat × Nat × Nat)
/-- a new instance: its __init__ tells None -/
def mkA (c : Cl) (f : Nat) (A : AH) (C : Nat) (zs : List AV) : R AV := (c.call f zs (A ++ [.ins C []])).bind fun v A' => match v with
  | .non => .ok (.ref A.length) A'
  | _ => .stuck
/-- the fields of an instance -/
def insAt (A : AH) : AV → Option (Nat × List (Str × AV))
  | .ref n => (match A[n]? with
    | some (.ins C fs) => some (C, fs)
    | _ => none)
  | _ => none
/-- an own method of that name -/
def dunA (c : Cl) (A : AH) (m : Str) (v : AV) : Option Nat := match insAt A v with
  | some (C, _) => c.dun C m
  | none => none
/-- an instance's field -/
def fldA (c : Cl) (A : AH) (f : Str) (v : AV) : Option AV := match insAt A v with
  | some (C, fs) => if c.fldB C f then fs.lookup f else none
  | none => none
/-- an instance's field is stored -/
def putF (f : Str) (v : AV) : List (Str × AV) → List (Str × AV)
  | [] => [(f, v)]
  | (g, w) :: fs => if g = f then (f, v) :: fs else (g, w) :: putF f v fs
def setFldA (c : Cl) (A : AH) (f : Str) (x v : AV) : Option AH := match x with
  | .ref n => (match A[n]? with
    | some (.ins C fs) => if c.fldB C f && decide (fs.length < 1000) then some (A.set n (.ins C (putF f v fs))) else none
    | _ => none)
  | _ => none
/-- the handled exception's field -/
def xfldA (c : Cl) (A : AH) (i : Nat) (f : Str) : Option AV := match c.ex with
  | some (j, _, n) => if j = i then (match A[n]? with
    | some (.xd fs) => fs.lookup f
    | _ => none) else none
  | none => none
def xisA (c : Cl) (A : AH) (i : Nat) (t : XN) : Option Bool := match c.ex with
  | some (j, C, n) => if j = i then (match A[n]? with
    | some (.xd _) => c.sub C t
    | _ => none) else none
  | none => none
/-- isinstance of an own class -/
def tyA (A : AH) : AV → Option (String ⊕ Nat)
  | .non => some (.inl "NoneType")
  | .bl _ => some (.inl "bool")
  | .int _ => some (.inl "int")
  | .str _ => some (.inl "str")
  | .tup _ => some (.inl "tuple")
  | .ref n => (match A[n]? with
    | some (.ins D _) => some (.inr D)
    | some (.lst _) => some (.inl "list")
    | some (.ro _) => some (.inl "list")
    | _ => none)
  | .fn _ => none
def iscA (c : Cl) (A : AH) (C : Nat) (v : AV) : Option Bool := match tyA A v with
  | some (.inl _) => some false
  | some (.inr D) => if c.ownB D then some (decide (D = C)) else none
  | none => none
/-- a further part of an f-string -/
def fsA (acc : Str) (v : AV) : Option Str := match v with
  | .str y => if (acc ++ y).length ≤ sizeLine then some (acc ++ y) else none
  | _ => none
/-- a value of a known type -/
def tyB (c : Cl) (A : AH) (w : AV) : Bool := match tyA A w with
  | some (.inl _) => true
  | some (.inr D) => c.ownB D
  | none => false
/-- an own method's answer: a truth, a text, a length; no exception leaves -/
def bolO : R AV → R AV
  | .ok (.bl b) A => .ok (.bl b) A
  | _ => .stuck
def strO : R AV → R AV
  | .ok (.str x) A => .ok (.str x) A
  | _ => .stuck
def lenO : R AV → R AV
  | .ok (.int n) A => if 0 ≤ n ∧ n < 2 ^ 62 then .ok (.int n) A else .stuck
  | _ => .stuck
def sliceA (A : AH) (lo hi : Option Int) : AV → R AV
  | .str x => if x.length ≤ sizeLine then .ok (.str (cutS x lo hi)) A else .stuck
  | .tup vs => .ok (.tup (cutL vs lo hi)) A
  | .ref n => match A[n]?.bind AO.items? with
    | some vs => new A (.lst (cutL vs lo hi))
    | none => .stuck
  | _ => .stuck
/-- a slice's bound -/
def bndA : List AV → Option (Option Int)
  | [] => some none
  | [.int i] => some (some i)
  | _ => none
section
variable (c : Cl)
/-- the list comprehension's turns: m are left, i is the turn, D the new list -/
def compL (step : AV → AH → R (Option AV)) (src : Src) (D : Nat) : Nat → Nat → AH → R AV
  | 0, i, A => match src.at A i with
    | some none => .ok (.ref D) A
    | _ => .stuck
  | m + 1, i, A => match src.at A i with
    | some (some v) => match step v A with
      | .ok (some y) A' => match lstAt A' D with
        | some acc => if acc.length < sizeLine then compL step src D m (i + 1) (setL A' D (acc ++ [y])) else .stuck
        | none => .stuck
      | .ok none A' => compL step src D m (i + 1) A'
      | _ => .stuck
    | _ => .stuck
mutual
def evE (s : AS) : ME → AH → R AV
  | .var i, A => match s[i]? with
    | some (some v) => .ok v A
    | _ => .stuck
  | .cst v, A => .ok v A
  | .gl g, A => optR A (c.gl g)
  | .bin o a b, A => (evE s a A).bind fun v A => (evE s b A).bind fun w A => opA A o v w
  | .neg a, A => (evE s a A).bind fun v A => match v with
    | .int i => .ok (.int (-i)) A
    | _ => .stuck
  | .not a, A => (evE s a A).bind fun v A => blR A ((truA A v).map (!·))
  | .cmp o a b, A => (evE s a A).bind fun v A => (evE s b A).bind fun w A => blR A (cmpA A o v w)
  | .cmp2 o p a b d, A => (evE s a A).bind fun v A => (evE s b A).bind fun w A => match cmpA A o v w with
    | some true => (evE s d A).bind fun z A => blR A (cmpA A p w z)
    | some false => .ok (.bl false) A
    | none => .stuck
  | .bop k es, A => evB s k es A
  | .ife d a b, A => (evE s d A).bind fun v A => match truA A v with
    | some true => evE s a A
    | some false => evE s b A
    | none => .stuck
  | .tup es, A => (evs s es A).bind fun vs A => if vs.length ≤ sizeLine then .ok (.tup vs) A else .stuck
  | .lst es, A => (evs s es A).bind fun vs A => newL A vs
  | .idx a b, A => (evE s a A).bind fun v A => (evE s b A).bind fun w A => optR A (idxA A v w)
  | .slc a lo hi, A => (evE s a A).bind fun v A => (evs s lo A).bind fun l A => match bndA l with
    | some i => (evs s hi A).bind fun h A => (match bndA h with
      | some j => sliceA A i j v
      | none => .stuck)
    | none => .stuck
  | .rev a, A => (evE s a A).bind fun v A => match v with
    | .ref n => (match lstAt A n with
      | some vs => new A (.lst vs.reverse)
      | none => .stuck)
    | _ => .stuck
  | .call f es, A => (evs s es A).bind fun vs A => c.call f vs A
  | .callk f fm es kes, A => (evs s es A).bind fun vs A => (evs s kes A).bind fun ws A => match c.form f fm vs ws with
    | some zs => c.call f zs A
    | none => .stuck
  | .mk C es, A => (evs s es A).bind fun vs A => match c.init C with
    | some f => mkA c f A C (.ref A.length :: vs)
    | none => .stuck
  | .mkk C fm es kes, A => (evs s es A).bind fun vs A => (evs s kes A).bind fun ws A => match c.init C with
    | some f => (match c.form f fm (.ref A.length :: vs) ws with
      | some zs => mkA c f A C zs
      | none => .stuck)
    | none => .stuck
  | .meth C m o es, A => (evE s o A).bind fun v A => match insAt A v with
    | some (D, fs) => if D = C ∧ fs.lookup m = none then (evs s es A).bind fun vs A => (match c.meth C m with
      | some f => c.call f (v :: vs) A
      | none => .stuck) else .stuck
    | none => .stuck
  | .methk C m fm o es kes, A => (evE s o A).bind fun v A => match insAt A v with
    | some (D, fs) => if D = C ∧ fs.lookup m = none then (evs s es A).bind fun vs A => (evs s kes A).bind fun ws A => (match c.meth C m with
      | some f => (match c.form f fm (v :: vs) ws with
        | some zs => c.call f zs A
        | none => .stuck)
      | none => .stuck) else .stuck
    | none => .stuck
  | .fld o f, A => (evE s o A).bind fun v A => optR A (fldA c A f v)
  | .isc a C, A => (evE s a A).bind fun v A => blR A (iscA c A C v)
  | .xfld i f, A => optR A (xfldA c A i f)
  | .xis i t, A => blR A (xisA c A i t)
  | .oeq a b, A => (evE s a A).bind fun v A => (evE s b A).bind fun w A => match dunA c A "__eq__" v with
    | some f => if tyB c A w then bolO (c.call f [v, w] A) else .stuck
    | none => .stuck
  | .olen a, A => (evE s a A).bind fun v A => match dunA c A "__len__" v with
    | some f => lenO (c.call f [v] A)
    | none => .stuck
  | .ostr a, A => (evE s a A).bind fun v A => match dunA c A "__str__" v with
    | some f => strO (c.call f [v] A)
    | none => .stuck
  | .orep a, A => (evE s a A).bind fun v A => match dunA c A "__repr__" v with
    | some f => strO (c.call f [v] A)
    | none => .stuck
  | .ofmt a, A => (evE s a A).bind fun v A => match dunA c A "__str__" v with
    | some f => strO (c.call f [v] A)
    | none => .stuck
  | .blt b es, A => (evs s es A).bind fun vs A => bltA A b vs
  | .bm m o es, A => (evE s o A).bind fun v A => if rcvA A m v then (evs s es A).bind fun vs A => bmA A m v vs else .stuck
  | .isi a t, A => (evE s a A).bind fun v A => blR A (isiA A v t)
  | .comp own tg k src ifs elt, A => (evs s src A).bind fun vs A => match srcA A k vs with
    | none => .stuck
    | some sr => match sr.len A with
      | none => .stuck
      | some n => compL (fun v A => match bindT A tg v (wipeA s own) with
        | none => .stuck
        | some s2 => (evB s2 true ifs A).bind fun t A => match t with
          | .bl true => (evE s2 elt A).bind fun y A => .ok (some y) A
          | .bl false => .ok none A
          | _ => .stuck) sr A.length n 0 (A ++ [.lst []])
  | .fmt a, A => (evE s a A).bind fun v A => match v with
    | .str x => if x.length ≤ sizeLine then .ok (.str x) A else .stuck
    | .int i => if i.natAbs.log2 < 1920 then .ok (.str (toString i)) A else .stuck
    | _ => .stuck
  | .fstr es, A => evJ s Str.empty es A
def evs (s : AS) : MEs → AH → R (List AV)
  | .nil, A => .ok [] A
  | .cons e es, A => (evE s e A).bind fun v A => (evs s es A).bind fun vs A => .ok (v :: vs) A
/-- an f-string's parts -/
def evJ (s : AS) (acc : Str) : MEs → AH → R AV
  | .nil, A => .ok (.str acc) A
  | .cons e es, A => (evE s e A).bind fun v A => match fsA acc v with
    | some acc => evJ s acc es A
    | none => .stuck
/-- and (conj), or -/
def evB (s : AS) (conj : Bool) : MEs → AH → R AV
  | .nil, A => .ok (.bl conj) A
  | .cons e .nil, A => evE s e A
  | .cons e es, A => (evE s e A).bind fun v A => match truA A v with
    | some t => if t == conj then evB s conj es A else .ok v A
    | none => .stuck
end
/-! ### statements -/
/-- the for loop's turns -/
def forL (t : MT) (body : AS → AH → F) (src : Src) : Nat → Nat → AS → AH → F
  | 0, i, s, A => match src.at A i with
    | some none => .nx s A
    | _ => .stuck
  | m + 1, i, s, A => match src.at A i with
    | some (some v) => match bindT A t v s with
      | none => .stuck
      | some s2 => match body s2 A with
        | .nx s' A' => forL t body src m (i + 1) s' A'
        | .ct s' A' => forL t body src m (i + 1) s' A'
        | .bk s' A' => .nx s' A'
        | r => r
    | _ => .stuck
/-- the while loop's turns -/
def whlL (test : AS → AH → R AV) (body : AS → AH → F) : Nat → AS → AH → F
  | 0, _, _ => .stuck
  | m + 1, s, A => (test s A).fl s fun v A => match truA A v with
    | none => .stuck
    | some false => .nx s A
    | some true => match body s A with
      | .nx s' A' => whlL test body m s' A'
      | .ct s' A' => whlL test body m s' A'
      | .bk s' A' => .nx s' A'
      | r => r
open Classical in
/-- the while loop: so many turns as bring it to an end -/
noncomputable def whlW (test : AS → AH → R AV) (body : AS → AH → F) (s : AS) (A : AH) : F := if h : ∃ m, whlL test body m s A ≠ .stuck then whlL test body h.choose s A else .stuck
def setSubA (A : AH) : AV → AV → AV → Option AH
  | .ref n, .int i, v => match lstAt A n with
    | some vs => (ixN vs.length i).map fun j => setL A n (vs.set j v)
    | none => none
  | _, _, _ => none
/-- in-place operators of ints and texts -/
def augB : BO → AV → Bool
  | .add, .int _ => true
  | .add, .str _ => true
  | .sub, .int _ => true
  | .mul, .int _ => true
  | _, _ => false
def setsA (s : AS) : List Nat → List AV → AS
  | i :: is, v :: vs => setsA (s.set i (some v)) is vs
  | _, _ => s
end
section
def inS (i : Option Nat) (s : AS) : Bool := i.elim true fun i => decide (i < s.length)
/-- behind an except suite -/
def unxF (i : Option Nat) : F → F
  | .nx s A => .nx (i.elim s fun i => s.set i none) A
  | .rt v s A => .rt v s A
  | .bk s A => .bk (i.elim s fun i => s.set i none) A
  | .ct s A => .ct (i.elim s fun i => s.set i none) A
  | _ => .stuck
/-- within an except suite -/
def inX (c : Cl) (i : Option Nat) (C n : Nat) : Cl := { c with ex := i.map fun i => (i, C, n) }
mutual
noncomputable def exS (c : Cl) (s : AS) : MS → AH → F
  | .expr e, A => (evE c s e A).fl s fun _ A => .nx s A
  | .asg t e, A => (evE c s e A).fl s fun v A => match bindT A t v s with
    | some s' => .nx s' A
    | none => .stuck
  | .setSub o i e, A => (evE c s e A).fl s fun v A => (evE c s o A).fl s fun x A => (evE c s i A).fl s fun y A => match setSubA A x y v with
    | some A => .nx s A
    | none => .stuck
  | .aug i o e, A => match s[i]? with
    | some (some v) => if augB o v then (evE c s e A).fl s fun w A => (opA A o v w).fl s fun z A => .nx (s.set i (some z)) A else .stuck
    | _ => .stuck
  | .augSub o i op e, A => (evE c s o A).fl s fun x A => (evE c s i A).fl s fun y A => match idxA A x y with
    | none => .stuck
    | some v => if augB op v && rcvA A .append x then (evE c s e A).fl s fun w A => (opA A op v w).fl s fun z A => match setSubA A x y z with
      | some A => .nx s A
      | none => .stuck else .stuck
  | .par is es, A => (evs c s es A).fl s fun vs A => if vs.length = is.length then .nx (setsA s is vs) A else .stuck
  | .iff d a b, A => (evE c s d A).fl s fun v A => match truA A v with
    | some true => exSs c s a A
    | some false => exSs c s b A
    | none => .stuck
  | .whl d b, A => whlW (fun s A => evE c s d A) (fun s A => exSs c s b A) s A
  | .forr t k src b, A => (evs c s src A).fl s fun vs A => match srcA A k vs with
    | none => .stuck
    | some sr => match sr.len A with
      | none => .stuck
      | some n => forL t (fun s A => exSs c s b A) sr n 0 s A
  | .ret e, A => (evE c s e A).fl s fun v A => .rt v s A
  | .retN, A => .rt .non s A
  | .setFld o f e, A => (evE c s e A).fl s fun v A => (evE c s o A).fl s fun x A => match setFldA c A f x v with
    | some A => .nx s A
    | none => .stuck
  | .augFld _ _ _ _, _ => .stuck
  | .raise C es, A => (evs c s es A).fl s fun vs A => match c.xf C vs with
    | some fs => .exc C fs s A
    | none => .stuck
  | .tryAs b hs, A => match exSs c s b A with
    | .exc C fs s' A' => exHs c C fs s' A' hs
    | r => r
  | .pass, A => .nx s A
  | .brk, A => .bk s A
  | .cnt, A => .ct s A
noncomputable def exSs (c : Cl) (s : AS) : MSs → AH → F
  | .nil, A => .nx s A
  | .cons x xs, A => (exS c s x A).andThen fun s A => exSs c s xs A
noncomputable def exHs (c : Cl) (C : Nat) (fs : List (Str × AV)) (s : AS) (A : AH) : MHs → F
  | .nil => .exc C fs s A
  | .cons t i b hs => match c.sub C t with
    | some true => if inS i s then unxF i (exSs (inX c i C A.length) (i.elim s fun i => s.set i none) b (A ++ [.xd fs])) else .stuck
    | some false => exHs c C fs s A hs
    | none => .stuck
end
end
/-! ### the table of a text -/
/-- where a parameter's value comes from: a value by place, by its name, a default, a keyword-only one's default (of those that lack) -/
inductive Ar where
  | pos (i : Nat) | kw (j : Nat) | dfl (i : Nat) | kwd (i : Nat)
def arrG {α : Type} (arr : List Ar) (us its mv ws : List α) : List α := arr.filterMap fun
  | .pos i => us[i]?
  | .kw j => ws[j]?
  | .dfl i => its[i]?
  | .kwd i => mv[i]?
/-- a form of call: so many values by place, these names, what lacks of the keyword-only ones -/
structure Form where
  n : Nat
  ks : List Str
  arr : List Ar
  ms : List Nat
structure FnT where
  name : Str
  at_ : Str × Option Str
  qual : Str
  params : Arguments
  ps : List Str
  N : List Str
  sc : Scope
  body : MSs
  src : List Stmt
  dfl : List (He.Dv × AV) := []
  kwd : List (Str × He.Dv × AV) := []
  forms : List Form := []
  plain : Bool := true
def FnT.dvs (d : FnT) : List AV := d.dfl.map (·.2)
def FnT.kvs (d : FnT) : List AV := d.kwd.map (·.2.2)
def formA (d : FnT) (fm : Form) (vs ws : List AV) : Option (List AV) := if vs.length = fm.n ∧ ws.length = fm.ks.length then some (arrG fm.arr vs d.dvs (fm.ms.filterMap (d.kvs[·]?)) ws) else none
/-- what an exception's __init__ hands on and stores: a parameter, a constant -/
inductive XE where
  | par (i : Nat) | cst (v : AV)
/-- classes: an own one, by its __init__, methods and fields; an own exception class: under which own one (none: ValueError), so many parameters, what it hands up, what it stores; its __init__ -/
inductive CT where
  | own (name : Str) (init : Nat) (meths : List (Str × Nat)) (flds : List Str)
  | exc (name : Str) (base : Option Nat) (ps : List Str) (up : List XE) (fs : List (Str × XE)) (d : FnT)
def CT.name : CT → Str
  | .own x _ _ _ => x
  | .exc x _ _ _ _ _ => x
structure Tb where
  fns : List FnT
  gls : List (Str × AV)
  free : List Str
  cls : List CT := []
def XE.v (vs : List AV) : XE → Option AV
  | .par i => vs[i]?
  | .cst v => some v
/-- the fields, the last one first -/
def addX (vs : List AV) : List (Str × XE) → List (Str × AV) → Option (List (Str × AV))
  | [], acc => some acc
  | (f, e) :: fs, acc => match e.v vs with
    | some v => addX vs fs ((f, v) :: acc)
    | none => none
def xfN (cls : List CT) : Nat → Nat → List AV → Option (List (Str × AV))
  | 0, _, _ => none
  | k + 1, C, vs => match cls[C]? with
    | some (.exc _ base ps up fs _) => if vs.length = ps.length then (match base with
      | none => addX vs fs []
      | some B => (match mapO (XE.v vs) up with
        | some ws => (match xfN cls k B ws with
          | some acc => addX vs fs acc
          | none => none)
        | none => none)) else none
    | _ => none
/-- is the exception class C one of those? -/
def subN (cls : List CT) : Nat → Nat → XN → Bool
  | 0, _, _ => false
  | k + 1, C, t => match cls[C]? with
    | some (.exc _ base _ _ _ _) => (match t with
      | .ve => true
      | .own D => if C = D then true else (match base with
        | some B => subN cls k B t
        | none => false))
    | _ => false
def subT (cls : List CT) (C : Nat) (t : XN) : Option Bool := match cls[C]?, t with
  | some (.exc _ _ _ _ _ _), .ve => some true
  | some (.exc _ _ _ _ _ _), .own D => (match cls[D]? with
    | some (.exc _ _ _ _ _ _) => some (subN cls 8 C t)
    | _ => none)
  | _, _ => none
def startA (n : Nat) (vs : List AV) : AS := vs.map some ++ List.replicate (n - vs.length) none
def retA : F → R AV
  | .nx _ A => .ok .non A
  | .rt v _ A => .ok v A
  | .exc C fs _ A => .exc C fs A
  | _ => .stuck
def Tb.form (T : Tb) (f fm : Nat) (vs ws : List AV) : Option (List AV) := match T.fns[f]? with
  | some d => (match d.forms[fm]? with
    | some m => formA d m vs ws
    | none => none)
  | none => none
def Tb.initN (T : Tb) (C : Nat) : Option Nat := match T.cls[C]? with
  | some (.own _ i _ _) => some i
  | _ => none
def Tb.methN (T : Tb) (C : Nat) (m : Str) : Option Nat := match T.cls[C]? with
  | some (.own _ _ ms _) => ms.lookup m
  | _ => none
/-- a method that may be called for an operator or a built-in -/
def Tb.dunN (T : Tb) (C : Nat) (m : Str) : Option Nat := match T.methN C m with
  | some f => (match T.fns[f]? with
    | some d => if d.plain then some f else none
    | none => none)
  | none => none
def Tb.ownN (T : Tb) (C : Nat) : Bool := match T.cls[C]? with
  | some (.own _ _ _ _) => true
  | _ => false
/-- all names of exceptions' fields -/
def Tb.xfl (T : Tb) : List Str := T.cls.flatMap fun
  | .exc _ _ _ _ fs _ => fs.map (·.1)
  | _ => []
def Tb.fldN (T : Tb) (C : Nat) (f : Str) : Bool := match T.cls[C]? with
  | some (.own _ _ _ fs) => fs.contains f
  | _ => false
/-- what calls do, so deep -/
def clOf (T : Tb) (call : Nat → List AV → AH → R AV) : Cl := {
  gl := fun g => (T.gls[g]?).map (·.2)
  call := call
  form := T.form
  init := T.initN
  meth := T.methN
  dun := T.dunN
  ownB := T.ownN
  fldB := T.fldN
  xf := fun C vs => xfN T.cls 8 C vs
  sub := subT T.cls
  ex := none }
noncomputable def callN (T : Tb) : Nat → Nat → List AV → AH → R AV
  | 0, _, _, _ => .stuck
  | k + 1, f, vs, A => match T.fns[f]? with
    | none => .stuck
    | some d => if vs.length = d.ps.length then
        retA (exSs (clOf T (callN T k)) (startA d.N.length vs) d.body A)
      else .stuck

/-! ### shapes of the syntax -/
def nmOf : Expr → Option Str
  | .Name x _ => some x
  | _ => none
def cstOf : Expr → Option Const
  | .Constant k _ _ => some k
  | _ => none
def binOf : Expr → Option (Expr × Operator × Expr)
  | .BinOp e p f _ => some (e, p, f)
  | _ => none
def unOf : Expr → Option (UnaryOp × Expr)
  | .UnaryOp p e _ => some (p, e)
  | _ => none
def cmpOf : Expr → Option (Expr × CmpOp × Expr)
  | .Compare e [p] [f] _ => some (e, p, f)
  | _ => none
def cmp2Of : Expr → Option (Expr × CmpOp × Expr × CmpOp × Expr)
  | .Compare e [p, p2] [f, g] _ => some (e, p, f, p2, g)
  | _ => none
def boolOf : Expr → Option (BoolOp × List Expr)
  | .BoolOp p fs _ => some (p, fs)
  | _ => none
def ifeOf : Expr → Option (Expr × Expr × Expr)
  | .IfExp e f g _ => some (e, f, g)
  | _ => none
def tupOf : Expr → Option (List Expr)
  | .Tuple es _ _ => some es
  | _ => none
def lstOf : Expr → Option (List Expr)
  | .List es _ => some es
  | _ => none
def subOf : Expr → Option (Expr × Expr)
  | .Subscript e f _ => some (e, f)
  | _ => none
def callOf : Expr → Option (Str × List Expr)
  | .Call (.Name x _) fs [] _ => some (x, fs)
  | _ => none
def callkOf : Expr → Option (Str × List Expr × List Keyword)
  | .Call (.Name x _) fs ks _ => some (x, fs, ks)
  | _ => none
def methOf : Expr → Option (Expr × Str × List Expr × Nat × Nat)
  | .Call (.Attribute e z ap) fs [] cp => some (e, z, fs, ap.endLine, cp.line)
  | _ => none
def attOf : Expr → Option (Expr × Str)
  | .Attribute e f _ => some (e, f)
  | _ => none
def slcOf : Expr → Option (Expr × Option Expr × Option Expr)
  | .Subscript e (.Slice l h none _) _ => some (e, l, h)
  | _ => none
def revOf : Expr → Option Expr
  | .Subscript e (.Slice none none (some (.UnaryOp .USub (.Constant (.int 1) _ _) _)) _) _ => some e
  | _ => none
def fmtOf : Expr → Option Expr
  | .FormattedValue e (-1) none _ => some e
  | _ => none
def jsOf : Expr → Option (List Expr)
  | .JoinedStr es _ => some es
  | _ => none
def methkOf : Expr → Option (Expr × Str × List Expr × List Keyword)
  | .Call (.Attribute e z _) fs ks _ => some (e, z, fs, ks)
  | _ => none
def raiseSt : Stmt → Option (Str × List Expr)
  | .Raise (some (.Call (.Name x _) fs [] _)) none _ => some (x, fs)
  | _ => none
def trySt : Stmt → Option (List Stmt × List ExceptHandler)
  | .Try b hs [] [] _ => some (b, hs)
  | _ => none
def hdOf : ExceptHandler → Option (Str × Option Str × List Stmt)
  | .ExceptHandler (some (.Name x _)) n b _ => some (x, n, b)
  | _ => none
/-- not super() -/
def notSuper : Expr → Bool
  | .Call (.Name _ _) [] [] _ => false
  | _ => true
/-- names of handled exceptions -/
def excN (x : Str) : Bool := x == ("e" : Str) || x == ("why" : Str)
def compOf : Expr → Option (Expr × Expr × Expr × List Expr × Scope)
  | .ListComp f [⟨te, ie, ifes, 0⟩] scope _ => some (f, te, ie, ifes, scope)
  | _ => none
def exprSt : Stmt → Option Expr
  | .Expr e _ => some e
  | _ => none
def asgSt : Stmt → Option (Expr × Expr)
  | .Assign [te] e _ => some (te, e)
  | _ => none
def augSt : Stmt → Option (Expr × Operator × Expr)
  | .AugAssign t p e _ => some (t, p, e)
  | _ => none
def iffSt : Stmt → Option (Expr × List Stmt × List Stmt)
  | .If e ss ts _ => some (e, ss, ts)
  | _ => none
def whlSt : Stmt → Option (Expr × List Stmt)
  | .While e ss [] _ => some (e, ss)
  | _ => none
def forSt : Stmt → Option (Expr × Expr × List Stmt)
  | .For te ie ss [] _ => some (te, ie, ss)
  | _ => none
def retSt : Stmt → Option (Option Expr)
  | .Return e _ => some e
  | _ => none
mutual
def slotsT : MT → List Nat
  | .nm i => [i]
  | .tp ts => slotsTs ts
def slotsTs : List MT → List Nat
  | [] => []
  | t :: ts => slotsT t ++ slotsTs ts
end
/-! ### is it that def's own syntax? -/
def visB (sc : Scope) (x : Str) : Bool := match sc.names.lookup x with
  | some .local => true
  | some .cell => true
  | some .free => true
  | _ => false
def locB (sc : Scope) (x : Str) : Bool := decide (sc.names.lookup x = some .local)
/-- stored in a def's body: a local or a cell; in a comprehension: its own local -/
def setB (sc : Scope) (blk : Bool) (x : Str) : Bool := locB sc x || (!blk && decide (sc.names.lookup x = some .cell))
def glB (sc : Scope) (x : Str) : Bool := decide (sc.names.lookup x = some .globalImplicit)
def plainN (x : Str) : Bool := !(x == ("__debug__" : Str)) && !(x == ("__classdict__" : Str)) && !(x == ("__name__" : Str))
def BO.op : BO → Operator
  | .add => .Add | .sub => .Sub | .mul => .Mult | .fdiv => .FloorDiv | .mod => .Mod | .pow => .Pow
def CO.op : CO → CmpOp
  | .eq => .Eq | .ne => .NotEq | .lt => .Lt | .le => .LtE | .gt => .Gt | .ge => .GtE | .is => .Is | .isnot => .IsNot | .in_ => .In | .notin => .NotIn
def BF.nm : BF → Option (String × Bool)
  | .len => some ("len", false) | .abs => some ("abs", false) | .sum => some ("sum", false) | .max => some ("max", false) | .min => some ("min", false)
  | .int => some ("int", true) | .list => some ("list", true) | .tuple => some ("tuple", true) | .all => some ("all", false) | .any => some ("any", false)
  | .str => some ("str", true) | .repr => some ("repr", false) | .divmod => some ("divmod", false)
def TyN.nm : TyN → String
  | .int => "int" | .bool => "bool" | .str => "str" | .list => "list" | .tuple => "tuple"
def BM.ty (m : BM) : String := if m.isStr then "str" else "list"
def BM.nm : BM → Option (String × Nat)
  | .split => some ("split", 1) | .partition => some ("partition", 1) | .join => some ("join", 1) | .startswith => some ("startswith", 1) | .find => some ("find", 1)
  | .append => some ("append", 1) | .pop => some ("pop", 0) | .popAt => some ("pop", 1) | .reverse => some ("reverse", 0) | .clear => some ("clear", 0)
section
variable (T : Tb) (N : List Str)
def chkC : AV → Const → Bool
  | .non, .none => true
  | .bl b, .bool c => b == c
  | .int i, .int j => decide (i = j)
  | .str x, .str y => decide (x = y)
  | _, _ => false
def nmPos : Expr → Option (Str × Nat)
  | .Name x p => some (x, p.line)
  | _ => none
def kindF (sc : Scope) : Bool := match sc.kind with
  | .function => true
  | _ => false
/-- names that are stored to all at once -/
def parIn (N : List Str) (sc : Scope) (is : List Nat) (ts vs : List Expr) : Bool := match is, ts, vs with
  | [i, j], [t, u], [_, _] => (match nmPos t, nmPos u with
    | some (x, l), some (y, m) => decide (N[i]? = some x) && decide (N[j]? = some y) && locB sc x && locB sc y && decide (i ≠ j) && decide (x ≠ y) && decide (m = l)
    | _, _ => false)
  | [i, j, k], [t, u, v], [_, _, _] => (match nmPos t, nmPos u, nmPos v with
    | some (x, l), some (y, m), some (z, n) => decide (N[i]? = some x) && decide (N[j]? = some y) && decide (N[k]? = some z) && locB sc x && locB sc y && locB sc z && decide (i ≠ j) && decide (i ≠ k) && decide (j ≠ k) && decide (x ≠ y) && decide (x ≠ z) && decide (y ≠ z) && decide (m = l) && decide (n = l)
    | _, _, _ => false)
  | _, _, _ => false
def parB (N : List Str) (sc : Scope) (is : List Nat) (ts vs : List Expr) : Bool := kindF sc && !(vs.all (foldedForSure 8)) && !(vs.all (constantsAlone 8)) && parIn N sc is ts vs
/-- is the comprehension stored by a swap? -/
def swV (sc : Scope) (te e : Expr) : Bool := match compOf e with
  | some (_, _, _, _, scope) => (match te with
    | .Name t p => kindF sc && locB sc t && decide (p.line = e.pos.line) && !(scope.names.any fun (n, k) => n == t && (k == .local || k == .cell))
    | _ => false)
  | none => false
/-- no tuple of as many as the target, or one of constants -/
def noSwap (te e : Expr) : Bool := match tupOf te with
  | none => true
  | some ts => (match tupOf e with
    | none => true
    | some vs => vs.all (foldedForSure 8))
def stB (sc : Scope) (calm blk : Bool) (i : Nat) (x : Str) : Bool := decide (N[i]? = some x) && setB sc blk x && (calm || !excN x)
mutual
def chkT (sc : Scope) (calm blk : Bool) : MT → Expr → Bool
  | .nm i, e => match nmOf e with
    | some x => stB N sc calm blk i x
    | none => false
  | .tp ts, e => match tupOf e with
    | some es => calm && chkTs sc calm blk ts es
    | none => false
def chkTs (sc : Scope) (calm blk : Bool) : List MT → List Expr → Bool
  | [], es => es.isEmpty
  | t :: ts, es => match es with
    | e :: es => chkT sc calm blk t e && chkTs sc calm blk ts es
    | [] => false
end
/-- names whose places are a comprehension's own -/
def ownN (own : List Nat) : Option (List (Str × Nat)) := own.mapM fun i => (N[i]?).map fun x => (x, i)
/-- a built-in name that stands -/
def bltB (sc : Scope) (x y : Str) : Bool := decide (x = y) && glB sc x && T.free.contains x && plainN x
/-- what is walked: f looks at the sources; te: the target -/
def chkI (sc : Scope) (k : IK) (f : List Expr → Bool) (te e : Expr) : Bool := match k with
  | .seq => f [e]
  | .range1 => (match callOf e with
    | some (x, fs) => bltB T sc x (Str.ofString "range") && decide (fs.length = 1) && f fs
    | none => false)
  | .range2 => (match callOf e with
    | some (x, fs) => bltB T sc x (Str.ofString "range") && decide (fs.length = 2) && f fs
    | none => false)
  | .enum => (match callOf e, tupOf te with
    | some (x, fs), some _ => bltB T sc x (Str.ofString "enumerate") && decide (fs.length = 1) && f fs
    | _, _ => false)
  | .zip => (match callOf e, tupOf te with
    | some (x, fs), some _ => bltB T sc x (Str.ofString "zip") && decide (fs.length = 2) && f fs
    | _, _ => false)
  | _ => false
def clsB (T : Tb) (C : Nat) (x : Str) : Bool := match T.cls[C]? with
  | some (.own y _ _ _) => decide (y = x)
  | _ => false
def excB (T : Tb) (C : Nat) (x : Str) : Bool := match T.cls[C]? with
  | some (.exc y _ _ _ _ _) => decide (y = x)
  | _ => false
/-- the class that a name names -/
def xnB (T : Tb) (sc : Scope) (t : XN) (y : Str) : Bool := match t with
  | .own D => excB T D y && glB sc y && plainN y
  | .ve => bltB T sc y (Str.ofString "ValueError")
/-- a def takes such a call: by place, or by a form -/
def takesB (d : FnT) (fm : Option (Nat × Nat × List (Option Str))) : Bool := match fm with
  | none => d.plain
  | some (m, n, ks) => (match d.forms[m]? with
    | some q => decide (q.n = n) && decide (q.ks.map some = ks)
    | none => false)
def initB (T : Tb) (C : Nat) (fm : Option (Nat × Nat × List (Option Str))) : Bool := match T.initN C with
  | some f => (match T.fns[f]? with
    | some d => takesB d fm
    | none => false)
  | none => false
def methB (T : Tb) (C : Nat) (m : Str) (fm : Option (Nat × Nat × List (Option Str))) : Bool := match T.methN C m with
  | some f => (match T.fns[f]? with
    | some d => takesB d fm
    | none => false)
  | none => false
mutual
def chkE (sc : Scope) (calm : Bool) : ME → Expr → Bool
  | .var i, e => match nmOf e with
    | some x => decide (N[i]? = some x) && visB sc x && plainN x
    | none => false
  | .cst v, e => match cstOf e with
    | some k => chkC v k
    | none => false
  | .gl g, e => match nmOf e with
    | some x => decide ((T.gls[g]?).map (·.1) = some x) && glB sc x && plainN x
    | none => false
  | .bin o a b, e => match binOf e with
    | some (e, p, f) => decide (o.op = p) && chkE sc calm a e && chkE sc calm b f
    | none => false
  | .neg a, e => match unOf e with
    | some (p, e) => decide (p = .USub) && chkE sc calm a e
    | none => false
  | .not a, e => match unOf e with
    | some (p, e) => decide (p = .Not) && chkE sc calm a e
    | none => false
  | .cmp o a b, e => match cmpOf e with
    | some (e, p, f) => decide (o.op = p) && chkE sc calm a e && chkE sc calm b f
    | none => false
  | .cmp2 o o2 a b d, e => match cmp2Of e with
    | some (e, p, f, p2, g) => decide (o.op = p) && decide (o2.op = p2) && chkE sc calm a e && chkE sc calm b f && chkE sc calm d g
    | none => false
  | .bop k es, e => match boolOf e with
    | some (p, fs) => decide ((if k then BoolOp.And else BoolOp.Or) = p) && chkEs sc calm es fs && !fs.isEmpty
    | none => false
  | .ife d a b, e => match ifeOf e with
    | some (e, f, g) => chkE sc calm d e && chkE sc calm a f && chkE sc calm b g
    | none => false
  | .tup es, e => match tupOf e with
    | some fs => chkEs sc calm es fs
    | none => false
  | .lst es, e => match lstOf e with
    | some fs => chkEs sc calm es fs
    | none => false
  | .idx a b, e => match subOf e with
    | some (e, f) => chkE sc calm a e && chkE sc calm b f
    | none => false
  | .call f es, e => match callOf e with
    | some (x, fs) => calm && decide ((T.fns[f]?).map (fun d => (d.plain, d.name, d.at_)) = some (true, x, (x, none))) && glB sc x && plainN x && chkEs sc calm es fs && !fs.isEmpty
    | none => false
  | .callk f fm es kes, e => match callkOf e with
    | some (x, fs, ks) => (match (T.fns[f]?).bind fun d => (d.forms[fm]?).map fun m => (d.name, d.at_, m) with
      | some (y, z, m) => calm && decide (y = x) && decide (z = (x, none)) && glB sc x && plainN x && chkEs sc calm es fs && !fs.isEmpty && decide (ks.map (·.arg) = m.ks.map some) && chkEs sc calm kes (ks.map (·.value))
      | none => false)
    | none => false
  | .blt b es, e => match callOf e with
    | some (x, fs) => (match b.nm with
      | some (z, _) => bltB T sc x (Str.ofString z) && calm && chkEs sc calm es fs && !fs.isEmpty
      | none => false)
    | none => false
  | .bm m o es, e => match methOf e with
    | some (e, z, fs, l1, l2) => (match m.nm with
      | some (q, n) => decide (z = Str.ofString q) && decide (fs.length = n) && (l1 == l2) && notSuper e && chkE sc calm o e && chkEs sc calm es fs
      | none => false)
    | none => false
  | .isi a t, e => match callOf e with
    | some (x, fs) => (match fs with
      | [e, f] => (match nmOf f with
        | some y => bltB T sc x (Str.ofString "isinstance") && bltB T sc y (Str.ofString t.nm) && chkE sc calm a e
        | none => false)
      | _ => false)
    | none => false
  | .comp own tg k src ifs elt, e => match compOf e with
    | some (f, te, ie, ifes, scope) => calm && (match ownN N own with
      | some ow => blkC N sc scope ow && chkT N (relS scope sc) calm true tg te && chkI T sc k (fun fs => chkEs sc calm src fs) te ie && chkEs (relS scope sc) calm ifs ifes && decide (ifes.length ≤ 1) && (slotsT tg).all (fun i => own.contains i) && chkE (relS scope sc) calm elt f
      | none => false)
    | none => false
  | .slc a lo hi, e => match slcOf e with
    | some (e, l, h) => chkE sc calm a e && chkEs sc calm lo l.toList && chkEs sc calm hi h.toList
    | none => false
  | .rev a, e => match revOf e with
    | some e => chkE sc calm a e
    | none => false
  | .mk C es, e => match callOf e with
    | some (x, fs) => calm && clsB T C x && glB sc x && plainN x && initB T C none && chkEs sc calm es fs && !fs.isEmpty
    | none => false
  | .mkk C fm es kes, e => match callkOf e with
    | some (x, fs, ks) => calm && clsB T C x && glB sc x && plainN x && initB T C (some (fm, fs.length + 1, ks.map (·.arg))) && chkEs sc calm es fs && !fs.isEmpty && chkEs sc calm kes (ks.map (·.value))
    | none => false
  | .meth C m o es, e => match methOf e with
    | some (e, z, fs, l1, l2) => calm && decide (z = m) && (l1 == l2) && decide (fs.length ≤ 25) && notSuper e && methB T C m none && chkE sc calm o e && chkEs sc calm es fs
    | none => false
  | .fld o f, e => match attOf e with
    | some (e, z) => decide (z = f) && notSuper e && chkE sc calm o e
    | none => false
  | .isc a C, e => match callOf e with
    | some (x, fs) => (match fs with
      | [e, f] => (match nmOf f with
        | some y => bltB T sc x (Str.ofString "isinstance") && clsB T C y && glB sc y && plainN y && chkE sc calm a e
        | none => false)
      | _ => false)
    | none => false
  | .xfld i f, e => match attOf e with
    | some (e, z) => decide (z = f) && T.xfl.contains f && (match nmOf e with
      | some x => decide (N[i]? = some x) && visB sc x && plainN x
      | none => false)
    | none => false
  | .xis i t, e => match callOf e with
    | some (x, fs) => (match fs with
      | [e, f] => (match nmOf e, nmOf f with
        | some z, some y => bltB T sc x (Str.ofString "isinstance") && decide (N[i]? = some z) && visB sc z && plainN z && xnB T sc t y
        | _, _ => false)
      | _ => false)
    | none => false
  | .oeq a b, e => match cmpOf e with
    | some (e, p, f) => calm && decide (p = CmpOp.Eq) && chkE sc calm a e && chkE sc calm b f
    | none => false
  | .olen a, e => match callOf e with
    | some (x, fs) => (match fs with
      | [e] => calm && bltB T sc x (Str.ofString "len") && chkE sc calm a e
      | _ => false)
    | none => false
  | .ostr a, e => match callOf e with
    | some (x, fs) => (match fs with
      | [e] => calm && bltB T sc x (Str.ofString "str") && chkE sc calm a e
      | _ => false)
    | none => false
  | .orep a, e => match callOf e with
    | some (x, fs) => (match fs with
      | [e] => calm && bltB T sc x (Str.ofString "repr") && chkE sc calm a e
      | _ => false)
    | none => false
  | .fmt a, e => match fmtOf e with
    | some e => chkE sc calm a e
    | none => false
  | .ofmt a, e => match fmtOf e with
    | some e => calm && chkE sc calm a e
    | none => false
  | .fstr es, e => match jsOf e with
    | some fs => chkEs sc calm es fs && !fs.isEmpty
    | none => false
  | _, _ => false
def chkEs (sc : Scope) (calm : Bool) : MEs → List Expr → Bool
  | .nil, es => es.isEmpty
  | .cons a as, es => match es with
    | e :: es => chkE sc calm a e && chkEs sc calm as es
    | [] => false
end
def isNm : MT → Bool
  | .nm _ => true
  | .tp _ => false
mutual
def chkS (sc : Scope) (calm : Bool) : MS → Stmt → Bool
  | .expr a, st => match exprSt st with
    | some e => (compOf e).isNone && chkE T N sc calm a e
    | none => false
  | .asg t a, st => match asgSt st with
    | some (te, e) => noSwap te e && kindF sc && (calm || isNm t) && chkT N sc calm false t te && chkE T N sc calm a e
    | none => false
  | .par is es, st => match asgSt st with
    | some (te, e) => (match tupOf te, tupOf e with
      | some ts, some vs => calm && parB N sc is ts vs && chkEs T N sc calm es vs
      | _, _ => false)
    | none => false
  | .augSub o i op a, st => match augSt st with
    | some (te, p, e) => (match subOf te with
      | some (oe, ie) => decide (op.op = p) && chkE T N sc calm o oe && chkE T N sc calm i ie && chkE T N sc calm a e
      | none => false)
    | none => false
  | .setSub o i a, st => match asgSt st with
    | some (te, e) => (match subOf te with
      | some (oe, ie) => chkE T N sc calm a e && chkE T N sc calm o oe && chkE T N sc calm i ie
      | none => false)
    | none => false
  | .aug i o a, st => match augSt st with
    | some (te, p, e) => (match nmOf te with
      | some x => decide (o.op = p) && stB N sc calm false i x && chkE T N sc calm a e
      | none => false)
    | none => false
  | .iff d a b, st => match iffSt st with
    | some (e, ss, ts) => chkE T N sc calm d e && chkSs sc calm a ss && chkSs sc calm b ts
    | none => false
  | .whl d b, st => match whlSt st with
    | some (e, ss) => chkE T N sc calm d e && chkSs sc calm b ss
    | none => false
  | .forr t k src b, st => match forSt st with
    | some (te, ie, ss) => calm && chkT N sc calm false t te && chkI T sc k (fun fs => chkEs T N sc calm src fs) te ie && chkSs sc calm b ss
    | none => false
  | .ret a, st => match retSt st with
    | some (some e) => chkE T N sc calm a e
    | _ => false
  | .retN, st => match retSt st with
    | some none => true
    | _ => false
  | .pass, st => match st with
    | .Pass _ => true
    | _ => false
  | .brk, st => match st with
    | .Break _ => true
    | _ => false
  | .cnt, st => match st with
    | .Continue _ => true
    | _ => false
  | .setFld o f a, st => match asgSt st with
    | some (te, e) => (match attOf te with
      | some (oe, z) => decide (z = f) && chkE T N sc calm a e && chkE T N sc calm o oe
      | none => false)
    | none => false
  | .augFld _ _ _ _, _ => false
  | .raise C es, st => match raiseSt st with
    | some (x, fs) => calm && excB T C x && glB sc x && plainN x && chkEs T N sc calm es fs
    | none => false
  | .tryAs b hs, st => match trySt st with
    | some (ss, hds) => calm && kindF sc && chkSs sc calm b ss && chkHs sc hs hds && !hds.isEmpty
    | none => false
def chkSs (sc : Scope) (calm : Bool) : MSs → List Stmt → Bool
  | .nil, ss => ss.isEmpty
  | .cons x xs, ss => match ss with
    | st :: ss => chkS sc calm x st && chkSs sc calm xs ss
    | [] => false
/-- except clauses -/
def chkHs (sc : Scope) : MHs → List ExceptHandler → Bool
  | .nil, hs => hs.isEmpty
  | .cons t i b r, hs => match hs with
    | h :: hs => (match hdOf h with
      | some (x, n, ss) => xnB T sc t x && !ss.isEmpty && (match i, n with
        | some i, some y => decide (N[i]? = some y) && locB sc y && excN y
        | none, none => true
        | _, _ => false) && chkSs sc false b ss && chkHs sc r hs
      | none => false)
    | [] => false
end
end

/-- structural recursion all: these reduce -/
theorem chk_red : chkE ⟨[], [], [], []⟩ [("x" : Str)] ⟨.function, [("x", .local)], false, false, []⟩ true (.var 0) (.Name "x" ⟨0, 0, 0, 0⟩) = true := by decide +kernel
end MP

set_option maxRecDepth 100000
set_option autoImplicit false
/-! MP2: how the small language's values and heap lie in the hand layer's. -/
namespace MP
open PySem PySem.Spec PyProof.Rows L2

/-- a list of the written part -/
def KL (K : PySem.W.Frag) (a : Addr) (xs : List V) : Prop :=
  ∃ (o : Obj) (its : Array Value) (n : Nat), K.lookup a = some o ∧ o.cls = .type "list" ∧ o.dict = none ∧ o.data = .seq its n ∧ its.size ≤ sizeLine ∧ Vals xs its.toList
section
variable (K : PySem.W.Frag) (G : Nat → Option V)
mutual
inductive AVr (ρ : List Addr) (H : Hp) : AV → V → Prop
  | non : AVr ρ H .non .non
  | bl (b : Bool) : AVr ρ H (.bl b) (.bl b)
  | int (i : Int) : AVr ρ H (.int i) (.int i)
  | str (x : Str) : AVr ρ H (.str x) (.str x)
  | ref {n : Nat} {a : Addr} : ρ[n]? = some a → AVr ρ H (.ref n) (.ref a)
  | fn {g : Nat} {v : V} : G g = some v → AVr ρ H (.fn g) v
  | tup {a : Addr} {Vs : List V} {vs : List AV} : SqT K H a Vs → AVrs ρ H vs Vs → AVr ρ H (.tup vs) (.ref a)
inductive AVrs (ρ : List Addr) (H : Hp) : List AV → List V → Prop
  | nil : AVrs ρ H [] []
  | cons {v : AV} {y : V} {vs : List AV} {Vs : List V} : AVr ρ H v y → AVrs ρ H vs Vs → AVrs ρ H (v :: vs) (y :: Vs)
end
structure Hext (ρ : List Addr) (H : Hp) (ρ' : List Addr) (H' : Hp) : Prop where
  pre : ∀ (n : Nat) (a : Addr), ρ[n]? = some a → ρ'[n]? = some a
  tup : ∀ a xs, SqT K H a xs → SqT K H' a xs
/-- fields -/
inductive FldR (ρ : List Addr) (H : Hp) : List (Str × AV) → List (Str × V) → Prop
  | nil : FldR ρ H [] []
  | cons {f : Str} {v : AV} {y : V} {fs : List (Str × AV)} {Fs : List (Str × V)} : AVr K G ρ H v y → FldR ρ H fs Fs → FldR ρ H ((f, v) :: fs) ((f, y) :: Fs)
inductive KvR {κ : Type} (ρ : List Addr) (H : Hp) : List (κ × AV) → List (κ × V) → Prop
  | nil : KvR ρ H [] []
  | cons {f : κ} {v : AV} {y : V} {fs : List (κ × AV)} {Fs : List (κ × V)} : AVr K G ρ H v y → KvR ρ H fs Fs → KvR ρ H ((f, v) :: fs) ((f, y) :: Fs)
def AOr (ρ : List Addr) (H : Hp) (a : Addr) : AO → Prop
  | .lst vs => ∃ Vs, H a = some (.lst Vs) ∧ AVrs K G ρ H vs Vs
  | .ro vs => ∃ Vs, AVrs K G ρ H vs Vs ∧ ((∃ o, H a = some (.frz o (.lst Vs))) ∨ KL K a Vs)
  | .ins C fs => ∃ Ca dx Fs, G C = some (.ref Ca) ∧ H a = some (.ins Ca dx Fs) ∧ FldR K G ρ H fs Fs
  | .dk kvs => ∃ ks, H a = some (.dK ks) ∧ KvR K G ρ H kvs ks
  | .dt kvs => ∃ ks, H a = some (.dT ks) ∧ KvR K G ρ H kvs ks
  | .xd fs => ∃ Fs, H a = some (.xd Fs) ∧ FldR K G ρ H fs Fs
def AO.mut : AO → Bool
  | .ro _ => false
  | .xd _ => false
  | _ => true
structure HRel (ρ : List Addr) (H : Hp) (A : AH) : Prop where
  len : ρ.length = A.length
  obj : ∀ (n : Nat) (o : AO) (a : Addr), A[n]? = some o → ρ[n]? = some a → AOr K G ρ H a o
  dist : ∀ (n m : Nat) (o o' : AO) (a : Addr), A[n]? = some o → A[m]? = some o' → o.mut = true → o'.mut = true → ρ[n]? = some a → ρ[m]? = some a → n = m
end
/-- the handled exception: its name's slot, its address, its dict's number and address -/
structure Xs where
  i : Nat
  a : Addr
  n : Nat
  dd : Addr
/-- what numbers stand for; the handled exception -/
structure Gx where
  fn : Nat → Option V
  x : Option Xs := none
instance : Coe Gx (Nat → Option V) := ⟨Gx.fn⟩
structure SRel (K : PySem.W.Frag) (G : Gx) (ρ : List Addr) (H : Hp) (s : AS) (σ : L2.St) : Prop where
  len : s.length = σ.length
  at_ : ∀ (i : Nat) v, s[i]? = some (some v) → ∃ V, σ[i]? = some (some V) ∧ AVr K G ρ H v V
  ex : ∀ x, G.x = some x → σ[x.i]? = some (some (.ref x.a)) ∧ ρ[x.n]? = some x.dd
section
variable {K : PySem.W.Frag} {G : Nat → Option V} {ρ ρ' ρ'' : List Addr} {H H' H'' : Hp} {A A' : AH}
theorem Hext.refl : Hext K ρ H ρ H := ⟨fun _ _ h => h, fun _ _ h => h⟩
theorem Hext.trans (a : Hext K ρ H ρ' H') (b : Hext K ρ' H' ρ'' H'') : Hext K ρ H ρ'' H'' := ⟨fun n x h => b.pre n x (a.pre n x h), fun x xs h => b.tup x xs (a.tup x xs h)⟩
mutual
theorem AVr.mono (e : Hext K ρ H ρ' H') : ∀ {v : AV} {y : V}, AVr K G ρ H v y → AVr K G ρ' H' v y
  | _, _, .non => .non
  | _, _, .bl b => .bl b
  | _, _, .int i => .int i
  | _, _, .str x => .str x
  | _, _, .ref h => .ref (e.pre _ _ h)
  | _, _, .fn h => .fn h
  | _, _, .tup h hs => .tup (e.tup _ _ h) (AVrs.mono e hs)
theorem AVrs.mono (e : Hext K ρ H ρ' H') : ∀ {vs : List AV} {Vs : List V}, AVrs K G ρ H vs Vs → AVrs K G ρ' H' vs Vs
  | _, _, .nil => .nil
  | _, _, .cons h hs => .cons (AVr.mono e h) (AVrs.mono e hs)
end
theorem FldR.mono (e : Hext K ρ H ρ' H') : ∀ {fs : List (Str × AV)} {Fs : List (Str × V)}, FldR K G ρ H fs Fs → FldR K G ρ' H' fs Fs
  | _, _, .nil => .nil
  | _, _, .cons h hs => .cons (h.mono e) (FldR.mono e hs)
theorem KvR.mono {κ : Type} (e : Hext K ρ H ρ' H') : ∀ {fs : List (κ × AV)} {Fs : List (κ × V)}, KvR K G ρ H fs Fs → KvR K G ρ' H' fs Fs
  | _, _, .nil => .nil
  | _, _, .cons h hs => .cons (h.mono e) (KvR.mono e hs)
theorem AVrs.length : ∀ {vs : List AV} {Vs : List V}, AVrs K G ρ H vs Vs → vs.length = Vs.length
  | _, _, .nil => rfl
  | _, _, .cons _ hs => congrArg Nat.succ (AVrs.length hs)
theorem AVrs.get : ∀ {vs : List AV} {Vs : List V} {i : Nat} {v : AV}, AVrs K G ρ H vs Vs → vs[i]? = some v → ∃ y, Vs[i]? = some y ∧ AVr K G ρ H v y
  | _, _, _, _, .nil, e => by simp at e
  | _, _, 0, _, .cons h _, e => by simp at e; subst e; exact ⟨_, rfl, h⟩
  | _, _, i + 1, v, .cons _ hs, e => by
    obtain ⟨y, h1, h2⟩ := AVrs.get (i := i) (v := v) hs (by simpa using e)
    exact ⟨y, by simpa using h1, h2⟩
theorem AVrs.getR : ∀ {vs : List AV} {Vs : List V} {i : Nat} {y : V}, AVrs K G ρ H vs Vs → Vs[i]? = some y → ∃ v, vs[i]? = some v ∧ AVr K G ρ H v y
  | _, _, _, _, .nil, e => by simp at e
  | _, _, 0, _, .cons h _, e => by simp at e; subst e; exact ⟨_, rfl, h⟩
  | _, _, i + 1, v, .cons _ hs, e => by
    obtain ⟨y, h1, h2⟩ := AVrs.getR (i := i) (y := v) hs (by simpa using e)
    exact ⟨y, by simpa using h1, h2⟩
theorem AVrs.append : ∀ {vs ws : List AV} {Vs Ws : List V}, AVrs K G ρ H vs Vs → AVrs K G ρ H ws Ws → AVrs K G ρ H (vs ++ ws) (Vs ++ Ws)
  | _, _, _, _, .nil, h => h
  | _, _, _, _, .cons h hs, k => .cons h (AVrs.append hs k)
theorem AVrs.take : ∀ {vs : List AV} {Vs : List V} (n : Nat), AVrs K G ρ H vs Vs → AVrs K G ρ H (vs.take n) (Vs.take n)
  | _, _, 0, _ => .nil
  | _, _, _ + 1, .nil => .nil
  | _, _, n + 1, .cons h hs => .cons h (AVrs.take n hs)
theorem AVrs.drop : ∀ {vs : List AV} {Vs : List V} (n : Nat), AVrs K G ρ H vs Vs → AVrs K G ρ H (vs.drop n) (Vs.drop n)
  | _, _, 0, h => h
  | _, _, _ + 1, .nil => .nil
  | _, _, n + 1, .cons _ hs => AVrs.drop n hs
theorem AVrs.set {v : AV} {y : V} (h : AVr K G ρ H v y) : ∀ {vs : List AV} {Vs : List V} (n : Nat), AVrs K G ρ H vs Vs → AVrs K G ρ H (vs.set n v) (Vs.set n y)
  | _, _, _, .nil => .nil
  | _, _, 0, .cons _ hs => .cons h hs
  | _, _, n + 1, .cons k hs => .cons k (AVrs.set h n hs)
theorem AVrs.erase : ∀ {vs : List AV} {Vs : List V} (n : Nat), AVrs K G ρ H vs Vs → AVrs K G ρ H (vs.eraseIdx n) (Vs.eraseIdx n)
  | _, _, _, .nil => .nil
  | _, _, 0, .cons _ hs => hs
  | _, _, n + 1, .cons k hs => .cons k (AVrs.erase n hs)
theorem AVrs.reverse : ∀ {vs : List AV} {Vs : List V}, AVrs K G ρ H vs Vs → AVrs K G ρ H vs.reverse Vs.reverse
  | _, _, .nil => .nil
  | _, _, .cons h hs => by
    rw [List.reverse_cons, List.reverse_cons]
    exact (AVrs.reverse hs).append (.cons h .nil)
theorem AVrs.dropLast {vs : List AV} {Vs : List V} (h : AVrs K G ρ H vs Vs) : AVrs K G ρ H vs.dropLast Vs.dropLast := by
  rw [List.dropLast_eq_take, List.dropLast_eq_take, h.length]
  exact h.take _
theorem AVrs.rep {vs : List AV} {Vs : List V} (h : AVrs K G ρ H vs Vs) : ∀ k : Nat, AVrs K G ρ H (List.replicate k vs).flatten (List.replicate k Vs).flatten
  | 0 => .nil
  | k + 1 => by
    rw [List.replicate_succ, List.replicate_succ, List.flatten_cons, List.flatten_cons]
    exact h.append (AVrs.rep h k)
theorem KL.seq {a : Addr} {xs : List V} (h : KL K a xs) : SqL K H a xs := .inr h
/-- what is read of a list -/
theorem HRel.seq (h : HRel K G ρ H A) {n : Nat} {a : Addr} {vs : List AV} (e : A[n]?.bind AO.items? = some vs) (r : ρ[n]? = some a) : ∃ Vs, SqL K H a Vs ∧ AVrs K G ρ H vs Vs := by
  cases q : A[n]? with
  | none => rw [q] at e; cases e
  | some o =>
    rw [q] at e
    have k := h.obj n o a q r
    cases o with
    | lst ws =>
      obtain rfl : ws = vs := Option.some.inj e
      obtain ⟨Vs, k1, k2⟩ := k
      exact ⟨Vs, .inl (.inl k1), k2⟩
    | ro ws =>
      obtain rfl : ws = vs := Option.some.inj e
      obtain ⟨Vs, k2, k1⟩ := k
      rcases k1 with ⟨o, k1⟩ | k1
      · exact ⟨Vs, .inl (.inr ⟨o, k1⟩), k2⟩
      · exact ⟨Vs, k1.seq, k2⟩
    | _ => cases e
theorem HRel.lst (h : HRel K G ρ H A) {n : Nat} {a : Addr} {vs : List AV} (e : lstAt A n = some vs) (r : ρ[n]? = some a) : ∃ Vs, H a = some (.lst Vs) ∧ AVrs K G ρ H vs Vs := by
  unfold lstAt at e
  cases q : A[n]? with
  | none => rw [q] at e; cases e
  | some o =>
    rw [q] at e
    have k := h.obj n o a q r
    cases o with
    | lst ws =>
      obtain rfl : ws = vs := Option.some.inj e
      exact k
    | _ => cases e
theorem lstAt_iff {n : Nat} {vs : List AV} : lstAt A n = some vs ↔ A[n]? = some (.lst vs) := by
  unfold lstAt
  cases q : A[n]? with
  | none => simp
  | some o => cases o <;> simp
theorem sqT_new {p : Addr} {o : HO} (hp : H p = none) {a : Addr} {xs : List V} (h : SqT K H a xs) : SqT K (upd H p o) a xs := by
  rcases h with (h | ⟨u, h⟩) | h
  · exact .inl (.inl (by rw [upd_ne (ne_of_none h hp)]; exact h))
  · exact .inl (.inr ⟨u, by rw [upd_ne (ne_of_none h hp)]; exact h⟩)
  · exact .inr h
theorem sqT_mut {p : Addr} {o : HO} (hp : Mut (H p)) {a : Addr} {xs : List V} (h : SqT K H a xs) : SqT K (upd H p o) a xs := by
  rcases h with (h | ⟨u, h⟩) | h
  · exact .inl (.inl (by rw [upd_ne (fun z => by rw [← z, h] at hp; exact hp)]; exact h))
  · exact .inl (.inr ⟨u, by rw [upd_ne (fun z => by rw [← z, h] at hp; exact hp)]; exact h⟩)
  · exact .inr h
theorem Hext.new {p : Addr} {o : HO} (hp : H p = none) : Hext K ρ H (ρ ++ [p]) (upd H p o) :=
  ⟨fun n a h => by rw [List.getElem?_append_left (List.getElem?_eq_some_iff.mp h).1]; exact h, fun _ _ h => sqT_new hp h⟩
theorem Hext.new0 {p : Addr} {o : HO} (hp : H p = none) : Hext K ρ H ρ (upd H p o) := ⟨fun _ _ h => h, fun _ _ h => sqT_new hp h⟩
theorem Hext.mut {p : Addr} {o : HO} (hp : Mut (H p)) : Hext K ρ H ρ (upd H p o) := ⟨fun _ _ h => h, fun _ _ h => sqT_mut hp h⟩
/-- an object stays where another address is stored to -/
theorem AOr.stay (e : Hext K ρ H ρ' H') {a : Addr} {o : AO} (h : AOr K G ρ H a o) (k : (o.mut = true ∨ (∃ f xs, H a = some (.frz f (.lst xs))) ∨ ∃ fs, H a = some (.xd fs)) → ∀ u, H a = some u → H' a = some u) : AOr K G ρ' H' a o := by
  cases o with
  | lst vs => obtain ⟨Vs, h1, h2⟩ := h; exact ⟨Vs, k (.inl rfl) _ h1, h2.mono e⟩
  | ro vs =>
    obtain ⟨Vs, h1, h2⟩ := h
    refine ⟨Vs, h1.mono e, ?_⟩
    rcases h2 with ⟨u, h2⟩ | h2
    · exact .inl ⟨u, k (.inr (.inl ⟨u, _, h2⟩)) _ h2⟩
    · exact .inr h2
  | ins C fs => obtain ⟨Ca, dx, Fs, h1, h2, h3⟩ := h; exact ⟨Ca, dx, Fs, h1, k (.inl rfl) _ h2, h3.mono e⟩
  | dk kvs => obtain ⟨ks, h1, h2⟩ := h; exact ⟨ks, k (.inl rfl) _ h1, h2.mono e⟩
  | dt kvs => obtain ⟨ks, h1, h2⟩ := h; exact ⟨ks, k (.inl rfl) _ h1, h2.mono e⟩
  | xd fs => obtain ⟨Fs, h1, h2⟩ := h; exact ⟨Fs, k (.inr (.inr ⟨Fs, h1⟩)) _ h1, h2.mono e⟩
theorem AOr.isMut {a : Addr} {o : AO} (h : AOr K G ρ H a o) (m : o.mut = true) : Mut (H a) := by
  cases o with
  | lst vs => obtain ⟨Vs, h1, h2⟩ := h; rw [h1]; exact True.intro
  | ro vs => cases m
  | ins C fs => obtain ⟨Ca, dx, Fs, h1, h2, h3⟩ := h; rw [h2]; exact True.intro
  | dk kvs => obtain ⟨ks, h1, h2⟩ := h; rw [h1]; exact True.intro
  | dt kvs => obtain ⟨ks, h1, h2⟩ := h; rw [h1]; exact True.intro
  | xd fs => cases m
theorem HRel.same (h : HRel K G ρ H A) {p : Addr} {o : HO} (hp : H p = none) : HRel K G ρ (upd H p o) A :=
  ⟨h.len, fun n u a e r => (h.obj n u a e r).stay (Hext.new0 hp) fun _ x q => by rw [upd_ne (ne_of_none q hp)]; exact q, h.dist⟩
theorem HRel.new (h : HRel K G ρ H A) {p : Addr} {o : HO} {ao : AO} (hp : H p = none) (ho : AOr K G (ρ ++ [p]) (upd H p o) p ao) : HRel K G (ρ ++ [p]) (upd H p o) (A ++ [ao]) := by
  have old : ∀ {n : Nat} {u : AO}, (A ++ [ao])[n]? = some u → (A[n]? = some u) ∨ (n = A.length ∧ u = ao) := fun {n u} e => by
    by_cases hn : n < A.length
    · rw [List.getElem?_append_left hn] at e; exact .inl e
    · rw [List.getElem?_append_right (by omega)] at e
      obtain ⟨h1, h2⟩ := List.getElem?_eq_some_iff.mp e
      have h3 : n = A.length := by simp at h1; omega
      subst h3
      simp at h2
      exact .inr ⟨rfl, h2.symm⟩
  have oldR : ∀ {n : Nat} {a : Addr}, n < A.length → (ρ ++ [p])[n]? = some a → ρ[n]? = some a := fun {n a} hn e => by
    rw [List.getElem?_append_left (by rw [h.len]; exact hn)] at e; exact e
  have newR : (ρ ++ [p])[A.length]? = some p := by rw [← h.len]; simp
  have ltA : ∀ {n : Nat} {u : AO}, A[n]? = some u → n < A.length := fun {n u} e => (List.getElem?_eq_some_iff.mp e).1
  have ne : ∀ {n : Nat} {u : AO} {a : Addr}, A[n]? = some u → u.mut = true → ρ[n]? = some a → a ≠ p := fun {n u a} e m r z => by
    have k := (h.obj n u a e r).isMut m
    rw [z, hp] at k
    exact k
  refine ⟨by simp [h.len], fun n u a e r => ?_, fun n m u u' a e e' mu mu' r r' => ?_⟩
  · rcases old e with e | ⟨rfl, rfl⟩
    · exact (h.obj n u a e (oldR (ltA e) r)).stay (Hext.new hp) fun _ x q => by rw [upd_ne (ne_of_none q hp)]; exact q
    · rw [newR] at r; cases r; exact ho
  · rcases old e with e1 | ⟨e1, e2⟩
    · rcases old e' with e3 | ⟨e3, e4⟩
      · exact h.dist n m u u' a e1 e3 mu mu' (oldR (ltA e1) r) (oldR (ltA e3) r')
      · rw [e3, newR] at r'; cases r'
        exact absurd rfl (ne e1 mu (oldR (ltA e1) r))
    · rcases old e' with e3 | ⟨e3, e4⟩
      · rw [e1, newR] at r; cases r
        exact absurd rfl (ne e3 mu' (oldR (ltA e3) r'))
      · exact e1.trans e3.symm
/-- an object is stored to -/
theorem HRel.set (h : HRel K G ρ H A) {n : Nat} {a : Addr} {o o' : AO} {u : HO} (e : A[n]? = some o) (m : o.mut = true) (m' : o'.mut = true) (r : ρ[n]? = some a) (ho : AOr K G ρ (upd H a u) a o') : HRel K G ρ (upd H a u) (A.set n o') := by
  have mu := (h.obj n o a e r).isMut m
  have hlt := (List.getElem?_eq_some_iff.mp e).1
  refine ⟨by rw [h.len, List.length_set], fun j v b e' r' => ?_, fun i j v v' b e1 e2 m1 m2 r1 r2 => ?_⟩
  · by_cases hj : n = j
    · subst hj
      rw [List.getElem?_set_self hlt] at e'
      cases e'
      rw [r] at r'; cases r'
      exact ho
    · rw [List.getElem?_set_ne hj] at e'
      have k := h.obj j v b e' r'
      refine k.stay (Hext.mut mu) fun c x q => ?_
      rw [upd_ne]
      · exact q
      · intro z
        rcases c with hv | ⟨f, xs, c⟩ | ⟨fs, c⟩
        · exact hj (h.dist n j o v a e e' m hv r (by rw [r', z]))
        · rw [z] at c; rw [c] at mu; exact mu
        · rw [z] at c; rw [c] at mu; exact mu
  · have back : ∀ {i : Nat} {v : AO}, (A.set n o')[i]? = some v → ∃ w, A[i]? = some w ∧ (v.mut = true → w.mut = true) := fun {i v} e1 => by
      by_cases hi : n = i
      · subst hi
        exact ⟨o, e, fun _ => m⟩
      · rw [List.getElem?_set_ne hi] at e1
        exact ⟨v, e1, id⟩
    obtain ⟨w1, k1, q1⟩ := back e1
    obtain ⟨w2, k2, q2⟩ := back e2
    exact h.dist i j w1 w2 b k1 k2 (q1 m1) (q2 m2) r1 r2
/-- fields -/
theorem FldR.lookup {f : Str} {v : AV} : ∀ {fs : List (Str × AV)} {Fs : List (Str × V)}, FldR K G ρ H fs Fs → fs.lookup f = some v → ∃ y, Fs.lookup f = some y ∧ AVr K G ρ H v y
  | _, _, .nil, h => by cases h
  | _, _, .cons (f := g) (v := w) (fs := fs) r rs, h => by
    rw [List.lookup_cons] at h ⊢
    split at h
    · cases (Option.some.inj h); exact ⟨_, rfl, r⟩
    · exact FldR.lookup rs h
theorem FldR.none {f : Str} : ∀ {fs : List (Str × AV)} {Fs : List (Str × V)}, FldR K G ρ H fs Fs → fs.lookup f = none → Fs.lookup f = none
  | _, _, .nil, _ => rfl
  | _, _, .cons (f := g) (v := w) (fs := fs) r rs, h => by
    rw [List.lookup_cons] at h ⊢
    split at h
    · cases h
    · exact FldR.none rs h
theorem FldR.length : ∀ {fs : List (Str × AV)} {Fs : List (Str × V)}, FldR K G ρ H fs Fs → fs.length = Fs.length
  | _, _, .nil => rfl
  | _, _, .cons _ hs => congrArg Nat.succ (FldR.length hs)
theorem FldR.put {f : Str} {v : AV} {y : V} (r : AVr K G ρ H v y) : ∀ {fs : List (Str × AV)} {Fs : List (Str × V)}, FldR K G ρ H fs Fs → FldR K G ρ H (MP.putF f v fs) (L2.putF f y Fs)
  | _, _, .nil => .cons r .nil
  | _, _, .cons (f := g) (v := w) (y := z) (fs := fs) (Fs := Fs) k ks => by
    show FldR K G ρ H (if g = f then (f, v) :: fs else (g, w) :: MP.putF f v fs) (if g = f then (g, y) :: Fs else (g, z) :: L2.putF f y Fs)
    by_cases h : g = f
    · subst h
      rw [if_pos rfl, if_pos rfl]
      exact .cons r ks
    · rw [if_neg h, if_neg h]
      exact .cons k (FldR.put r ks)
/-- an exception's dict comes to be known -/
theorem HRel.addX (h : HRel K G ρ H A) {p : Addr} {fs : List (Str × AV)} {Fs : List (Str × V)} (hp : H p = some (.xd Fs)) (hf : FldR K G ρ H fs Fs) : HRel K G (ρ ++ [p]) H (A ++ [.xd fs]) ∧ Hext K ρ H (ρ ++ [p]) H := by
  have ext : Hext K ρ H (ρ ++ [p]) H := ⟨fun n a h => by rw [List.getElem?_append_left (List.getElem?_eq_some_iff.mp h).1]; exact h, fun _ _ h => h⟩
  have old : ∀ {n : Nat} {u : AO}, (A ++ [.xd fs])[n]? = some u → (A[n]? = some u) ∨ (n = A.length ∧ u = .xd fs) := fun {n u} e => by
    by_cases hn : n < A.length
    · rw [List.getElem?_append_left hn] at e; exact .inl e
    · rw [List.getElem?_append_right (by omega)] at e
      obtain ⟨h1, h2⟩ := List.getElem?_eq_some_iff.mp e
      have h3 : n = A.length := by simp at h1; omega
      subst h3
      simp at h2
      exact .inr ⟨rfl, h2.symm⟩
  have oldR : ∀ {n : Nat} {a : Addr}, n < A.length → (ρ ++ [p])[n]? = some a → ρ[n]? = some a := fun {n a} hn e => by
    rw [List.getElem?_append_left (by rw [h.len]; exact hn)] at e; exact e
  have newR : (ρ ++ [p])[A.length]? = some p := by rw [← h.len]; simp
  have ltA : ∀ {n : Nat} {u : AO}, A[n]? = some u → n < A.length := fun {n u} e => (List.getElem?_eq_some_iff.mp e).1
  refine ⟨⟨by simp [h.len], fun n u a e r => ?_, fun n m u u' a e e' mu mu' r r' => ?_⟩, ext⟩
  · rcases old e with e | ⟨rfl, rfl⟩
    · exact (h.obj n u a e (oldR (ltA e) r)).stay ext fun _ x q => q
    · rw [newR] at r; cases r; exact ⟨Fs, hp, hf.mono ext⟩
  · rcases old e with e1 | ⟨e1, e2⟩
    · rcases old e' with e3 | ⟨e3, e4⟩
      · exact h.dist n m u u' a e1 e3 mu mu' (oldR (ltA e1) r) (oldR (ltA e3) r')
      · subst e4; cases mu'
    · subst e2; cases mu
end
end MP

set_option maxRecDepth 100000
set_option autoImplicit false
set_option maxHeartbeats 1000000
/-! MP3: what an evaluation's outcome asks; the operators. -/
namespace MP
open PySem PySem.Spec PyProof.Rows L2

section
variable (K : PySem.W.Frag) (G : Nat → Option V)
/-- an exception's class and own dict -/
def ExR (ρ : List Addr) (H : Hp) (C : Nat) (fs : List (Str × AV)) (cls : Value) (d : Option Addr) : Prop :=
  ∃ a b, G C = some (.ref a) ∧ cls = Value.ref a ∧ d = some b ∧ ∃ Fs, H b = some (.xd Fs) ∧ FldR K G ρ H fs Fs
def OutG {α β : Type} (rel : List Addr → Hp → α → β → Prop) (ρ : List Addr) (H : Hp) (E : XK) (Q : β → Hp → Prop) : R α → Prop
  | .ok a A' => ∀ y H' ρ', Hext K ρ H ρ' H' → HRel K G ρ' H' A' → rel ρ' H' a y → Q y H'
  | .exc C fs A' => ∀ cls d H' ρ', Hext K ρ H ρ' H' → HRel K G ρ' H' A' → ExR K G ρ' H' C fs cls d → E cls d H'
  | .stuck => False
abbrev Out := OutG K G (AVr K G)
abbrev OutL := OutG K G (AVrs K G)
/-- a test -/
def OutB (ρ : List Addr) (H : Hp) (E : XK) (Q : Bool → Hp → Prop) : R AV → Prop
  | .ok v A' => ∃ b, truA A' v = some b ∧ ∀ H' ρ', Hext K ρ H ρ' H' → HRel K G ρ' H' A' → Q b H'
  | .exc C fs A' => ∀ cls d H' ρ', Hext K ρ H ρ' H' → HRel K G ρ' H' A' → ExR K G ρ' H' C fs cls d → E cls d H'
  | .stuck => False
end
section
variable (K : PySem.W.Frag) (G : Gx)
def OutF (ρ : List Addr) (H : Hp) (W : WX) (D : Ends) : F → Prop
  | .nx s A => ∀ σ H' ρ', Hext K ρ H ρ' H' → HRel K G ρ' H' A → SRel K G ρ' H' s σ → D.nx σ H'
  | .bk s A => ∀ σ H' ρ', Hext K ρ H ρ' H' → HRel K G ρ' H' A → SRel K G ρ' H' s σ → D.bk σ H'
  | .ct s A => ∀ σ H' ρ', Hext K ρ H ρ' H' → HRel K G ρ' H' A → SRel K G ρ' H' s σ → D.ct σ H'
  | .rt v s A => ∀ y H' ρ', Hext K ρ H ρ' H' → HRel K G ρ' H' A → AVr K G ρ' H' v y → D.rt y H'
  | .exc C fs s A => ∀ cls d σ H' ρ', Hext K ρ H ρ' H' → HRel K G ρ' H' A → SRel K G ρ' H' s σ → ExR K G ρ' H' C fs cls d → W cls d σ H'
  | .stuck => False
end
section
variable {K : PySem.W.Frag} {G : Nat → Option V} {ρ ρ' : List Addr} {H H' : Hp} {A A' : AH} {E : XK} {α β γ δ : Type} {rel : List Addr → Hp → α → β → Prop} {rel' : List Addr → Hp → γ → δ → Prop}
theorem OutG.mono {Q : β → Hp → Prop} {r : R α} (h : OutG K G rel ρ H E Q r) (e : Hext K ρ H ρ' H') : OutG K G rel ρ' H' E Q r := by
  cases r with
  | ok a A => exact fun y H2 ρ2 e2 => h y H2 ρ2 (e.trans e2)
  | exc C fs A => exact fun cls d H2 ρ2 e2 => h cls d H2 ρ2 (e.trans e2)
  | stuck => exact h
theorem OutG.at {Q : β → Hp → Prop} {a : α} {y : β} (h : OutG K G rel ρ H E Q (.ok a A)) (hr : HRel K G ρ H A) (r : rel ρ H a y) : Q y H := h y H ρ .refl hr r
theorem OutG.bind {Q : δ → Hp → Prop} {Q' : β → Hp → Prop} {r : R α} {f : α → AH → R γ} (h : OutG K G rel' ρ H E Q (r.bind f))
    (k : ∀ a A' y H' ρ', Hext K ρ H ρ' H' → HRel K G ρ' H' A' → rel ρ' H' a y → OutG K G rel' ρ' H' E Q (f a A') → Q' y H') : OutG K G rel ρ H E Q' r := by
  cases r with
  | ok a A => exact fun y H2 ρ2 e2 hr rv => k a A y H2 ρ2 e2 hr rv (OutG.mono (r := f a A) h e2)
  | exc C fs A => exact h
  | stuck => exact h
theorem OutB.mono {Q : Bool → Hp → Prop} {r : R AV} (h : OutB K G ρ H E Q r) (e : Hext K ρ H ρ' H') : OutB K G ρ' H' E Q r := by
  cases r with
  | ok a A =>
    obtain ⟨b, hb, h⟩ := h
    exact ⟨b, hb, fun H2 ρ2 e2 => h H2 ρ2 (e.trans e2)⟩
  | exc C fs A => exact fun cls d H2 ρ2 e2 => h cls d H2 ρ2 (e.trans e2)
  | stuck => exact h
/-- from a test's wish to its value's -/
theorem OutB.val {Q : Bool → Hp → Prop} {Q' : V → Hp → Prop} {r : R AV} (h : OutB K G ρ H E Q r)
    (k : ∀ v A' y H' ρ' b, Hext K ρ H ρ' H' → HRel K G ρ' H' A' → AVr K G ρ' H' v y → truA A' v = some b → Q b H' → Q' y H') : Out K G ρ H E Q' r := by
  cases r with
  | ok a A =>
    obtain ⟨b, hb, h⟩ := h
    exact fun y H2 ρ2 e2 hr rv => k a A y H2 ρ2 b e2 hr rv hb (h H2 ρ2 e2 hr)
  | exc C fs A => exact h
  | stuck => exact h
theorem OutF.mono {G : Gx} {W : WX} {D : Ends} {r : F} (h : OutF K G ρ H W D r) (e : Hext K ρ H ρ' H') : OutF K G ρ' H' W D r := by
  cases r with
  | nx s A => exact fun σ H2 ρ2 e2 => h σ H2 ρ2 (e.trans e2)
  | bk s A => exact fun σ H2 ρ2 e2 => h σ H2 ρ2 (e.trans e2)
  | ct s A => exact fun σ H2 ρ2 e2 => h σ H2 ρ2 (e.trans e2)
  | rt v s A => exact fun y H2 ρ2 e2 => h y H2 ρ2 (e.trans e2)
  | exc C fs s A => exact fun cls d σ H2 ρ2 e2 => h cls d σ H2 ρ2 (e.trans e2)
  | stuck => exact h
theorem SRel.mono {G : Gx} {s : AS} {σ : L2.St} (h : SRel K G ρ H s σ) (e : Hext K ρ H ρ' H') : SRel K G ρ' H' s σ :=
  ⟨h.len, fun i v q => let ⟨y, h1, h2⟩ := h.at_ i v q; ⟨y, h1, h2.mono e⟩, fun x hx => ⟨(h.ex x hx).1, e.pre _ _ (h.ex x hx).2⟩⟩
/-- an expression ahead of what follows -/
theorem OutF.fl {G : Gx} {W : WX} {D : Ends} {s : AS} {σ : L2.St} {Q' : β → Hp → Prop} {r : R α} {f : α → AH → F} (h : OutF K G ρ H W D (r.fl s f)) (hs : SRel K G ρ H s σ)
    (k : ∀ a A' y H' ρ', Hext K ρ H ρ' H' → HRel K G ρ' H' A' → rel ρ' H' a y → OutF K G ρ' H' W D (f a A') → Q' y H') : OutG K G rel ρ H (fun cls d H' => W cls d σ H') Q' r := by
  cases r with
  | ok a A => exact fun y H2 ρ2 e2 hr rv => k a A y H2 ρ2 e2 hr rv (OutF.mono (r := f a A) h e2)
  | exc C fs A => exact fun cls d H2 ρ2 e2 hr x => h cls d σ H2 ρ2 e2 hr (hs.mono e2) x
  | stuck => exact h

/-! ### values -/
theorem AVr.isNon {v : AV} {y : V} (h : AVr K G ρ H v y) (hG : ∀ g z, G g = some z → z ≠ .non) : decide (y = V.non) = v.isNon := by
  cases h with
  | non => rfl
  | fn h => exact decide_eq_false (hG _ _ h)
  | _ => rfl
theorem seqD (hr : HRel K G ρ H A) {v : AV} {vs : List AV} {y : V} (h : AVr K G ρ H v y) (e : itemsOf A v = some vs) : ∃ a Vs, y = .ref a ∧ (SqL K H a Vs ∨ SqT K H a Vs) ∧ AVrs K G ρ H vs Vs := by
  cases h with
  | ref h =>
    obtain ⟨Vs, h1, h2⟩ := hr.seq e h
    exact ⟨_, Vs, rfl, .inl h1, h2⟩
  | tup h1 h2 =>
    cases (Option.some.inj e)
    exact ⟨_, _, rfl, .inr h1, h2⟩
  | _ => cases e
theorem mapO_ok {f : AV → Option PyData} (hf : ∀ {v : AV} {y : V} {d : PyData}, AVr K G ρ H v y → f v = some d → Dp K H y d) : ∀ {vs : List AV} {ys : List V} {ds : List PyData}, AVrs K G ρ H vs ys → mapO f vs = some ds → DpAll K H ys ds
  | _, _, _, .nil, e => by cases (Option.some.inj e); exact .nil
  | _, _, _, .cons (v := v) (vs := vs) h hs, e => by
    rw [mapO_cons] at e
    cases q1 : f v with
    | none => rw [q1] at e; cases e
    | some d =>
      cases q2 : mapO f vs with
      | none => rw [q1, q2] at e; cases e
      | some ds =>
        rw [q1, q2] at e
        cases (Option.some.inj e)
        exact .cons (hf h q1) (mapO_ok hf hs q2)
theorem toD_ok (hr : HRel K G ρ H A) : ∀ (n : Nat) {v : AV} {y : V} {d : PyData}, AVr K G ρ H v y → toD A n v = some d → Dp K H y d
  | 0, _, _, _, _, e => by cases e
  | n + 1, _, _, _, h, e => by
    have ih := fun {v : AV} {y : V} {d : PyData} => toD_ok hr n (v := v) (y := y) (d := d)
    cases h with
    | non => cases (Option.some.inj e); exact .non
    | bl b => cases (Option.some.inj e); exact .bl b
    | int i => cases (Option.some.inj e); exact .int i
    | str x =>
      have e' : (if PyData.strOk x then some (PyData.str x) else none) = some _ := e
      split at e'
      · cases (Option.some.inj e'); exact .str x
      · cases e'
    | fn h => cases e
    | @tup a Vs vs h hs =>
      have e' : (mapO (toD A n) vs).map PyData.tuple = some _ := e
      cases q : mapO (toD A n) vs with
      | none => rw [q] at e'; cases e'
      | some ds =>
        rw [q] at e'
        cases (Option.some.inj e')
        exact .tup h (mapO_ok (fun {v y d} => ih) hs q)
    | @ref m a h =>
      have e' : (match A[m]?.bind AO.items? with | some vs => (mapO (toD A n) vs).map PyData.list | none => none) = some _ := e
      cases q : A[m]?.bind AO.items? with
      | none => rw [q] at e'; cases e'
      | some vs =>
        rw [q] at e'
        obtain ⟨Vs, h1, h2⟩ := hr.seq q h
        have e2 : (mapO (toD A n) vs).map PyData.list = some _ := e'
        cases q2 : mapO (toD A n) vs with
        | none => rw [q2] at e2; cases e2
        | some ds =>
          rw [q2] at e2
          cases (Option.some.inj e2)
          exact .lst h1 (mapO_ok (fun {v y d} => ih) h2 q2)
/-- such data is no dict's, and not deep -/
theorem mapO_lay {f : AV → Option PyData} {n : Nat} (hf : ∀ {v : AV} {d : PyData}, f v = some d → d.canLay0 = true ∧ d.depth ≤ n) : ∀ {vs : List AV} {ds : List PyData}, mapO f vs = some ds → PyData.canLayAll0 ds = true ∧ PyData.depthAll ds ≤ n
  | [], _, e => by cases (Option.some.inj e); exact ⟨rfl, Nat.zero_le _⟩
  | v :: vs, _, e => by
    rw [mapO_cons] at e
    cases q1 : f v with
    | none => rw [q1] at e; cases e
    | some d =>
      cases q2 : mapO f vs with
      | none => rw [q1, q2] at e; cases e
      | some ds =>
        rw [q1, q2] at e
        cases (Option.some.inj e)
        obtain ⟨h1, h2⟩ := hf q1
        obtain ⟨h3, h4⟩ := mapO_lay hf q2
        refine ⟨by simp only [PyData.canLayAll0, h1, h3, Bool.and_self], ?_⟩
        simp only [PyData.depthAll]
        omega
theorem toD_lay : ∀ (n : Nat) {v : AV} {d : PyData}, toD A n v = some d → d.canLay0 = true ∧ d.depth ≤ n
  | 0, _, _, e => by cases e
  | n + 1, v, _, e => by
    have ih := fun {v : AV} {d : PyData} => toD_lay n (v := v) (d := d)
    cases v with
    | non => cases (Option.some.inj e); exact ⟨rfl, Nat.zero_le _⟩
    | bl b => cases (Option.some.inj e); exact ⟨rfl, Nat.zero_le _⟩
    | int i => cases (Option.some.inj e); exact ⟨rfl, Nat.zero_le _⟩
    | str x =>
      have e' : (if PyData.strOk x then some (PyData.str x) else none) = some _ := e
      split at e'
      · rename_i hx
        cases (Option.some.inj e')
        exact ⟨by simp only [PyData.canLay0]; exact hx, Nat.zero_le _⟩
      · cases e'
    | fn h => cases e
    | tup vs =>
      have e' : (mapO (toD A n) vs).map PyData.tuple = some _ := e
      cases q : mapO (toD A n) vs with
      | none => rw [q] at e'; cases e'
      | some ds =>
        rw [q] at e'
        cases (Option.some.inj e')
        obtain ⟨h1, h2⟩ := mapO_lay (fun {v d} => ih) q
        refine ⟨by simp only [PyData.canLay0, h1], ?_⟩
        simp only [PyData.depth]
        omega
    | ref m =>
      have e' : (match A[m]?.bind AO.items? with | some vs => (mapO (toD A n) vs).map PyData.list | none => none) = some _ := e
      cases q : A[m]?.bind AO.items? with
      | none => rw [q] at e'; cases e'
      | some vs =>
        rw [q] at e'
        have e2 : (mapO (toD A n) vs).map PyData.list = some _ := e'
        cases q2 : mapO (toD A n) vs with
        | none => rw [q2] at e2; cases e2
        | some ds =>
          rw [q2] at e2
          cases (Option.some.inj e2)
          obtain ⟨h1, h2⟩ := mapO_lay (fun {v d} => ih) q2
          refine ⟨by simp only [PyData.canLay0, h1], ?_⟩
          simp only [PyData.depth]
          omega
theorem toD_shaped {v : AV} {d : PyData} (h : toD A 60 v = some d) : SeqAt.shaped d = true := by
  obtain ⟨h1, h2⟩ := toD_lay 60 h
  unfold SeqAt.shaped
  rw [h1]
  exact decide_eq_true (by omega)
theorem eqA_ok (hr : HRel K G ρ H A) {v w : AV} {x y : V} {b : Bool} (h1 : AVr K G ρ H v x) (h2 : AVr K G ρ H w y) (e : eqA A v w = some b) :
    ∃ d d', Dp K H x d ∧ Dp K H y d' ∧ SeqAt.shaped d = true ∧ SeqAt.shaped d' = true ∧ PyData.eqv d d' = b := by
  unfold eqA at e
  cases q1 : toD A 60 v with
  | none => rw [q1] at e; cases e
  | some d =>
    cases q2 : toD A 60 w with
    | none => rw [q1, q2] at e; cases e
    | some d' =>
      rw [q1, q2] at e
      exact ⟨d, d', toD_ok hr _ h1 q1, toD_ok hr _ h2 q2, toD_shaped q1, toD_shaped q2, Option.some.inj e⟩
theorem tru_rel (hr : HRel K G ρ H A) {v : AV} {x : V} {b : Bool} (h : AVr K G ρ H v x) (e : truA A v = some b) : TruV K x H b := by
  cases h with
  | non => exact (Option.some.inj e).symm
  | bl c => exact (Option.some.inj e).symm
  | int i => exact (Option.some.inj e).symm
  | str y =>
    have e' : (if y.length ≤ sizeLine then some (y.length != 0) else none) = some b := e
    split at e'
    · rename_i hl
      refine ⟨hl, ?_⟩
      rw [← Option.some.inj e']
      cases y.length with
      | zero => rfl
      | succ n =>
        show (n + 1 != 0) = (((n + 1 : Nat) : Int) != 0)
        rw [show (n + 1 != 0) = true by simp]
        symm
        simp
        omega
    · cases e'
  | @ref n a h =>
    have e' : (match A[n]?.bind AO.items? with | some vs => some (!vs.isEmpty) | none => none) = some b := e
    cases q : A[n]?.bind AO.items? with
    | none => rw [q] at e'; cases e'
    | some vs =>
      rw [q] at e'
      obtain ⟨Vs, h1, h2⟩ := hr.seq q h
      refine .inl ⟨Vs, h1, ?_⟩
      rw [← Option.some.inj e']
      cases h2 <;> rfl
  | fn h => cases e
  | tup h1 h2 =>
    refine .inr (.inl ⟨_, h1, ?_⟩)
    rw [← Option.some.inj e]
    cases h2 <;> rfl
end
end MP

set_option maxRecDepth 100000
set_option autoImplicit false
set_option maxHeartbeats 1000000
/-! MP4: operators, built-in functions and methods by values. -/
namespace MP
open PySem PySem.Spec PyProof.Rows L2

section
variable {K : PySem.W.Frag} {G : Nat → Option V} {ρ ρ' : List Addr} {H H' : Hp} {A A' : AH} {E : XK} {Q : VK}
theorem lenR (hr : HRel K G ρ H A) {p : Addr} : (ρ ++ [p])[A.length]? = some p := by rw [← hr.len]; simp
theorem Out.newA {ao : AO} {p : Addr} {o : HO} (h : Out K G ρ H E Q (new A ao)) (hr : HRel K G ρ H A) (hp : H p = none) (ho : AOr K G (ρ ++ [p]) (upd H p o) p ao) : Q (.ref p) (upd H p o) :=
  h (.ref p) (upd H p o) (ρ ++ [p]) (Hext.new hp) (hr.new hp ho) (.ref (lenR hr))
theorem Out.newL {vs : List AV} {Vs : List V} {p : Addr} (h : Out K G ρ H E Q (new A (.lst vs))) (hr : HRel K G ρ H A) (hv : AVrs K G ρ H vs Vs) (hp : H p = none) : Q (.ref p) (upd H p (.lst Vs)) :=
  Out.newA h hr hp ⟨Vs, upd_same, hv.mono (Hext.new hp)⟩
theorem Out.newT {vs : List AV} {Vs : List V} {p : Addr} (h : Out K G ρ H E Q (.ok (.tup vs) A)) (hr : HRel K G ρ H A) (hv : AVrs K G ρ H vs Vs) (hp : H p = none) : Q (.ref p) (upd H p (.tup Vs)) :=
  h (.ref p) (upd H p (.tup Vs)) ρ (Hext.new0 hp) (hr.same hp) (.tup (SqT.of upd_same) (hv.mono (Hext.new0 hp)))
/-- a list is stored to -/
theorem Out.setL {v : AV} {y : V} {n : Nat} {a : Addr} {vs : List AV} {Vs : List V} (h : Out K G ρ H E Q (.ok v (setL A n vs))) (hr : HRel K G ρ H A) {o : AO} (e : A[n]? = some o) (m : o.mut = true) (r : ρ[n]? = some a)
    (hv : AVrs K G ρ H vs Vs) (rv : AVr K G ρ H v y) : Q y (upd H a (.lst Vs)) := by
  have mu := (hr.obj n o a e r).isMut m
  exact h y (upd H a (.lst Vs)) ρ (Hext.mut mu) (hr.set e m rfl r ⟨Vs, upd_same, hv.mono (Hext.mut mu)⟩) (rv.mono (Hext.mut mu))
end
section
variable {X : Cx} {G : Nat → Option V}
def rB (K : PySem.W.Frag) (G : Nat → Option V) (o : BO) : R2 := fun x y H Q => ∃ ρ A v w E, HRel K G ρ H A ∧ AVr K G ρ H v x ∧ AVr K G ρ H w y ∧ Out K G ρ H E Q (opA A o v w)
theorem op_fdivX : OpR X (binaryOp .FloorDiv) (rI (fun _ j => j ≠ 0 ∧ j.natAbs.log2 < 9000) fun i j => .int (i.fdiv j)) := opI fun i j _ _ _ _ _ hc q =>
  floordiv_int hc.1 q (.inl (PyProof.noPylong_of_log2 hc.2))
theorem opA_stuck {A : AH} {o : BO} {v w : AV} {ρ : List Addr} {H : Hp} {E : XK} {Q : VK} {K : PySem.W.Frag} (h : Out K G ρ H E Q (opA A o v w)) (e : opA A o v w = .stuck) : False := by rw [e] at h; exact h
/-- a text, so many times -/
theorem op_mul_str : OpR X (binaryOp .Mult) (fun x y H Q => ∃ i k, x = .str i ∧ y = .int k ∧ 0 ≤ k ∧ k ≤ 4000 ∧ i.length ≤ 4000 ∧ Q (.str (Txt.mul i k)) H) := by
  intro pins s σ H x y v u Q I rx ry h
  obtain ⟨i, k, rfl, rfl, h0, h1, h2, q⟩ := h
  obtain ⟨t, rfl⟩ := rx
  obtain ⟨t', rfl⟩ := ry
  exact SB.mul (mulOk_of 4000 4000 h2 h1 (by omega) (by decide) (by decide)) fun t' tk => ⟨.str (Txt.mul i k), H, I.tok _, ⟨_, rfl⟩, q⟩
theorem opB_ok (o : BO) : OpR X (binaryOp o.op) (rB X.K G o) := by
  intro pins s σ H x y v u Q I rx ry h
  obtain ⟨ρ, A, av, aw, E, hr, h1, h2, out⟩ := h
  cases o with
  | add =>
    cases h1 with
    | int i =>
      cases h2 with
      | int j => exact op_add pins s σ H _ _ v u Q I rx ry ⟨i, j, rfl, rfl, OutG.at out hr (.int _)⟩
      | _ => exact False.elim out
    | str a =>
      cases h2 with
      | str b =>
        have o2 : Out X.K G ρ H E Q (if a.length + b.length ≤ sizeLine then .ok (.str (a ++ b)) A else .stuck) := out
        split at o2
        · rename_i hl
          exact op_add_str pins s σ H _ _ v u Q I rx ry ⟨a, b, rfl, rfl, hl, OutG.at o2 hr (.str _)⟩
        · exact False.elim o2
      | _ => exact False.elim out
    | @tup a Vs vs k1 k2 =>
      cases h2 with
      | @tup b Ws ws k3 k4 =>
        have o2 : Out X.K G ρ H E Q (if vs.length + ws.length ≤ sizeLine then .ok (.tup (vs ++ ws)) A else .stuck) := out
        split at o2
        · rename_i hl
          refine op_catA pins s σ H _ _ v u Q I rx ry ⟨a, b, Vs, Ws, rfl, rfl, k1, k3, by rw [← k2.length, ← k4.length]; exact hl, fun e => ?_, fun _ e => ?_, fun _ _ p hp => ?_⟩
          · subst e
            cases k2
            exact OutG.at o2 hr (.tup k3 k4)
          · subst e
            cases k4
            rw [List.append_nil] at o2
            exact OutG.at o2 hr (.tup k1 k2)
          · exact Out.newT o2 hr (k2.append k4) hp
        · exact False.elim o2
      | _ => exact False.elim out
    | @ref n a k1 =>
      cases h2 with
      | @ref m b k2 =>
        have o2 : Out X.K G ρ H E Q (match A[n]?, A[m]? with
          | some (.lst xs), some (.lst ys) => if xs.length + ys.length ≤ sizeLine then new A (.lst (xs ++ ys)) else .stuck
          | _, _ => .stuck) := out
        split at o2
        · rename_i xs ys e1 e2
          split at o2
          · rename_i hl
            obtain ⟨Xs, f1, f2⟩ := hr.lst (lstAt_iff.mpr e1) k1
            obtain ⟨Ys, f3, f4⟩ := hr.lst (lstAt_iff.mpr e2) k2
            exact op_cat pins s σ H _ _ v u Q I rx ry ⟨a, b, Xs, Ys, rfl, rfl, f1, f3, by rw [← f2.length, ← f4.length]; exact hl, fun p hp => Out.newL o2 hr (f2.append f4) hp⟩
          · exact False.elim o2
        · exact False.elim o2
      | _ => exact False.elim out
    | _ => exact False.elim out
  | sub =>
    cases h1 with
    | int i =>
      cases h2 with
      | int j => exact op_sub pins s σ H _ _ v u Q I rx ry ⟨i, j, rfl, rfl, OutG.at out hr (.int _)⟩
      | _ => exact False.elim out
    | _ => exact False.elim out
  | mul =>
    cases h1 with
    | int i =>
      cases h2 with
      | int j =>
        have o2 : Out X.K G ρ H E Q (if i.natAbs.log2 + j.natAbs.log2 < 1000000 then .ok (.int (i * j)) A else .stuck) := out
        split at o2
        · rename_i hl
          exact op_mulW pins s σ H _ _ v u Q I rx ry ⟨i, j, rfl, rfl, hl, OutG.at o2 hr (.int _)⟩
        · exact False.elim o2
      | _ => exact False.elim out
    | str a =>
      cases h2 with
      | int k =>
        have o2 : Out X.K G ρ H E Q (if 0 ≤ k ∧ k ≤ 4000 ∧ a.length ≤ 4000 then .ok (.str (Txt.mul a k)) A else .stuck) := out
        split at o2
        · rename_i hl
          exact op_mul_str pins s σ H _ _ v u Q I rx ry ⟨a, k, rfl, rfl, hl.1, hl.2.1, hl.2.2, OutG.at o2 hr (.str _)⟩
        · exact False.elim o2
      | _ => exact False.elim out
    | @ref n a k1 =>
      cases h2 with
      | int k =>
        have o2 : Out X.K G ρ H E Q (match A[n]? with
          | some (.lst xs) => if -(2 ^ 63) ≤ k ∧ k < 2 ^ 63 ∧ xs.length * k.toNat ≤ sizeLine then new A (.lst (List.replicate k.toNat xs).flatten) else .stuck
          | _ => .stuck) := out
        split at o2
        · rename_i xs e1
          split at o2
          · rename_i hl
            obtain ⟨Xs, f1, f2⟩ := hr.lst (lstAt_iff.mpr e1) k1
            exact op_rep pins s σ H _ _ v u Q I rx ry ⟨a, k, Xs, rfl, rfl, f1, hl.1, hl.2.1, by rw [← f2.length]; exact hl.2.2, fun p hp => Out.newL o2 hr (f2.rep _) hp⟩
          · exact False.elim o2
        · exact False.elim o2
      | _ => exact False.elim out
    | @tup a Vs vs k1 k2 =>
      cases h2 with
      | int k =>
        have o2 : Out X.K G ρ H E Q (if vs ≠ [] ∧ 2 ≤ k ∧ k ≤ 1000 ∧ vs.length ≤ 1000 then .ok (.tup (List.replicate k.toNat vs).flatten) A else .stuck) := out
        split at o2
        · rename_i hl
          refine op_repT pins s σ H _ _ v u Q I rx ry ⟨a, k, Vs, rfl, rfl, k1, fun e => hl.1 ?_, hl.2.1, hl.2.2.1, by rw [← k2.length]; exact hl.2.2.2, fun p hp => Out.newT o2 hr (k2.rep _) hp⟩
          subst e
          cases k2
          rfl
        · exact False.elim o2
      | _ => exact False.elim out
    | _ => exact False.elim out
  | fdiv =>
    cases h1 with
    | int i =>
      cases h2 with
      | int j =>
        have o2 : Out X.K G ρ H E Q (if j ≠ 0 ∧ j.natAbs.log2 < 9000 then .ok (.int (i.fdiv j)) A else .stuck) := out
        split at o2
        · rename_i hl
          exact op_fdivX pins s σ H _ _ v u Q I rx ry ⟨i, j, rfl, rfl, hl, OutG.at o2 hr (.int _)⟩
        · exact False.elim o2
      | _ => exact False.elim out
    | _ => exact False.elim out
  | mod =>
    cases h1 with
    | int i =>
      cases h2 with
      | int j =>
        have o2 : Out X.K G ρ H E Q (if j ≠ 0 then .ok (.int (i.fmod j)) A else .stuck) := out
        split at o2
        · rename_i hl
          exact op_modN pins s σ H _ _ v u Q I rx ry ⟨i, j, rfl, rfl, hl, OutG.at o2 hr (.int _)⟩
        · exact False.elim o2
      | _ => exact False.elim out
    | _ => exact False.elim out
  | pow =>
    cases h1 with
    | int i =>
      cases h2 with
      | int j =>
        have o2 : Out X.K G ρ H E Q (if 0 ≤ j ∧ j ≤ 1000000 ∧ i.natAbs < 2 ^ 64 then .ok (.int (i ^ j.toNat)) A else .stuck) := out
        split at o2
        · rename_i hl
          exact op_pow pins s σ H _ _ v u Q I rx ry ⟨i, j, rfl, rfl, hl, OutG.at o2 hr (.int _)⟩
        · exact False.elim o2
      | _ => exact False.elim out
    | _ => exact False.elim out
/-! ### the same as in-place operators -/
theorem opB_in (o : BO) (h0 : o = .add ∨ o = .sub ∨ o = .mul) {av aw : AV} (hb : augB o av = true) (hi : (∃ i, av = .int i) ∨ ∃ x, av = .str x) : ∀ (pins : List (Addr × Obj)) (s : Shared) (σ : L2.St) (H : Hp) (x y : V) (v u : Value) (Q : VK), Inv X pins σ H s → RelV x v → RelV y u →
    (∃ ρ A E, HRel X.K G ρ H A ∧ AVr X.K G ρ H av x ∧ AVr X.K G ρ H aw y ∧ Out X.K G ρ H E Q (opA A o av aw)) → wpAny (model X.prog X.w) X.A (inplaceOp o.op v u) (EP X pins σ Q) X.xe s := by
  intro pins s σ H x y v u Q I rx ry h
  obtain ⟨ρ, A, E, hr, h1, h2, out⟩ := h
  rcases hi with ⟨i, rfl⟩ | ⟨a, rfl⟩
  · cases h1
    rcases h0 with rfl | rfl | rfl
    · cases h2 with
      | int j => exact iop_add pins s σ H _ _ v u Q I rx ry ⟨i, j, rfl, rfl, OutG.at out hr (.int _)⟩
      | _ => exact False.elim out
    · cases h2 with
      | int j => exact iop_sub pins s σ H _ _ v u Q I rx ry ⟨i, j, rfl, rfl, OutG.at out hr (.int _)⟩
      | _ => exact False.elim out
    · cases h2 with
      | int j =>
        have o2 : Out X.K G ρ H E Q (if i.natAbs.log2 + j.natAbs.log2 < 1000000 then .ok (.int (i * j)) A else .stuck) := out
        split at o2
        · rename_i hl
          have hw : CMulW i j := hl
          exact (opI (X := X) (f := inplaceOp .Mult) (C := CMulW) (g := fun i j => i * j) fun _ _ _ _ _ _ _ hc q => imul_int q hc.ok) pins s σ H _ _ v u Q I rx ry ⟨i, j, rfl, rfl, hw, OutG.at o2 hr (.int _)⟩
        · exact False.elim o2
      | _ => exact False.elim out
  · cases h1
    rcases h0 with rfl | rfl | rfl
    · cases h2 with
      | str b =>
        have o2 : Out X.K G ρ H E Q (if a.length + b.length ≤ sizeLine then .ok (.str (a ++ b)) A else .stuck) := out
        split at o2
        · rename_i hl
          exact iop_add_str pins s σ H _ _ v u Q I rx ry ⟨a, b, rfl, rfl, hl, OutG.at o2 hr (.str _)⟩
        · exact False.elim o2
      | _ => exact False.elim out
    · cases h2 <;> exact False.elim out
    · cases hb
/-! ### comparisons -/
def rC (K : PySem.W.Frag) (G : Nat → Option V) (o : CO) : R2 := fun x y H Q => ∃ ρ A v w b, HRel K G ρ H A ∧ AVr K G ρ H v x ∧ AVr K G ρ H w y ∧ cmpA A o v w = some b ∧ Q (.bl b) H
/-- no def and no class is None -/
def GOk (G : Nat → Option V) : Prop := ∀ g z, G g = some z → ∃ a, z = .ref a
theorem GOk.non {G : Nat → Option V} (h : GOk G) (g : Nat) (z : V) (e : G g = some z) : z ≠ .non := by
  obtain ⟨a, rfl⟩ := h g z e
  intro k
  cases k
theorem flat_rel {K : PySem.W.Frag} {ρ : List Addr} {H : Hp} {v : AV} {x : V} (h : AVr K G ρ H v x) (f : flatA v = true) : flatV x = true := by
  cases h with
  | ref _ => cases f
  | fn _ => cases f
  | tup _ _ => cases f
  | _ => rfl
theorem eqF_rel {K : PySem.W.Frag} {ρ : List Addr} {H : Hp} {v w : AV} {x y : V} (h : AVr K G ρ H v x) (k : AVr K G ρ H w y) (f : flatA v = true) (g : flatA w = true) : eqV x y = eqF v w := by
  cases h with
  | ref _ => cases f
  | fn _ => cases f
  | tup _ _ => cases f
  | _ => cases k with
    | ref _ => cases g
    | fn _ => cases g
    | tup _ _ => cases g
    | _ => rfl
theorem flats_rel {K : PySem.W.Frag} {ρ : List Addr} {H : Hp} : ∀ {ws : List AV} {Ws : List V}, AVrs K G ρ H ws Ws → ws.all flatA = true → Ws.all flatV = true
  | _, _, .nil, _ => rfl
  | _, _, .cons h hs, f => by
    rw [List.all_cons, Bool.and_eq_true] at f ⊢
    exact ⟨flat_rel h f.1, flats_rel hs f.2⟩
theorem any_rel {K : PySem.W.Frag} {ρ : List Addr} {H : Hp} {v : AV} {x : V} (h : AVr K G ρ H v x) (f : flatA v = true) : ∀ {ws : List AV} {Ws : List V}, AVrs K G ρ H ws Ws → ws.all flatA = true → inV x Ws = ws.any fun w => eqF w v
  | _, _, .nil, _ => rfl
  | _, _, .cons k ks, g => by
    rw [List.all_cons, Bool.and_eq_true] at g
    have ih := any_rel h f ks g.2
    unfold inV at ih ⊢
    rw [List.any_cons, List.any_cons, ih, eqF_rel k h g.1 f]
theorem inF_ok {K : PySem.W.Frag} {ρ : List Addr} {H : Hp} {v : AV} {x : V} {ws : List AV} {Ws : List V} {b : Bool} (h : AVr K G ρ H v x) (hs : AVrs K G ρ H ws Ws) (e : inF v ws = some b) : flatV x = true ∧ Ws.all flatV = true ∧ inV x Ws = b := by
  unfold inF at e
  split at e
  · rename_i f
    obtain ⟨f1, f2⟩ := Bool.and_eq_true_iff.mp f
    exact ⟨flat_rel h f1, flats_rel hs f2, (any_rel h f1 hs f2).trans (Option.some.inj e)⟩
  · cases e
theorem inD_ok {K : PySem.W.Frag} {ρ : List Addr} {H : Hp} {A : AH} (hr : HRel K G ρ H A) {v : AV} {x y : V} {n : Nat} {b : Bool} (h1 : AVr K G ρ H v x) (h2 : AVr K G ρ H (.ref n) y) (e : inD A v n = some b) :
    ∃ d ds, Dp K H x d ∧ Dp K H y (.list ds) ∧ SeqAt.shaped d = true ∧ SeqAt.shaped (.list ds) = true ∧ (ds.any fun z => PyData.eqv z d) = b := by
  unfold inD at e
  split at e
  · rename_i d ds q1 q2
    exact ⟨d, ds, toD_ok hr _ h1 q1, toD_ok hr _ h2 q2, toD_shaped q1, toD_shaped q2, Option.some.inj e⟩
  · cases e
theorem map_not {o : Option Bool} {b : Bool} (h : o.map (!·) = some b) : ∃ c, o = some c ∧ (!c) = b := by
  cases o with
  | none => cases h
  | some c => exact ⟨c, rfl, Option.some.inj h⟩
theorem cmpA_none {A : AH} {o : CO} {v w : AV} {b : Bool} (e : cmpA A o v w = some b) (n : cmpA A o v w = none) : False := by rw [n] at e; cases e
theorem opC_ok (hG : GOk G) (hu : X.A.units + 65 < cLine) (o : CO) : OpR X (compareOp o.op) (rC X.K G o) := by
  intro pins s σ H x y v u Q I rx ry h
  obtain ⟨ρ, A, av, aw, b, hr, h1, h2, e, q⟩ := h
  have hu4 : X.A.units + 64 < cLine := by omega
  cases o with
  | eq =>
    obtain ⟨d, d', k1, k2, k3, k4, k5⟩ := eqA_ok hr h1 h2 (show eqA A av aw = some b from by cases av <;> cases aw <;> exact e)
    exact op_eqD hu4 pins s σ H x y v u Q I rx ry ⟨d, d', k1, k2, k3, k4, by rw [k5]; exact q⟩
  | ne =>
    obtain ⟨c, e1, e2⟩ := map_not (show (eqA A av aw).map (!·) = some b from by cases av <;> cases aw <;> exact e)
    obtain ⟨d, d', k1, k2, k3, k4, k5⟩ := eqA_ok hr h1 h2 e1
    exact op_neD hu4 pins s σ H x y v u Q I rx ry ⟨d, d', k1, k2, k3, k4, by rw [k5, e2]; exact q⟩
  | lt =>
    cases h1 with
    | int i => cases h2 with
      | int j => exact op_lt pins s σ H _ _ v u Q I rx ry ⟨i, j, rfl, rfl, by show Q (.bl (decide (i < j))) H; rw [show decide (i < j) = b from Option.some.inj e]; exact q⟩
      | _ => cases e
    | _ => cases e
  | le =>
    cases h1 with
    | int i => cases h2 with
      | int j => exact op_le pins s σ H _ _ v u Q I rx ry ⟨i, j, rfl, rfl, by show Q (.bl (decide (i ≤ j))) H; rw [show decide (i ≤ j) = b from Option.some.inj e]; exact q⟩
      | _ => cases e
    | _ => cases e
  | gt =>
    cases h1 with
    | int i => cases h2 with
      | int j => exact op_gt pins s σ H _ _ v u Q I rx ry ⟨i, j, rfl, rfl, by show Q (.bl (decide (j < i))) H; rw [show decide (j < i) = b from Option.some.inj e]; exact q⟩
      | _ => cases e
    | _ => cases e
  | ge =>
    cases h1 with
    | int i => cases h2 with
      | int j => exact op_ge pins s σ H _ _ v u Q I rx ry ⟨i, j, rfl, rfl, by show Q (.bl (decide (j ≤ i))) H; rw [show decide (j ≤ i) = b from Option.some.inj e]; exact q⟩
      | _ => cases e
    | _ => cases e
  | is =>
    cases h2 with
    | non =>
      refine op_isN pins s σ H _ _ v u Q I rx ry ⟨rfl, ?_⟩
      rw [h1.isNon hG.non, Option.some.inj (show some av.isNon = some b from by cases av <;> exact e)]
      exact q
    | _ => cases av <;> cases e
  | isnot =>
    cases h2 with
    | non =>
      refine op_notN pins s σ H _ _ v u Q I rx ry ⟨rfl, ?_⟩
      rw [h1.isNon hG.non, Option.some.inj (show some (!av.isNon) = some b from by cases av <;> exact e)]
      exact q
    | _ => cases av <;> cases e
  | in_ =>
    cases h2 with
    | str z => cases h1 with
      | str c => exact op_in_str pins s σ H _ _ v u Q I rx ry ⟨c, z, rfl, rfl, by rw [show (!(Builtin.Str.occurrences z c 0 z.length 1).isEmpty) = b from Option.some.inj e]; exact q⟩
      | _ => cases e
    | @tup a Ws ws k1 k2 =>
      obtain ⟨f1, f2, f3⟩ := inF_ok h1 k2 (show inF av ws = some b from by cases av <;> exact e)
      exact op_in_seq pins s σ H _ _ v u Q I rx ry ⟨a, Ws, rfl, .inr k1, f1, f2, by rw [show (if false = true then !inV x Ws else inV x Ws) = inV x Ws from rfl, f3]; exact q⟩
    | @ref n a k =>
      obtain ⟨d, ds, k1, k2, k3, k4, k5⟩ := inD_ok hr h1 (.ref k) (show inD A av n = some b from by cases av <;> exact e)
      exact op_inD hu pins s σ H x _ v u Q I rx ry ⟨d, ds, k1, k2, k3, k4, by rw [k5]; exact q⟩
    | _ => cases av <;> cases e
  | notin =>
    cases h2 with
    | str z => cases h1 with
      | str c => exact op_notin_str pins s σ H _ _ v u Q I rx ry ⟨c, z, rfl, rfl, by rw [show (!(!(Builtin.Str.occurrences z c 0 z.length 1).isEmpty)) = b from Option.some.inj e]; exact q⟩
      | _ => cases e
    | @tup a Ws ws k1 k2 =>
      obtain ⟨c, e1, e2⟩ := map_not (show (inF av ws).map (!·) = some b from by cases av <;> exact e)
      obtain ⟨f1, f2, f3⟩ := inF_ok h1 k2 e1
      exact op_notIn_seq pins s σ H _ _ v u Q I rx ry ⟨a, Ws, rfl, .inr k1, f1, f2, by rw [show (if true = true then !inV x Ws else inV x Ws) = !inV x Ws from rfl, f3, e2]; exact q⟩
    | @ref n a k =>
      obtain ⟨c, e1, e2⟩ := map_not (show (inD A av n).map (!·) = some b from by cases av <;> exact e)
      obtain ⟨d, ds, k1, k2, k3, k4, k5⟩ := inD_ok hr h1 (.ref k) e1
      exact op_notInD hu pins s σ H x _ v u Q I rx ry ⟨d, ds, k1, k2, k3, k4, by rw [k5, e2]; exact q⟩
    | _ => cases av <;> cases e
/-! ### subscripts -/
def rX (K : PySem.W.Frag) (G : Nat → Option V) : R2 := fun x y H Q => ∃ ρ A v w z, HRel K G ρ H A ∧ AVr K G ρ H v x ∧ AVr K G ρ H w y ∧ idxA A v w = some z ∧ ∀ zz, AVr K G ρ H z zz → Q zz H
theorem atI_rel {K : PySem.W.Frag} {ρ : List Addr} {H : Hp} {vs : List AV} {Vs : List V} {i : Int} {z : AV} (h : AVrs K G ρ H vs Vs) (e : atI vs i = some z) : ∃ y, atI Vs i = some y ∧ AVr K G ρ H z y := by
  unfold atI at e ⊢
  rw [← h.length]
  cases q : ixN vs.length i with
  | none => rw [q] at e; cases e
  | some j =>
    rw [q] at e
    exact h.get (i := j) e
theorem ix_ok : IxR X (rX X.K G) := by
  intro value slice pins s σ H x y v u Q I rx ry h hs
  obtain ⟨ρ, A, av, aw, z, hr, h1, h2, e, q⟩ := h
  cases h1 with
  | @ref n a k =>
    cases h2 with
    | int i =>
      have e' : (match A[n]?.bind AO.items? with | some vs => atI vs i | none => none) = some z := e
      cases p : A[n]?.bind AO.items? with
      | none => rw [p] at e'; cases e'
      | some vs =>
        rw [p] at e'
        obtain ⟨Vs, k1, k2⟩ := hr.seq p k
        obtain ⟨zz, k3, k4⟩ := atI_rel k2 e'
        exact ix_list value slice pins s σ H _ _ v u Q I rx ry ⟨a, Vs, i, zz, rfl, rfl, k1, k3, q zz k4⟩ hs
    | _ => cases e
  | @tup a Vs vs k1 k2 =>
    cases h2 with
    | int i =>
      obtain ⟨zz, k3, k4⟩ := atI_rel k2 (show atI vs i = some z from e)
      exact ix_tup value slice pins s σ H _ _ v u Q I rx ry ⟨a, Vs, i, zz, rfl, rfl, k1, k3, q zz k4⟩ hs
    | _ => cases e
  | str t =>
    cases h2 with
    | int i =>
      have e' : (if t.length ≤ sizeLine then (atI t.cps.toList i).map fun c => AV.str ⟨#[c]⟩ else none) = some z := e
      split at e'
      · rename_i hl
        cases p : atI t.cps.toList i with
        | none => rw [p] at e'; cases e'
        | some c =>
          rw [p] at e'
          cases (Option.some.inj e')
          exact ix_str value slice pins s σ H _ _ v u Q I rx ry ⟨t, i, c, rfl, rfl, hl, p, q _ (.str _)⟩ hs
      · cases e'
    | _ => cases e
  | _ => cases h2 <;> cases e
/-! ### built-in functions -/
def rF (K : PySem.W.Frag) (G : Nat → Option V) (b : BF) : List V → Hp → VK → Prop := fun ys H Q => ∃ ρ A vs E, HRel K G ρ H A ∧ AVrs K G ρ H vs ys ∧ Out K G ρ H E Q (bltA A b vs)
theorem allInts_rel {K : PySem.W.Frag} {ρ : List Addr} {H : Hp} : ∀ {vs : List AV} {ys : List V} {ns : List Int}, AVrs K G ρ H vs ys → allInts vs = some ns → ys = ns.map V.int
  | _, _, ns, .nil, e => by simp only [allInts] at e; cases (Option.some.inj e); rfl
  | _, _, ns, .cons (vs := vs) h hs, e => by
    cases h with
    | int i =>
      have e' : (allInts vs).map (i :: ·) = some ns := e
      cases q : allInts vs with
      | none => rw [q] at e'; cases e'
      | some ms =>
        rw [q] at e'
        cases (Option.some.inj e')
        rw [allInts_rel hs q]; rfl
    | _ => cases e
theorem allBls_rel {K : PySem.W.Frag} {ρ : List Addr} {H : Hp} : ∀ {vs : List AV} {ys : List V} {ns : List Bool}, AVrs K G ρ H vs ys → allBls vs = some ns → ys = ns.map V.bl
  | _, _, ns, .nil, e => by simp only [allBls] at e; cases (Option.some.inj e); rfl
  | _, _, ns, .cons (vs := vs) h hs, e => by
    cases h with
    | bl i =>
      have e' : (allBls vs).map (i :: ·) = some ns := e
      cases q : allBls vs with
      | none => rw [q] at e'; cases e'
      | some ms =>
        rw [q] at e'
        cases (Option.some.inj e')
        rw [allBls_rel hs q]; rfl
    | _ => cases e
theorem intsOf_rel {K : PySem.W.Frag} {ρ : List Addr} {H : Hp} {A : AH} (hr : HRel K G ρ H A) {v : AV} {y : V} {ns : List Int} (h : AVr K G ρ H v y) (e : intsOf A v = some ns) : ∃ a, y = .ref a ∧ SqL K H a (ns.map V.int) := by
  unfold intsOf at e
  cases h with
  | @ref n a k =>
    have e' : (A[n]?.bind AO.items?).bind allInts = some ns := e
    cases q : A[n]?.bind AO.items? with
    | none => rw [q] at e'; cases e'
    | some vs =>
      rw [q] at e'
      obtain ⟨Vs, k1, k2⟩ := hr.seq q k
      have z := allInts_rel k2 (show allInts vs = some ns from e')
      subst z
      exact ⟨a, rfl, k1⟩
  | _ => cases e
theorem blsOf_rel {K : PySem.W.Frag} {ρ : List Addr} {H : Hp} {A : AH} (hr : HRel K G ρ H A) {v : AV} {y : V} {ns : List Bool} (h : AVr K G ρ H v y) (e : blsOf A v = some ns) : ∃ a, y = .ref a ∧ SqL K H a (ns.map V.bl) := by
  unfold blsOf at e
  cases h with
  | @ref n a k =>
    have e' : (A[n]?.bind AO.items?).bind allBls = some ns := e
    cases q : A[n]?.bind AO.items? with
    | none => rw [q] at e'; cases e'
    | some vs =>
      rw [q] at e'
      obtain ⟨Vs, k1, k2⟩ := hr.seq q k
      have z := allBls_rel k2 (show allBls vs = some ns from e')
      subst z
      exact ⟨a, rfl, k1⟩
  | _ => cases e
theorem fold_max : ∀ (xs : List Int) (a : Int), a ≤ xs.foldl (fun a b => if a < b then b else a) a ∧ (∀ y ∈ xs, y ≤ xs.foldl (fun a b => if a < b then b else a) a) ∧ (xs.foldl (fun a b => if a < b then b else a) a = a ∨ xs.foldl (fun a b => if a < b then b else a) a ∈ xs)
  | [], a => ⟨Int.le_refl _, fun y h => absurd h (by simp), .inl rfl⟩
  | x :: xs, a => by
    obtain ⟨h1, h2, h3⟩ := fold_max xs (if a < x then x else a)
    rw [List.foldl_cons]
    refine ⟨?_, fun y hy => ?_, ?_⟩
    · split at h1 <;> rename_i hx <;> simp only [hx, if_true, if_false] at h1 ⊢ <;> omega
    · rcases List.mem_cons.mp hy with rfl | hy
      · split at h1 <;> rename_i hx <;> simp only [hx, if_true, if_false] at h1 ⊢ <;> omega
      · exact h2 y hy
    · rcases h3 with h3 | h3
      · rw [h3]
        split
        · exact .inr (List.mem_cons_self ..)
        · exact .inl rfl
      · exact .inr (List.mem_cons_of_mem _ h3)
theorem fold_min : ∀ (xs : List Int) (a : Int), xs.foldl (fun a b => if b < a then b else a) a ≤ a ∧ (∀ y ∈ xs, xs.foldl (fun a b => if b < a then b else a) a ≤ y) ∧ (xs.foldl (fun a b => if b < a then b else a) a = a ∨ xs.foldl (fun a b => if b < a then b else a) a ∈ xs)
  | [], a => ⟨Int.le_refl _, fun y h => absurd h (by simp), .inl rfl⟩
  | x :: xs, a => by
    obtain ⟨h1, h2, h3⟩ := fold_min xs (if x < a then x else a)
    rw [List.foldl_cons]
    refine ⟨?_, fun y hy => ?_, ?_⟩
    · split at h1 <;> rename_i hx <;> simp only [hx, if_true, if_false] at h1 ⊢ <;> omega
    · rcases List.mem_cons.mp hy with rfl | hy
      · split at h1 <;> rename_i hx <;> simp only [hx, if_true, if_false] at h1 ⊢ <;> omega
      · exact h2 y hy
    · rcases h3 with h3 | h3
      · rw [h3]
        split
        · exact .inr (List.mem_cons_self ..)
        · exact .inl rfl
      · exact .inr (List.mem_cons_of_mem _ h3)
theorem maxL_eq {n : Int} {ns : List Int} {m : Int} (h1 : m ∈ n :: ns) (h2 : ∀ y, y ∈ n :: ns → y ≤ m) : maxL (n :: ns) = m := by
  obtain ⟨k1, k2, k3⟩ := fold_max ns n
  have mem : maxL (n :: ns) ∈ n :: ns := by
    rcases k3 with k3 | k3
    · show ns.foldl (fun a b => if a < b then b else a) n ∈ n :: ns
      rw [k3]; exact List.mem_cons_self ..
    · exact List.mem_cons_of_mem _ k3
  have up : ∀ y ∈ n :: ns, y ≤ maxL (n :: ns) := fun y hy => by
    rcases List.mem_cons.mp hy with rfl | hy
    · exact k1
    · exact k2 y hy
  exact Int.le_antisymm (h2 _ mem) (up _ h1)
theorem minL_eq {n : Int} {ns : List Int} {m : Int} (h1 : m ∈ n :: ns) (h2 : ∀ y, y ∈ n :: ns → m ≤ y) : minL (n :: ns) = m := by
  obtain ⟨k1, k2, k3⟩ := fold_min ns n
  have mem : minL (n :: ns) ∈ n :: ns := by
    rcases k3 with k3 | k3
    · show ns.foldl (fun a b => if b < a then b else a) n ∈ n :: ns
      rw [k3]; exact List.mem_cons_self ..
    · exact List.mem_cons_of_mem _ k3
  have up : ∀ y ∈ n :: ns, minL (n :: ns) ≤ y := fun y hy => by
    rcases List.mem_cons.mp hy with rfl | hy
    · exact k1
    · exact k2 y hy
  exact Int.le_antisymm (up _ h1) (h2 _ mem)
/-- shapes of argument lists -/
theorem args1 {K : PySem.W.Frag} {ρ : List Addr} {H : Hp} {vs : List AV} {ys : List V} (h : AVrs K G ρ H vs ys) {v : AV} (e : vs = [v]) : ∃ y, ys = [y] ∧ AVr K G ρ H v y := by
  subst e
  cases h with
  | cons h hs => cases hs; exact ⟨_, rfl, h⟩
theorem args2 {K : PySem.W.Frag} {ρ : List Addr} {H : Hp} {vs : List AV} {ys : List V} (h : AVrs K G ρ H vs ys) {v w : AV} (e : vs = [v, w]) : ∃ y z, ys = [y, z] ∧ AVr K G ρ H v y ∧ AVr K G ρ H w z := by
  subst e
  cases h with
  | cons h hs =>
    cases hs with
    | cons h2 hs => cases hs; exact ⟨_, _, rfl, h, h2⟩
theorem itemsR {K : PySem.W.Frag} {ρ : List Addr} {H : Hp} {A : AH} {E : XK} {Q : VK} {v : AV} {y : V} {f : List AV → R AV} (hr : HRel K G ρ H A) (h : AVr K G ρ H v y)
    (out : Out K G ρ H E Q (match itemsOf A v with | some vs => f vs | none => .stuck)) : ∃ a vs Vs, y = .ref a ∧ (SqL K H a Vs ∨ SqT K H a Vs) ∧ AVrs K G ρ H vs Vs ∧ itemsOf A v = some vs ∧ Out K G ρ H E Q (f vs) := by
  split at out
  · rename_i vs e
    obtain ⟨a, Vs, rfl, k1, k2⟩ := seqD hr h e
    exact ⟨a, vs, Vs, rfl, k1, k2, e, out⟩
  · exact False.elim out
theorem F_len : CallR X (.builtin "len") (rF X.K G .len) := by
  intro pins s σ H ys us Q I r h
  obtain ⟨ρ, A, vs, E, hr, h1, out⟩ := h
  match vs, h1, out with
  | [], _, out => exact False.elim out
  | v :: _ :: _, _, out => exact False.elim (by cases v <;> exact out)
  | [v], h1, out =>
    obtain ⟨y, rfl, hv⟩ := args1 h1 rfl
    have gen : (∀ x, v ≠ .str x) → wpAny (model X.prog X.w) X.A (call (.builtin "len") us) (EP X pins σ Q) X.xe s := fun hn => by
      have o2 : Out X.K G ρ H E Q (match itemsOf A v with | some vs => .ok (.int vs.length) A | none => .stuck) := by
        cases v with
        | str x => exact absurd rfl (hn x)
        | _ => exact out
      obtain ⟨a, vs, Vs, rfl, k1, k2, _, o3⟩ := itemsR hr hv o2
      exact call_len_seq pins s σ H _ us Q I r ⟨a, Vs, rfl, k1, by rw [← k2.length]; exact OutG.at o3 hr (.int _)⟩
    cases hv with
    | str x =>
      have o2 : Out X.K G ρ H E Q (if x.length ≤ sizeLine then .ok (.int x.length) A else .stuck) := out
      split at o2
      · rename_i hl
        exact call_len_str pins s σ H _ us Q I r ⟨x, rfl, hl, OutG.at o2 hr (.int _)⟩
      · exact False.elim o2
    | _ => exact gen fun x z => nomatch z
theorem F_abs : CallR X (.builtin "abs") (rF X.K G .abs) := by
  intro pins s σ H ys us Q I r h
  obtain ⟨ρ, A, vs, E, hr, h1, out⟩ := h
  match vs, h1, out with
  | [], _, out => exact False.elim out
  | v :: _ :: _, _, out => exact False.elim (by cases v <;> exact out)
  | [v], h1, out =>
    obtain ⟨y, rfl, hv⟩ := args1 h1 rfl
    cases hv with
    | int i => exact call_abs pins s σ H _ us Q I r ⟨i, rfl, OutG.at out hr (.int _)⟩
    | _ => exact False.elim out
theorem F_sum (hc : X.calm = true) : CallR X (.builtin "sum") (rF X.K G .sum) := by
  intro pins s σ H ys us Q I r h
  obtain ⟨ρ, A, vs, E, hr, h1, out⟩ := h
  match vs, h1, out with
  | [], _, out => exact False.elim out
  | v :: _ :: _, _, out => exact False.elim out
  | [v], h1, out =>
    obtain ⟨y, rfl, hv⟩ := args1 h1 rfl
    have o2 : Out X.K G ρ H E Q (match intsOf A v with | some ns => .ok (.int ns.sum) A | none => .stuck) := out
    split at o2
    · rename_i ns e
      obtain ⟨a, rfl, k⟩ := intsOf_rel hr hv e
      exact cr_sum hc pins s σ H _ us Q I r ⟨a, ns, rfl, k, OutG.at o2 hr (.int _)⟩
    · exact False.elim o2
theorem F_all (hc : X.calm = true) : CallR X (.builtin "all") (rF X.K G .all) := by
  intro pins s σ H ys us Q I r h
  obtain ⟨ρ, A, vs, E, hr, h1, out⟩ := h
  match vs, h1, out with
  | [], _, out => exact False.elim out
  | v :: _ :: _, _, out => exact False.elim out
  | [v], h1, out =>
    obtain ⟨y, rfl, hv⟩ := args1 h1 rfl
    have o2 : Out X.K G ρ H E Q (match blsOf A v with | some ns => .ok (.bl (ns.all id)) A | none => .stuck) := out
    split at o2
    · rename_i ns e
      obtain ⟨a, rfl, k⟩ := blsOf_rel hr hv e
      exact cr_all hc pins s σ H _ us Q I r ⟨a, ns, rfl, k, OutG.at o2 hr (.bl _)⟩
    · exact False.elim o2
theorem F_any (hc : X.calm = true) : CallR X (.builtin "any") (rF X.K G .any) := by
  intro pins s σ H ys us Q I r h
  obtain ⟨ρ, A, vs, E, hr, h1, out⟩ := h
  match vs, h1, out with
  | [], _, out => exact False.elim out
  | v :: _ :: _, _, out => exact False.elim out
  | [v], h1, out =>
    obtain ⟨y, rfl, hv⟩ := args1 h1 rfl
    have o2 : Out X.K G ρ H E Q (match blsOf A v with | some ns => .ok (.bl (ns.any id)) A | none => .stuck) := out
    split at o2
    · rename_i ns e
      obtain ⟨a, rfl, k⟩ := blsOf_rel hr hv e
      exact cr_any hc pins s σ H _ us Q I r ⟨a, ns, rfl, k, OutG.at o2 hr (.bl _)⟩
    · exact False.elim o2
theorem F_max (hc : X.calm = true) : CallR X (.builtin "max") (rF X.K G .max) := by
  intro pins s σ H ys us Q I r h
  obtain ⟨ρ, A, vs, E, hr, h1, out⟩ := h
  match vs, h1, out with
  | [], _, out => exact False.elim out
  | v :: w :: _ :: _, _, out => exact False.elim (by cases v <;> cases w <;> exact out)
  | [v, w], h1, out =>
    obtain ⟨y, z, rfl, hv, hw⟩ := args2 h1 rfl
    cases hv with
    | int i => cases hw with
      | int j => exact call_max2 hc pins s σ H _ us Q I r ⟨i, j, rfl, OutG.at out hr (.int _)⟩
      | _ => exact False.elim out
    | _ => cases w <;> exact False.elim out
  | [v], h1, out =>
    obtain ⟨y, rfl, hv⟩ := args1 h1 rfl
    have o2 : Out X.K G ρ H E Q (match intsOf A v with | some (n :: ns) => .ok (.int (maxL (n :: ns))) A | _ => .stuck) := by cases v <;> exact out
    split at o2
    · rename_i n ns e
      obtain ⟨a, rfl, k⟩ := intsOf_rel hr hv e
      exact cr_max hc pins s σ H _ us Q I r ⟨a, n :: ns, rfl, k, Nat.succ_pos _, fun m m1 m2 => by rw [← maxL_eq m1 m2]; exact OutG.at o2 hr (.int _)⟩
    · exact False.elim o2
theorem F_min (hc : X.calm = true) : CallR X (.builtin "min") (rF X.K G .min) := by
  intro pins s σ H ys us Q I r h
  obtain ⟨ρ, A, vs, E, hr, h1, out⟩ := h
  match vs, h1, out with
  | [], _, out => exact False.elim out
  | v :: w :: _ :: _, _, out => exact False.elim (by cases v <;> cases w <;> exact out)
  | [v, w], h1, out =>
    obtain ⟨y, z, rfl, hv, hw⟩ := args2 h1 rfl
    cases hv with
    | int i => cases hw with
      | int j => exact call_min2 hc pins s σ H _ us Q I r ⟨i, j, rfl, OutG.at out hr (.int _)⟩
      | _ => exact False.elim out
    | _ => cases w <;> exact False.elim out
  | [v], h1, out =>
    obtain ⟨y, rfl, hv⟩ := args1 h1 rfl
    have o2 : Out X.K G ρ H E Q (match intsOf A v with | some (n :: ns) => .ok (.int (minL (n :: ns))) A | _ => .stuck) := by cases v <;> exact out
    split at o2
    · rename_i n ns e
      obtain ⟨a, rfl, k⟩ := intsOf_rel hr hv e
      exact cr_min hc pins s σ H _ us Q I r ⟨a, n :: ns, rfl, k, Nat.succ_pos _, fun m m1 m2 => by rw [← minL_eq m1 m2]; exact OutG.at o2 hr (.int _)⟩
    · exact False.elim o2
theorem F_int : CallR X (.type "int") (rF X.K G .int) := by
  intro pins s σ H ys us Q I r h
  obtain ⟨ρ, A, vs, E, hr, h1, out⟩ := h
  match vs, h1, out with
  | [], _, out => exact False.elim out
  | v :: _ :: _, _, out => exact False.elim (by cases v <;> exact out)
  | [v], h1, out =>
    obtain ⟨y, rfl, hv⟩ := args1 h1 rfl
    cases hv with
    | int i => exact call_int1 pins s σ H _ us Q I r (.inl ⟨i, rfl, OutG.at out hr (.int _)⟩)
    | bl b => exact call_int1 pins s σ H _ us Q I r (.inr ⟨b, rfl, OutG.at out hr (.int _)⟩)
    | str x =>
      have o2 : Out X.K G ρ H E Q (if x.length ≤ 640 then (match PySem.intText? x with | some n => .ok (.int n) A | none => .stuck) else .stuck) := out
      split at o2
      · rename_i hl
        split at o2
        · rename_i n e
          exact call_int_str pins s σ H _ us Q I r ⟨x, n, rfl, e, hl, OutG.at o2 hr (.int _)⟩
        · exact False.elim o2
      · exact False.elim o2
    | _ => exact False.elim out
theorem F_str : CallR X (.type "str") (rF X.K G .str) := by
  intro pins s σ H ys us Q I r h
  obtain ⟨ρ, A, vs, E, hr, h1, out⟩ := h
  match vs, h1, out with
  | [], _, out => exact False.elim out
  | v :: _ :: _, _, out => exact False.elim (by cases v <;> exact out)
  | [v], h1, out =>
    obtain ⟨y, rfl, hv⟩ := args1 h1 rfl
    cases hv with
    | int i =>
      have o2 : Out X.K G ρ H E Q (if i.natAbs.log2 < 1920 then .ok (.str (toString i)) A else .stuck) := out
      split at o2
      · rename_i hl
        exact call_str_int pins s σ H _ us Q I r ⟨i, rfl, hl, OutG.at o2 hr (.str _)⟩
      · exact False.elim o2
    | str x => exact SkE.call_str_str pins s σ H _ us Q I r ⟨x, rfl, OutG.at out hr (.str _)⟩
    | _ => exact False.elim out
theorem F_repr : CallR X (.builtin "repr") (rF X.K G .repr) := by
  intro pins s σ H ys us Q I r h
  obtain ⟨ρ, A, vs, E, hr, h1, out⟩ := h
  match vs, h1, out with
  | [], _, out => exact False.elim out
  | v :: _ :: _, _, out => exact False.elim (by cases v <;> exact out)
  | [v], h1, out =>
    obtain ⟨y, rfl, hv⟩ := args1 h1 rfl
    cases hv with
    | int i =>
      have o2 : Out X.K G ρ H E Q (if i.natAbs.log2 < 1920 then .ok (.str (toString i)) A else .stuck) := out
      split at o2
      · rename_i hl
        exact SkE.call_repr_int pins s σ H _ us Q I r ⟨i, rfl, hl, OutG.at o2 hr (.str _)⟩
      · exact False.elim o2
    | _ => exact False.elim out
theorem F_divmod : CallR X (.builtin "divmod") (rF X.K G .divmod) := by
  intro pins s σ H ys us Q I r h
  obtain ⟨ρ, A, vs, E, hr, h1, out⟩ := h
  match vs, h1, out with
  | [], _, out => exact False.elim out
  | [v], _, out => exact False.elim (by cases v <;> exact out)
  | v :: w :: _ :: _, _, out => exact False.elim (by cases v <;> cases w <;> exact out)
  | [v, w], h1, out =>
    obtain ⟨y, z, rfl, hv, hw⟩ := args2 h1 rfl
    cases hv with
    | int i => cases hw with
      | int j =>
        have o2 : Out X.K G ρ H E Q (if 0 < j ∧ j.natAbs.log2 < 9000 then .ok (.tup [.int (i / j), .int (i % j)]) A else .stuck) := out
        split at o2
        · rename_i hl
          exact call_divmodW pins s σ H _ us Q I r ⟨i, j, rfl, ⟨hl.1, PyProof.noPylong_of_log2 hl.2⟩, fun p hp => Out.newT o2 hr (.cons (.int _) (.cons (.int _) .nil)) hp⟩
        · exact False.elim o2
      | _ => exact False.elim out
    | _ => cases w <;> exact False.elim out
theorem F_list : CallR X (.type "list") (rF X.K G .list) := by
  intro pins s σ H ys us Q I r h
  obtain ⟨ρ, A, vs, E, hr, h1, out⟩ := h
  match vs, h1, out with
  | [], _, out => exact False.elim out
  | v :: _ :: _, _, out => exact False.elim out
  | [v], h1, out =>
    obtain ⟨y, rfl, hv⟩ := args1 h1 rfl
    obtain ⟨a, vs, Vs, rfl, k1, k2, _, o3⟩ := itemsR (f := fun vs => new A (.lst vs)) hr hv out
    exact call_list_of pins s σ H _ us Q I r ⟨a, Vs, rfl, k1, fun l hl => Out.newL o3 hr k2 hl⟩
theorem F_tuple : CallR X (.type "tuple") (rF X.K G .tuple) := by
  intro pins s σ H ys us Q I r h
  obtain ⟨ρ, A, vs, E, hr, h1, out⟩ := h
  match vs, h1, out with
  | [], _, out => exact False.elim out
  | v :: _ :: _, _, out => exact False.elim out
  | [v], h1, out =>
    obtain ⟨y, rfl, hv⟩ := args1 h1 rfl
    obtain ⟨a, vs, Vs, rfl, k1, k2, e, o3⟩ := itemsR (f := fun vs => .ok (.tup vs) A) hr hv out
    refine call_tuple_of pins s σ H _ us Q I r ⟨a, Vs, rfl, ?_⟩
    rcases k1 with k1 | k1
    · exact .inl ⟨k1, fun l hl => Out.newT o3 hr k2 hl⟩
    · exact .inr ⟨k1, OutG.at o3 hr (.tup k1 k2)⟩
/-! ### methods of lists -/
def rM (K : PySem.W.Frag) (G : Nat → Option V) (m : BM) : V → List V → Hp → VK → Prop := fun x ys H Q => ∃ ρ A v vs E, HRel K G ρ H A ∧ AVr K G ρ H v x ∧ AVrs K G ρ H vs ys ∧ Out K G ρ H E Q (bmA A m v vs)
theorem lstR {K : PySem.W.Frag} {ρ : List Addr} {H : Hp} {A : AH} {E : XK} {Q : VK} {n : Nat} {a : Addr} {f : List AV → R AV} (hr : HRel K G ρ H A) (k : ρ[n]? = some a)
    (out : Out K G ρ H E Q (match lstAt A n with | some vs => f vs | none => .stuck)) : ∃ vs Vs, H a = some (.lst Vs) ∧ AVrs K G ρ H vs Vs ∧ A[n]? = some (.lst vs) ∧ Out K G ρ H E Q (f vs) := by
  split at out
  · rename_i vs e
    obtain ⟨Vs, k1, k2⟩ := hr.lst e k
    exact ⟨vs, Vs, k1, k2, lstAt_iff.mp e, out⟩
  · exact False.elim out
theorem M_append : MtR X "list.append" (rM X.K G .append) := by
  intro pins s σ H x ys v us Q I rx r h
  obtain ⟨ρ, A, av, vs, E, hr, h0, h1, out⟩ := h
  cases h0 with
  | @ref n a k =>
    match vs, h1, out with
    | [], _, out => exact False.elim out
    | _ :: _ :: _, _, out => exact False.elim out
    | [w], h1, out =>
      obtain ⟨y, rfl, hw⟩ := args1 h1 rfl
      obtain ⟨ws, Ws, k1, k2, e, o2⟩ := lstR (f := fun vs => if vs.length < sizeLine then .ok .non (setL A n (vs ++ [w])) else .stuck) hr k out
      split at o2
      · rename_i hl
        exact mt_append pins s σ H _ _ v us Q I rx r ⟨a, Ws, y, rfl, rfl, k1, by rw [← k2.length]; exact hl, Out.setL o2 hr e rfl k (k2.append (.cons hw .nil)) .non⟩
      · exact False.elim o2
  | _ => exact False.elim out
theorem M_pop : MtR X "list.pop" (rM X.K G .pop) := by
  intro pins s σ H x ys v us Q I rx r h
  obtain ⟨ρ, A, av, vs, E, hr, h0, h1, out⟩ := h
  cases h0 with
  | @ref n a k =>
    match vs, h1, out with
    | _ :: _, _, out => exact False.elim out
    | [], h1, out =>
      cases h1
      obtain ⟨ws, Ws, k1, k2, e, o2⟩ := lstR (f := fun vs => match vs[vs.length - 1]? with | some v => .ok v (setL A n vs.dropLast) | none => .stuck) hr k out
      split at o2
      · rename_i w e2
        obtain ⟨y, k3, k4⟩ := k2.get e2
        rw [k2.length] at k3
        exact mt_pop pins s σ H _ _ v us Q I rx r ⟨a, Ws, y, rfl, rfl, k1, k3, Out.setL o2 hr e rfl k k2.dropLast k4⟩
      · exact False.elim o2
  | _ => exact False.elim out
theorem M_popAt : MtR X "list.pop" (rM X.K G .popAt) := by
  intro pins s σ H x ys v us Q I rx r h
  obtain ⟨ρ, A, av, vs, E, hr, h0, h1, out⟩ := h
  cases h0 with
  | @ref n a k =>
    match vs, h1, out with
    | [], _, out => exact False.elim out
    | w :: _ :: _, _, out => exact False.elim (by cases w <;> exact out)
    | [w], h1, out =>
      obtain ⟨y, rfl, hw⟩ := args1 h1 rfl
      cases hw with
      | int i =>
        obtain ⟨ws, Ws, k1, k2, e, o2⟩ := lstR (f := fun vs => match atI vs i with | some v => if -(2 ^ 63) ≤ i ∧ i < 2 ^ 63 then .ok v (setL A n (vs.eraseIdx ((seqIndex? i vs.length).getD 0))) else .stuck | none => .stuck) hr k out
        split at o2
        · rename_i w e2
          split at o2
          · rename_i hl
            obtain ⟨j, j1, j2, _, _, _⟩ := atI_get e2
            obtain ⟨y, k3, k4⟩ := k2.get j2
            rw [j1] at o2
            rw [k2.length] at j1
            exact mt_popAt pins s σ H _ _ v us Q I rx r ⟨a, Ws, i, j, y, rfl, rfl, k1, hl.1, hl.2, j1, k3, Out.setL o2 hr e rfl k (k2.erase j) k4⟩
          · exact False.elim o2
        · exact False.elim o2
      | _ => exact False.elim out
  | _ => cases vs with
    | nil => exact False.elim out
    | cons w ws => exact False.elim (by cases w <;> cases ws <;> exact out)
theorem M_reverse : MtR X "list.reverse" (rM X.K G .reverse) := by
  intro pins s σ H x ys v us Q I rx r h
  obtain ⟨ρ, A, av, vs, E, hr, h0, h1, out⟩ := h
  cases h0 with
  | @ref n a k =>
    match vs, h1, out with
    | _ :: _, _, out => exact False.elim out
    | [], h1, out =>
      cases h1
      obtain ⟨ws, Ws, k1, k2, e, o2⟩ := lstR (f := fun vs => .ok .non (setL A n vs.reverse)) hr k out
      exact mt_reverse pins s σ H _ _ v us Q I rx r ⟨a, Ws, rfl, rfl, k1, Out.setL o2 hr e rfl k k2.reverse .non⟩
  | _ => exact False.elim out
theorem M_clear : MtR X "list.clear" (rM X.K G .clear) := by
  intro pins s σ H x ys v us Q I rx r h
  obtain ⟨ρ, A, av, vs, E, hr, h0, h1, out⟩ := h
  cases h0 with
  | @ref n a k =>
    match vs, h1, out with
    | _ :: _, _, out => exact False.elim out
    | [], h1, out =>
      cases h1
      obtain ⟨ws, Ws, k1, k2, e, o2⟩ := lstR (f := fun vs => .ok .non (setL A n [])) hr k out
      exact mt_clear pins s σ H _ _ v us Q I rx r ⟨a, Ws, rfl, rfl, k1, Out.setL o2 hr e rfl k .nil .non⟩
  | _ => exact False.elim out
theorem rM_ty {K : PySem.W.Frag} {m : BM} {x : V} {ys : List V} {H : Hp} {Q : VK} (hm : m = .append ∨ m = .pop ∨ m = .popAt ∨ m = .reverse ∨ m = .clear) (h : rM K G m x ys H Q) : tyV K "list" x H := by
  obtain ⟨ρ, A, av, vs, E, hr, h0, h1, out⟩ := h
  cases h0 with
  | @ref n a k =>
    have key : ∃ ws, lstAt A n = some ws := by
      cases q : lstAt A n with
      | some ws => exact ⟨ws, rfl⟩
      | none =>
        exfalso
        rcases hm with rfl | rfl | rfl | rfl | rfl
        · rcases vs with _ | ⟨w, _ | ⟨_, _⟩⟩
          · exact out
          · simp only [bmA, q] at out; exact out
          · exact out
        · rcases vs with _ | ⟨w, ws⟩
          · simp only [bmA, q] at out; exact out
          · exact out
        · rcases vs with _ | ⟨w, _ | ⟨_, _⟩⟩
          · exact out
          · cases w with
            | int i => simp only [bmA, q] at out; exact out
            | _ => exact out
          · cases w <;> exact out
        · rcases vs with _ | ⟨w, ws⟩
          · simp only [bmA, q] at out; exact out
          · exact out
        · rcases vs with _ | ⟨w, ws⟩
          · simp only [bmA, q] at out; exact out
          · exact out
    obtain ⟨ws, e⟩ := key
    obtain ⟨Ws, k1, _⟩ := hr.lst e k
    exact .inl ⟨rfl, _, SqL.of k1⟩
  | _ =>
    exfalso
    rcases hm with rfl | rfl | rfl | rfl | rfl
    · exact out
    · exact out
    · rcases vs with _ | ⟨w, _ | ⟨_, _⟩⟩
      · exact out
      · cases w <;> exact out
      · cases w <;> exact out
    · exact out
    · exact out
/-! ### methods of texts -/
theorem allStrs_rel {K : PySem.W.Frag} {ρ : List Addr} {H : Hp} : ∀ {vs : List AV} {ys : List V} {ns : List Str}, AVrs K G ρ H vs ys → allStrs vs = some ns → ys = ns.map V.str
  | _, _, ns, .nil, e => by simp only [allStrs] at e; cases (Option.some.inj e); rfl
  | _, _, ns, .cons (vs := vs) h hs, e => by
    cases h with
    | str i =>
      have e' : (allStrs vs).map (i :: ·) = some ns := e
      cases q : allStrs vs with
      | none => rw [q] at e'; cases e'
      | some ms =>
        rw [q] at e'
        cases (Option.some.inj e')
        rw [allStrs_rel hs q]; rfl
    | _ => cases e
theorem strs_rel {K : PySem.W.Frag} {ρ : List Addr} {H : Hp} : ∀ ns : List Str, AVrs K G ρ H (ns.map AV.str) (ns.map V.str)
  | [] => .nil
  | x :: ns => .cons (.str x) (strs_rel ns)
theorem one_str {K : PySem.W.Frag} {ρ : List Addr} {H : Hp} {E : XK} {Q : VK} {vs : List AV} {ys : List V} {f : Str → R AV} {g : List AV → R AV} (h1 : AVrs K G ρ H vs ys) (out : Out K G ρ H E Q (g vs)) (hg : ∀ y, g [.str y] = f y) (hs : ∀ vs, (∀ y, vs ≠ [.str y]) → g vs = .stuck) :
    ∃ y, vs = [.str y] ∧ ys = [.str y] ∧ Out K G ρ H E Q (f y) := by
  by_cases hv : ∃ y, vs = [.str y]
  · obtain ⟨y, rfl⟩ := hv
    obtain ⟨z, rfl, hz⟩ := args1 h1 rfl
    cases hz
    exact ⟨y, rfl, rfl, by rw [← hg]; exact out⟩
  · rw [hs vs fun y e => hv ⟨y, e⟩] at out
    exact False.elim out
theorem bm_str {A : AH} {m : BM} {x : Str} {vs : List AV} (hm : m = .split ∨ m = .partition ∨ m = .startswith ∨ m = .find) (h : ∀ y, vs ≠ [.str y]) : bmA A m (.str x) vs = .stuck := by
  rcases hm with rfl | rfl | rfl | rfl <;> (rcases vs with _ | ⟨v, _ | ⟨w, ws⟩⟩ <;> first
    | rfl
    | (cases v <;> first
      | rfl
      | exact absurd rfl (h _)))
theorem M_split : MtR X "str.split" (rM X.K G .split) := by
  intro pins s σ H x ys v us Q I rx r h
  obtain ⟨ρ, A, av, vs, E, hr, h0, h1, out⟩ := h
  cases h0 with
  | str a =>
    obtain ⟨b, rfl, rfl, o2⟩ := one_str (f := fun y => if (y.length == 0) = false ∧ a.length + 2 ≤ sizeLine then new A (.lst ((Txt.split a y).map AV.str)) else .stuck) (g := bmA A .split (.str a)) h1 out (fun y => rfl) fun vs hv => bm_str (.inl rfl) hv
    split at o2
    · rename_i hl
      exact mt_split pins s σ H _ _ v us Q I rx r ⟨a, b, rfl, rfl, hl.1, hl.2, fun p hp => Out.newL o2 hr (strs_rel _) hp⟩
    · exact False.elim o2
  | _ => exact False.elim (by revert out; rcases vs with _ | ⟨w, _ | ⟨_, _⟩⟩ <;> first | exact id | (cases w <;> exact id))
theorem M_partition : MtR X "str.partition" (rM X.K G .partition) := by
  intro pins s σ H x ys v us Q I rx r h
  obtain ⟨ρ, A, av, vs, E, hr, h0, h1, out⟩ := h
  cases h0 with
  | str a =>
    obtain ⟨b, rfl, rfl, o2⟩ := one_str (f := fun y => if (y.length == 0) = false ∧ a.length ≤ sizeLine then .ok (.tup [.str (Txt.partition a y).1, .str (Txt.partition a y).2.1, .str (Txt.partition a y).2.2]) A else .stuck) (g := bmA A .partition (.str a)) h1 out (fun y => rfl) fun vs hv => bm_str (.inr (.inl rfl)) hv
    split at o2
    · rename_i hl
      exact mt_partition pins s σ H _ _ v us Q I rx r ⟨a, b, rfl, rfl, hl.1, hl.2, fun p hp => Out.newT o2 hr (.cons (.str _) (.cons (.str _) (.cons (.str _) .nil))) hp⟩
    · exact False.elim o2
  | _ => exact False.elim (by revert out; rcases vs with _ | ⟨w, _ | ⟨_, _⟩⟩ <;> first | exact id | (cases w <;> exact id))
theorem M_startswith : MtR X "str.startswith" (rM X.K G .startswith) := by
  intro pins s σ H x ys v us Q I rx r h
  obtain ⟨ρ, A, av, vs, E, hr, h0, h1, out⟩ := h
  cases h0 with
  | str a =>
    obtain ⟨b, rfl, rfl, o2⟩ := one_str (f := fun y => .ok (.bl (Txt.startswith a y)) A) (g := bmA A .startswith (.str a)) h1 out (fun y => rfl) fun vs hv => bm_str (.inr (.inr (.inl rfl))) hv
    exact mt_startswith pins s σ H _ _ v us Q I rx r ⟨a, b, rfl, rfl, OutG.at o2 hr (.bl _)⟩
  | _ => exact False.elim (by revert out; rcases vs with _ | ⟨w, _ | ⟨_, _⟩⟩ <;> first | exact id | (cases w <;> exact id))
theorem M_find : MtR X "str.find" (rM X.K G .find) := by
  intro pins s σ H x ys v us Q I rx r h
  obtain ⟨ρ, A, av, vs, E, hr, h0, h1, out⟩ := h
  cases h0 with
  | str a =>
    obtain ⟨b, rfl, rfl, o2⟩ := one_str (f := fun y => .ok (.int (Txt.find a y)) A) (g := bmA A .find (.str a)) h1 out (fun y => rfl) fun vs hv => bm_str (.inr (.inr (.inr rfl))) hv
    exact mt_find pins s σ H _ _ v us Q I rx r ⟨a, b, rfl, rfl, OutG.at o2 hr (.int _)⟩
  | _ => exact False.elim (by revert out; rcases vs with _ | ⟨w, _ | ⟨_, _⟩⟩ <;> first | exact id | (cases w <;> exact id))
theorem M_join : MtR X "str.join" (rM X.K G .join) := by
  intro pins s σ H x ys v us Q I rx r h
  obtain ⟨ρ, A, av, vs, E, hr, h0, h1, out⟩ := h
  cases h0 with
  | str a =>
    match vs, h1, out with
    | [], _, out => exact False.elim out
    | _ :: _ :: _, _, out => exact False.elim out
    | [w], h1, out =>
      obtain ⟨y, rfl, hw⟩ := args1 h1 rfl
      have o2 : Out X.K G ρ H E Q (match (itemsOf A w).bind allStrs with
        | some ys => if (ys.map (·.length)).sum + ys.length * a.length ≤ 16777216 then .ok (.str (Txt.join a ys)) A else .stuck
        | none => .stuck) := out
      split at o2
      · rename_i zs e
        cases q : itemsOf A w with
        | none => rw [q] at e; cases e
        | some ws =>
          rw [q] at e
          obtain ⟨p, Ws, rfl, k1, k2⟩ := seqD hr hw q
          have ez := allStrs_rel k2 (show allStrs ws = some zs from e)
          subst ez
          split at o2
          · rename_i hl
            exact mt_join pins s σ H _ _ v us Q I rx r ⟨a, p, zs, rfl, rfl, k1, hl, OutG.at o2 hr (.str _)⟩
          · exact False.elim o2
      · exact False.elim o2
  | _ => exact False.elim (by revert out; rcases vs with _ | ⟨w, _ | ⟨_, _⟩⟩ <;> first | exact id | (cases w <;> exact id))
/-! ### slices -/
def rSlc (K : PySem.W.Frag) (G : Nat → Option V) : V → Option Int → Option Int → Hp → VK → Prop := fun x lo hi H Q => ∃ ρ A v E, HRel K G ρ H A ∧ AVr K G ρ H v x ∧ Out K G ρ H E Q (sliceA A lo hi v)
theorem AVrs.cut {K : PySem.W.Frag} {ρ : List Addr} {H : Hp} {vs : List AV} {Vs : List V} (h : AVrs K G ρ H vs Vs) (lo hi : Option Int) : AVrs K G ρ H (cutL vs lo hi) (cutV Vs lo hi) := by
  unfold cutL cutV
  rw [h.length]
  exact (h.drop _).take _
theorem cut_whole {vs : List AV} {lo hi : Option Int} (h : HT.sIx vs.length 0 lo = 0 ∧ HT.sIx vs.length vs.length hi = vs.length) : cutL vs lo hi = vs := by
  unfold cutL
  rw [h.1, h.2]
  simp
theorem sl_ok : SlR X (rSlc X.K G) := by
  intro pins s σ H x v vl vu lo hi sl Q I rx hs pl pu h
  obtain ⟨ρ, A, av, E, hr, h1, out⟩ := h
  cases h1 with
  | str a =>
    have o2 : Out X.K G ρ H E Q (if a.length ≤ sizeLine then .ok (.str (cutS a lo hi)) A else .stuck) := out
    split at o2
    · rename_i hl
      exact sl_str pins s σ H _ v vl vu lo hi sl Q I rx hs pl pu ⟨a, rfl, hl, OutG.at o2 hr (.str _)⟩
    · exact False.elim o2
  | @tup a Vs vs k1 k2 =>
    have o2 : Out X.K G ρ H E Q (.ok (.tup (cutL vs lo hi)) A) := out
    refine sl_tupA pins s σ H _ v vl vu lo hi sl Q I rx hs pl pu ⟨a, Vs, rfl, k1, fun hw => ?_, fun _ p hp => Out.newT o2 hr (k2.cut lo hi) hp⟩
    rw [cut_whole (by rw [k2.length]; exact hw)] at o2
    exact OutG.at o2 hr (.tup k1 k2)
  | @ref n a k =>
    have o2 : Out X.K G ρ H E Q (match A[n]?.bind AO.items? with | some vs => new A (.lst (cutL vs lo hi)) | none => .stuck) := out
    split at o2
    · rename_i vs e
      obtain ⟨Vs, k1, k2⟩ := hr.seq e k
      exact sl_list pins s σ H _ v vl vu lo hi sl Q I rx hs pl pu ⟨a, Vs, rfl, k1, fun p hp => Out.newL o2 hr (k2.cut lo hi) hp⟩
    · exact False.elim o2
  | _ => exact False.elim out
/-! ### isinstance -/
theorem kit_any {K : PySem.W.Frag} {ρ : List Addr} {H : Hp} {A : AH} (hr : HRel K G ρ H A) {v : AV} {x : V} {t : TyN} {b : Bool} (h : AVr K G ρ H v x) (e : isiA A v t = some b) : ∃ tv : Value, TyX K H x tv ∧ PySem.W.kitOne K tv (.type t.nm) = some b := by
  cases h with
  | non =>
    have e' : false = b := Option.some.inj e
    subst e'
    exact ⟨_, .base .non, by cases t <;> exact kit_ty (by decide +kernel)⟩
  | int i =>
    refine ⟨_, .base (.int i), ?_⟩
    have e' : decide (t = .int) = b := Option.some.inj e
    subst e'
    cases t <;> exact kit_ty (by decide +kernel)
  | bl i =>
    refine ⟨_, .base (.bl i), ?_⟩
    have e' : (decide (t = .int) || decide (t = .bool)) = b := Option.some.inj e
    subst e'
    cases t <;> exact kit_ty (by decide +kernel)
  | str i =>
    refine ⟨_, .base (.str i), ?_⟩
    have e' : decide (t = .str) = b := Option.some.inj e
    subst e'
    cases t <;> exact kit_ty (by decide +kernel)
  | @tup a Vs vs k1 k2 =>
    have e' : decide (t = .tuple) = b := Option.some.inj e
    subst e'
    have fin : PySem.W.kitOne K (.type "tuple") (.type t.nm) = some (decide (t = .tuple)) := by cases t <;> exact kit_ty (by decide +kernel)
    rcases k1 with (k1 | ⟨o, k1⟩) | ⟨o, its, n, k1, kc, _⟩
    · exact ⟨_, .base (.tup k1), fin⟩
    · exact ⟨_, .fTuple k1, fin⟩
    · exact ⟨_, .kTuple k1 kc, fin⟩
  | @ref n a k =>
    have e' : (match A[n]?.bind AO.items? with | some _ => some (decide (t = .list)) | none => none) = some b := e
    cases q : A[n]?.bind AO.items? with
    | none => rw [q] at e'; cases e'
    | some vs =>
      rw [q] at e'
      cases (Option.some.inj e')
      have fin : PySem.W.kitOne K (.type "list") (.type t.nm) = some (decide (t = .list)) := by cases t <;> exact kit_ty (by decide +kernel)
      obtain ⟨Vs, k1, _⟩ := hr.seq q k
      rcases k1 with (k1 | ⟨o, k1⟩) | ⟨o, its, n, k1, kc, _⟩
      · exact ⟨_, .base (.lst k1), fin⟩
      · exact ⟨_, .base (.frz k1), fin⟩
      · exact ⟨_, .kList k1 kc, fin⟩
  | fn _ => cases e
/-- isinstance(x, T) -/
def rIsA (K : PySem.W.Frag) (G : Nat → Option V) (t : TyN) : List V → Hp → VK → Prop := fun ys H Q => ∃ ρ A v y b, ys = [y, .ty t.nm] ∧ HRel K G ρ H A ∧ AVr K G ρ H v y ∧ isiA A v t = some b ∧ Q (.bl b) H
theorem F_isi (t : TyN) : CallR X (.builtin "isinstance") (rIsA X.K G t) := by
  intro pins s σ H ys us Q I r h
  obtain ⟨ρ, A, v, y, b, rfl, hr, h1, e, q⟩ := h
  obtain ⟨tv, k1, k2⟩ := kit_any hr h1 e
  exact call_isi pins s σ H _ us Q I r ⟨y, .ty t.nm, tv, .type t.nm, b, rfl, .ty _, k1, k2, q⟩
end
end MP

set_option maxRecDepth 100000
set_option autoImplicit false
set_option maxHeartbeats 1000000
/-! MPH: rules over the hand layer: methods and instances whose raising is told at the slots, exception classes' __init__, except clauses with names. -/
namespace MP
open PySem PySem.Spec PyProof.Rows L2

section
variable {env : Env}
/-- o.m(..) as a tree -/
theorem meth_ht {o : Expr} {m : Str} {apos pos : Pos} {args : List Expr} {kws : List Keyword} (hbase : attributeBase o m env (eval o env) = eval o env) (hfew : methodCallForm (args.length + kws.length) (backTo pos (starEach args env)) (backToKw pos (keywordEach kws env)) = true) (hline : (apos.endLine == pos.line) = true) :
    eval (.Call (.Attribute o m apos) args kws pos) env = (do
      let ov ← eval o env
      standAt apos.atName
      let (f, first) ← holding [ov] (getMethod ov m (do return (← importBound o env).getD true))
      callWith pos f first (backTo pos (starEach args env)) (backToKw pos (keywordEach kws env))) := by
  have hpos : methodCallPos true o env apos pos = pure pos := by unfold methodCallPos; simp [hline]
  rw [arm_eval_Call, hbase]
  unfold methodCall
  rw [hfew, hpos]
  rfl
end
section
variable {X : Cx} {CX : CXT} {k n : Nat} {f C : Addr} {fd : FuncData} {ps ks : List Str} {sp : Sp} {E : L2.St → XK} {x m : Str} {p pos apos : Pos} {e o : Expr} {es : List Expr} {kws : List Keyword} {ta : TE} {t tk : TA} {g : List Value → List Value → List Value} {gV : List V → List V → List V}
def tMethS (C : Addr) (m : Str) (sp : Sp) (E : L2.St → XK) (ta : TE) (t : TA) : TE := fun σ H Q => ta σ H fun x H1 => ∃ a dx fs, x = .ref a ∧ H1 a = some (.ins C dx fs) ∧ fs.lookup m = none ∧ t σ H1 fun vs H2 => sp (x :: vs) H2 Q (E σ)
theorem pe_methS (he : PE X o ta) (c : Cls X.K C) (hm : Meth X.K C m f) (F : FnOk X.prog X.w X.K X.mg X.base CX k f fd ps sp) (hr : Room k X.A) (hb : Binds X.K fd ps []) (hx : ∀ σ, PassesAt CX X σ (E σ)) (ha : PA X (e :: es) t)
    (hst : starEach (e :: es) X.env = (false, eval e X.env) :: starEach es X.env) (hpl : (backTo pos (starEach es X.env)).any (·.1) = false)
    (hbase : attributeBase o m X.env (eval o X.env) = eval o X.env) (hfew : methodCallForm ((e :: es).length + ([] : List Keyword).length) (backTo pos (starEach (e :: es) X.env)) (backToKw pos (keywordEach [] X.env)) = true) (hline : (apos.endLine == pos.line) = true) :
    PE X (.Call (.Attribute o m apos) (e :: es) [] pos) (tMethS C m sp E ta t) := by
  refine ⟨fun pins s σ H Q I h => ?_⟩
  refine PySem.W.methodCall_KW (thn (he.run pins s σ H _ I h) fun u s1 ⟨x, H1, I1, rx, a, dx, fs, ex, ea, l, q⟩ => ?_) (meth_ht hbase hfew hline)
  subst ex
  obtain rfl : u = Value.ref a := rx
  refine getmeth_ok I1 ea c hm l ?_
  refine PySem.W.callWith_K (first := [.ref a]) (h₀ := X.base) I.ok.mod.kin hm.kp (thn (ha.run pos pins s1 σ H1 _ I1 q) fun us s2 ⟨vs, H2, I2, r, q2⟩ => ⟨I2.kIn, ?_⟩) hst hpl
  exact run_fnS (us := .ref a :: us) (vs := .ref a :: vs) F hr hb (hx σ) I2 (.cons rfl r) q2
theorem pe_methS0 (he : PE X o ta) (c : Cls X.K C) (hm : Meth X.K C m f) (F : FnOk X.prog X.w X.K X.mg X.base CX k f fd ps sp) (hr : Room k X.A) (hb : Binds X.K fd ps []) (hx : ∀ σ, PassesAt CX X σ (E σ))
    (hbase : attributeBase o m X.env (eval o X.env) = eval o X.env) (hline : (apos.endLine == pos.line) = true) :
    PE X (.Call (.Attribute o m apos) [] [] pos) (tMethS C m sp E ta tNil) := by
  refine ⟨fun pins s σ H Q I h => ?_⟩
  refine PySem.W.methodCall_KW (thn (he.run pins s σ H _ I h) fun u s1 ⟨x, H1, I1, rx, a, dx, fs, ex, ea, l, q⟩ => ?_) (meth_ht hbase rfl hline)
  subst ex
  obtain rfl : u = Value.ref a := rx
  refine getmeth_ok I1 ea c hm l ?_
  exact PySem.W.callWith_K0 (first := [.ref a]) I1.kIn hm.kp (run_fnS (us := [.ref a]) (vs := [.ref a]) F hr hb (hx σ) I1 (.cons rfl .nil) q)
/-- C(e, ..) -/
def tMakeS (C : Addr) (sp : Sp) (E : L2.St → XK) (t : TA) : TE := fun σ H Q => t σ H fun vs H1 => ∀ x dx, H1 x = none → H1 dx = none → dx ≠ x → sp (.ref x :: vs) (upd (upd H1 dx (.own x)) x (.ins C dx [])) (fun v H2 => v = .non ∧ Q (.ref x) H2) (E σ)
theorem run_makeS {pins : List (Addr × Obj)} {σ : L2.St} {H : Hp} {s : Shared} {Q : VK} {us : List Value} {vs : List V} (M : Mk X.K C f) (F : FnOk X.prog X.w X.K X.mg X.base CX k f fd ps sp) (hr : Room (k + 1) X.A) (hb : Binds X.K fd ps [])
    (hx : PassesAt CX X σ (E σ)) (I : Inv X pins σ H s) (r : Vals vs us)
    (h : ∀ x dx, H x = none → H dx = none → dx ≠ x → sp (.ref x :: vs) (upd (upd H dx (.own x)) x (.ins C dx [])) (fun v H2 => v = .non ∧ Q (.ref x) H2) (E σ)) :
    wpAny (model X.prog X.w) X.A (call (.ref C) us) (EP X pins σ Q) X.xe s := by
  have hq := h (s.heap.objs.size + 1) s.heap.objs.size (I.hok.fresh (Nat.le_succ _)) (I.hok.fresh (Nat.le_refl _)) (Nat.ne_of_lt (Nat.lt_succ_self _))
  have I2 := Inv.made (C := C) I
  have r2 : Vals (V.ref (s.heap.objs.size + 1) :: vs) (Value.ref (s.heap.objs.size + 1) :: us) := .cons rfl r
  have hl : (Value.ref (s.heap.objs.size + 1) :: us).length = ps.length := by
    have e := r2.length
    rw [F.len _ _ _ _ hq] at e
    exact e.symm
  have b := hb _ (Value.ref (s.heap.objs.size + 1) :: us) I2.kIn (by rw [List.append_nil]; exact hl)
  rw [List.append_nil] at b
  refine wpAny_call (make_map (f := f) I.kIn M.makes M.init (beq_iff_eq.mp M.fn) (codeAny_mono (F.run _ X.stack _ _ ⟨Value.ref (s.heap.objs.size + 1) :: us, []⟩ (Value.ref (s.heap.objs.size + 1) :: us) _ _ (E σ) (hr.make C us [])
    (I2.env0.make C us []) b r2 hq) fun r s' hq' => ?_))
  cases r with
  | error e => exact hx pins _ _ e s' I2 hq'
  | ok fl =>
    cases fl with
    | ret u =>
      obtain ⟨v, H', I3, rv, ev, q3⟩ := I2.after hq'
      subst ev
      exact ⟨rv, ⟨V.ref (s.heap.objs.size + 1), H', I3, rfl, q3⟩⟩
    | next => exact False.elim hq'
    | brk => exact False.elim hq'
    | cont => exact False.elim hq'
theorem pe_makeS (M : Mk X.K C f) (F : FnOk X.prog X.w X.K X.mg X.base CX k f fd ps sp) (hr : Room (k + 1) X.A) (hg : Gl X x) (hm : X.mg x = some (.ref C)) (hb : Binds X.K fd ps []) (hx : ∀ σ, PassesAt CX X σ (E σ))
    (ha : PA X (e :: es) t) (hdb : (x == ("__debug__" : Str)) = false) (he : starEach (e :: es) X.env = (false, eval e X.env) :: starEach es X.env) (hpl : (backTo pos (starEach es X.env)).any (·.1) = false) :
    PE X (.Call (.Name x p) (e :: es) [] pos) (tMakeS C sp E t) := by
  refine ⟨fun pins s σ H Q I h => ?_⟩
  refine wpAny_Call_Name_kw (ld_glob I hg hm ?_ hdb)
  refine PySem.W.callWith_K (h₀ := X.base) I.ok.mod.kin M.kp (thn (ha.run pos pins s σ H _ I h) fun us s1 ⟨vs, H1, I1, r, q⟩ => ⟨I1.kIn, ?_⟩) he hpl
  exact run_makeS M F hr hb (hx σ) I1 r q
/-- C(e, .., k = v, ..) -/
def tMakeNS (C : Addr) (n m : Nat) (sp : Sp) (gV : List V → List V → List V) (E : L2.St → XK) (t tk : TA) : TE := fun σ H Q => t σ H fun vs H1 => tk σ H1 fun zs H2 => vs.length = n ∧ zs.length = m ∧
  ∀ x dx, H2 x = none → H2 dx = none → dx ≠ x → sp (gV (.ref x :: vs) zs) (upd (upd H2 dx (.own x)) x (.ins C dx [])) (fun v H3 => v = .non ∧ Q (.ref x) H3) (E σ)
theorem run_makeNS {pins : List (Addr × Obj)} {σ : L2.St} {H : Hp} {s : Shared} {Q : VK} {us ws : List Value} {vs zs : List V} (M : Mk X.K C f) (F : FnOk X.prog X.w X.K X.mg X.base CX k f fd ps sp) (hr : Room (k + 1) X.A) (hb : KBn X.K fd ps (n + 1) ks g gV)
    (hx : PassesAt CX X σ (E σ)) (I : Inv X pins σ H s) (r : Vals vs us) (rz : Vals zs ws) (l1 : vs.length = n) (l2 : zs.length = ks.length)
    (h : ∀ x dx, H x = none → H dx = none → dx ≠ x → sp (gV (.ref x :: vs) zs) (upd (upd H dx (.own x)) x (.ins C dx [])) (fun v H2 => v = .non ∧ Q (.ref x) H2) (E σ)) :
    wpAny (model X.prog X.w) X.A (call (.ref C) us (ks.zip ws)) (EP X pins σ Q) X.xe s := by
  have hq := h (s.heap.objs.size + 1) s.heap.objs.size (I.hok.fresh (Nat.le_succ _)) (I.hok.fresh (Nat.le_refl _)) (Nat.ne_of_lt (Nat.lt_succ_self _))
  have I2 := Inv.made (C := C) I
  have r1 : Vals (V.ref (s.heap.objs.size + 1) :: vs) (Value.ref (s.heap.objs.size + 1) :: us) := .cons rfl r
  have r2 := hb.rel r1 rz
  have e1 : (Value.ref (s.heap.objs.size + 1) :: us).length = n + 1 := r1.length.symm.trans (congrArg Nat.succ l1)
  have e2 : ws.length = ks.length := rz.length.symm.trans l2
  refine wpAny_call (make_map (f := f) I.kIn M.makes M.init (beq_iff_eq.mp M.fn) (codeAny_mono (F.run _ X.stack _ _ ⟨Value.ref (s.heap.objs.size + 1) :: us, ks.zip ws⟩ (g (Value.ref (s.heap.objs.size + 1) :: us) ws) _ _ (E σ) (hr.make C us (ks.zip ws))
    (I2.env0.make C us (ks.zip ws)) (hb.to _ (Value.ref (s.heap.objs.size + 1) :: us) ws I2.kIn e1 e2) r2 hq) fun r s' hq' => ?_))
  cases r with
  | error e => exact hx pins _ _ e s' I2 hq'
  | ok fl =>
    cases fl with
    | ret u =>
      obtain ⟨v, H', I3, rv, ev, q3⟩ := I2.after hq'
      subst ev
      exact ⟨rv, ⟨V.ref (s.heap.objs.size + 1), H', I3, rfl, q3⟩⟩
    | next => exact False.elim hq'
    | brk => exact False.elim hq'
    | cont => exact False.elim hq'
theorem pe_makeNS (M : Mk X.K C f) (F : FnOk X.prog X.w X.K X.mg X.base CX k f fd ps sp) (hr : Room (k + 1) X.A) (hg : Gl X x) (hm : X.mg x = some (.ref C)) (hb : KBn X.K fd ps (n + 1) ks g gV) (hx : ∀ σ, PassesAt CX X σ (E σ))
    (ha : PA X (e :: es) t) (hkw : PK X kws tk) (hall : (backToKw pos (keywordEach kws X.env)).all (·.1.isSome) = true) (hks : (backToKw pos (keywordEach kws X.env)).filterMap (·.1) = ks)
    (hdb : (x == ("__debug__" : Str)) = false) (he : starEach (e :: es) X.env = (false, eval e X.env) :: starEach es X.env)
    (hpl : ((backTo pos (starEach (e :: es) X.env)).any (·.1) || (backToKw pos (keywordEach kws X.env)).any (·.1.isNone)) = false) :
    PE X (.Call (.Name x p) (e :: es) kws pos) (tMakeNS C n ks.length sp gV E t tk) := by
  refine ⟨fun pins s σ H Q I h => ?_⟩
  refine wpAny_Call_Name_kw (ld_glob I hg hm ?_ hdb)
  refine PySem.W.callWith_KW (h₀ := X.base) I.ok.mod.kin M.kp hall (thn (ha.run pos pins s σ H _ I h) fun us s1 ⟨vs, H1, I1, r, q⟩ => ?_) hpl he
  refine thn (hkw.run pos pins s1 σ H1 _ I1 q) fun ws s2 ⟨zs, H2, I2, rz, l1, l2, q2⟩ => ⟨I2.kIn, ?_⟩
  rw [hks]
  exact run_makeNS M F hr hb (hx σ) I2 r rz l1 l2 q2
/-! ### an exception class's __init__, called through the class -/
structure CIni (K : PySem.W.Frag) (C f : Addr) : Prop where
  rd : PySem.W.readsIn K C (.type "type") = true
  ga : PySem.W.specialIn K (.ref C) "__getattribute__" = some (some (.builtin "type.__getattribute__"))
  at_ : PySem.W.findCls K (.ref C) (.type "type") "__init__" = some (.val (.ref f))
  hd : PySem.W.handedIn (.ref f) = true
  kp : PySem.W.keepIn K (.ref f) = true
theorem pe_cini {pl : Sem Bool} {sp : Sp} {E : XK} (c : CIni X.K C f) (F : FnOk X.prog X.w X.K X.mg X.base CX k f fd ps sp) (hr : Room k X.A) (hg : Gl X x) (hm : X.mg x = some (.ref C)) (hb : Binds X.K fd ps []) (hx : Passes CX X E) (ha : PA X (e :: es) t) (hdb : (x == ("__debug__" : Str)) = false)
    (hst : starEach (e :: es) X.env = (false, eval e X.env) :: starEach es X.env) (hpl : (backTo pos (starEach es X.env)).any (·.1) = false)
    (hc : eval (.Call (.Attribute (.Name x p) "__init__" apos) (e :: es) [] pos) X.env = (do
      let ov ← eval (.Name x p) X.env
      standAt apos.atName
      let (f, first) ← holding [ov] (getMethod ov "__init__" pl)
      callWith pos f first (backTo pos (starEach (e :: es) X.env)) (backToKw pos (keywordEach [] X.env)))) :
    PE X (.Call (.Attribute (.Name x p) "__init__" apos) (e :: es) [] pos) (tCall sp [] E t) := by
  refine ⟨fun pins s σ H Q I h => ?_⟩
  refine PySem.W.methodCall_KW (ld_glob I hg hm ?_ hdb) hc
  refine PySem.W.method_cls (I.kIn) c.ga (PySem.W.cls_value I.kIn c.rd c.at_ c.hd ?_)
  refine PySem.W.callWith_K (first := []) (h₀ := X.base) I.ok.mod.kin c.kp (thn (ha.run pos pins _ σ H _ (I.tok _) h) fun us s2 ⟨vs, H2, I2, r, q2⟩ => ⟨I2.kIn, ?_⟩) hst hpl
  exact run_fn F hr hb .nil hx I2 r q2
end
end MP

set_option maxRecDepth 100000
set_option autoImplicit false
set_option maxHeartbeats 1000000
/-! MP5: the evaluator's readings; expressions. -/
namespace MP
open PySem PySem.Spec PyProof.Rows L2

/-! ### shapes, back -/
section
variable {e : Expr}
theorem nmOf_inv {x : Str} (h : nmOf e = some x) : ∃ p, e = .Name x p := by
  cases e with
  | Name y p => cases (Option.some.inj h); exact ⟨p, rfl⟩
  | _ => cases h
theorem cstOf_inv {k : Const} (h : cstOf e = some k) : ∃ j p, e = .Constant k j p := by
  cases e with
  | Constant y j p => cases (Option.some.inj h); exact ⟨j, p, rfl⟩
  | _ => cases h
theorem binOf_inv {a b : Expr} {o : Operator} (h : binOf e = some (a, o, b)) : ∃ p, e = .BinOp a o b p := by
  cases e with
  | BinOp x o y p => cases (Option.some.inj h); exact ⟨p, rfl⟩
  | _ => cases h
theorem unOf_inv {a : Expr} {o : UnaryOp} (h : unOf e = some (o, a)) : ∃ p, e = .UnaryOp o a p := by
  cases e with
  | UnaryOp o y p => cases (Option.some.inj h); exact ⟨p, rfl⟩
  | _ => cases h
theorem cmpOf_inv {a b : Expr} {o : CmpOp} (h : cmpOf e = some (a, o, b)) : ∃ p, e = .Compare a [o] [b] p := by
  cases e with
  | Compare x os ys p =>
    rcases os with _ | ⟨o1, _ | ⟨_, _⟩⟩
    · cases h
    · rcases ys with _ | ⟨y1, _ | ⟨_, _⟩⟩
      · cases h
      · cases (Option.some.inj h); exact ⟨p, rfl⟩
      · cases h
    · rcases ys with _ | ⟨y1, _ | ⟨_, _⟩⟩ <;> rename_i t <;> cases t <;> cases h
  | _ => cases h
theorem cmp2Of_inv {a b d : Expr} {o o2 : CmpOp} (h : cmp2Of e = some (a, o, b, o2, d)) : ∃ p, e = .Compare a [o, o2] [b, d] p := by
  cases e with
  | Compare x os ys p =>
    rcases os with _ | ⟨o1, _ | ⟨o2, _ | ⟨_, _⟩⟩⟩
    · cases h
    · cases h
    · rcases ys with _ | ⟨y1, _ | ⟨y2, _ | ⟨_, _⟩⟩⟩
      · cases h
      · cases h
      · cases (Option.some.inj h); exact ⟨p, rfl⟩
      · cases h
    · cases h
  | _ => cases h
theorem boolOf_inv {es : List Expr} {o : BoolOp} (h : boolOf e = some (o, es)) : ∃ p, e = .BoolOp o es p := by
  cases e with
  | BoolOp o y p => cases (Option.some.inj h); exact ⟨p, rfl⟩
  | _ => cases h
theorem ifeOf_inv {a b d : Expr} (h : ifeOf e = some (d, a, b)) : ∃ p, e = .IfExp d a b p := by
  cases e with
  | IfExp x y z p => cases (Option.some.inj h); exact ⟨p, rfl⟩
  | _ => cases h
theorem tupOf_inv {es : List Expr} (h : tupOf e = some es) : ∃ k p, e = .Tuple es k p := by
  cases e with
  | Tuple x k p => cases (Option.some.inj h); exact ⟨k, p, rfl⟩
  | _ => cases h
theorem lstOf_inv {es : List Expr} (h : lstOf e = some es) : ∃ p, e = .List es p := by
  cases e with
  | List x p => cases (Option.some.inj h); exact ⟨p, rfl⟩
  | _ => cases h
theorem subOf_inv {a b : Expr} (h : subOf e = some (a, b)) : ∃ p, e = .Subscript a b p := by
  cases e with
  | Subscript x y p => cases (Option.some.inj h); exact ⟨p, rfl⟩
  | _ => cases h
theorem callOf_inv {es : List Expr} {x : Str} (h : callOf e = some (x, es)) : ∃ q p, e = .Call (.Name x q) es [] p := by
  cases e with
  | Call f es' ks p =>
    cases f with
    | Name y q =>
      cases ks with
      | nil => cases (Option.some.inj h); exact ⟨q, p, rfl⟩
      | cons _ _ => cases h
    | _ => cases h
  | _ => cases h
theorem methOf_inv {o : Expr} {es : List Expr} {x : Str} {l1 l2 : Nat} (h : methOf e = some (o, x, es, l1, l2)) : ∃ q p, e = .Call (.Attribute o x q) es [] p ∧ q.endLine = l1 ∧ p.line = l2 := by
  cases e with
  | Call f es' ks p =>
    cases f with
    | Attribute o' y q =>
      cases ks with
      | nil => cases (Option.some.inj h); exact ⟨q, p, rfl, rfl, rfl⟩
      | cons _ _ => cases h
    | _ => cases h
  | _ => cases h
theorem compOf_inv {f te ie : Expr} {ifs : List Expr} {sc : Scope} (h : compOf e = some (f, te, ie, ifs, sc)) : ∃ p, e = .ListComp f [⟨te, ie, ifs, 0⟩] sc p := by
  cases e with
  | ListComp f' gs sc' p =>
    rcases gs with _ | ⟨⟨t1, i1, f1, n⟩, _ | ⟨_, _⟩⟩
    · cases h
    · by_cases hn : n = 0
      · subst hn
        cases (Option.some.inj h); exact ⟨p, rfl⟩
      · exfalso
        unfold compOf at h
        split at h
        · rename_i heq
          simp only [Expr.ListComp.injEq, List.cons.injEq, Comprehension.mk.injEq] at heq
          exact hn heq.2.1.1.2.2.2
        · cases h
    · exfalso
      unfold compOf at h
      split at h
      · rename_i heq
        simp at heq
      · cases h
  | _ => cases h
end
section
variable {e : Expr}
theorem attOf_inv {a : Expr} {f : Str} (h : attOf e = some (a, f)) : ∃ p, e = .Attribute a f p := by
  cases e with
  | Attribute x y p => cases (Option.some.inj h); exact ⟨p, rfl⟩
  | _ => cases h
theorem slcOf_inv {a : Expr} {l u : Option Expr} (h : slcOf e = some (a, l, u)) : ∃ p2 p, e = .Subscript a (.Slice l u none p2) p := by
  cases e with
  | Subscript x y p => cases y with
    | Slice l' u' st p2 => cases st with
      | none => cases (Option.some.inj h); exact ⟨p2, p, rfl⟩
      | some _ => cases h
    | _ => cases h
  | _ => cases h
theorem revOf_inv {a : Expr} (h : revOf e = some a) : ∃ k p1 p2 p3 p, e = .Subscript a (.Slice none none (some (.UnaryOp .USub (.Constant (.int 1) k p1) p2)) p3) p := by
  unfold revOf at h
  split at h
  · cases (Option.some.inj h); exact ⟨_, _, _, _, _, rfl⟩
  · cases h
theorem fmtOf_inv {a : Expr} (h : fmtOf e = some a) : ∃ p, e = .FormattedValue a (-1) none p := by
  unfold fmtOf at h
  split at h
  · cases (Option.some.inj h); exact ⟨_, rfl⟩
  · cases h
theorem jsOf_inv {es : List Expr} (h : jsOf e = some es) : ∃ p, e = .JoinedStr es p := by
  cases e with
  | JoinedStr x p => cases (Option.some.inj h); exact ⟨p, rfl⟩
  | _ => cases h
end
theorem raiseSt_inv {st : Stmt} {x : Str} {fs : List Expr} (h : raiseSt st = some (x, fs)) : ∃ p1 p2 p, st = .Raise (some (.Call (.Name x p1) fs [] p2)) none p := by
  unfold raiseSt at h
  split at h
  · cases (Option.some.inj h); exact ⟨_, _, _, rfl⟩
  · cases h
theorem trySt_inv {st : Stmt} {b : List Stmt} {hs : List ExceptHandler} (h : trySt st = some (b, hs)) : ∃ p, st = .Try b hs [] [] p := by
  unfold trySt at h
  split at h
  · cases (Option.some.inj h); exact ⟨_, rfl⟩
  · cases h
theorem hdOf_inv {h : ExceptHandler} {x : Str} {n : Option Str} {b : List Stmt} (e : hdOf h = some (x, n, b)) : ∃ p1 p, h = .ExceptHandler (some (.Name x p1)) n b p := by
  unfold hdOf at e
  split at e
  · cases (Option.some.inj e); exact ⟨_, _, rfl⟩
  · cases e
/-- what the language's expressions are not -/
def okHead : Expr → Bool
  | .Starred _ _ => false
  | .Slice _ _ _ _ => false
  | .Set _ _ _ => false
  | .SetComp _ _ _ _ => false
  | .DictComp _ _ _ _ _ => false
  | .NamedExpr _ _ _ => false
  | _ => true
def isComp : Expr → Bool
  | .ListComp _ _ _ _ => true
  | _ => false
section
variable {e : Expr} {env : Env} {es : List Expr}
theorem head_star (h : okHead e = true) : starEach (e :: es) env = (false, eval e env) :: starEach es env := by
  cases e <;> first | rfl | exact absurd h Bool.false_ne_true
theorem head_fold (h : okHead e = true) (x : Value) : foldedSetIterable e env x = pure x := by
  cases e <;> first | rfl | exact absurd h Bool.false_ne_true
theorem head_ix (h : okHead e = true) : PlainIx e := fun o i => by
  cases e <;> first | rfl | exact absurd h Bool.false_ne_true
theorem head_mark (h : okHead e = true) (op : CmpOp) : behindInMarks op e = false := by
  cases e <;> first | rfl | exact absurd h Bool.false_ne_true
theorem head_swap (h : okHead e = true) (hc : isComp e = false) (t : Option Expr) (l : Nat) : swapsWith e t l env = pure false := by
  cases e <;> first | rfl | exact absurd h Bool.false_ne_true | exact absurd hc.symm Bool.false_ne_true
end
/-- heads -/
def allHead (es : List Expr) : Bool := es.all okHead
theorem star_plain {env : Env} {pos : Pos} : ∀ {es : List Expr}, allHead es = true → (backTo pos (starEach es env)).any (·.1) = false
  | [], _ => rfl
  | e :: es, h => by
    have h' : (okHead e && allHead es) = true := h
    obtain ⟨h1, h2⟩ := Bool.and_eq_true_iff.mp h'
    rw [head_star h1]
    show (false || (backTo pos (starEach es env)).any (·.1)) = false
    rw [star_plain h2]; rfl
theorem star_few {env : Env} {pos : Pos} : ∀ {es : List Expr}, allHead es = true → ((backTo pos (starEach es env)).all fun x => !x.1) = true
  | [], _ => rfl
  | e :: es, h => by
    have h' : (okHead e && allHead es) = true := h
    obtain ⟨h1, h2⟩ := Bool.and_eq_true_iff.mp h'
    rw [head_star h1]
    show (true && (backTo pos (starEach es env)).all fun x => !x.1) = true
    rw [star_few h2]; rfl
section
variable {T : Tb} {N : List Str} {sc : Scope} {calm : Bool}
theorem callkOf_inv {e : Expr} {es : List Expr} {x : Str} {ks : List Keyword} (h : callkOf e = some (x, es, ks)) : ∃ q p, e = .Call (.Name x q) es ks p := by
  cases e with
  | Call f es' ks' p =>
    cases f with
    | Name y q => cases (Option.some.inj h); exact ⟨q, p, rfl⟩
    | _ => cases h
  | _ => cases h
theorem chkE_head {me : ME} {e : Expr} (h : chkE T N sc calm me e = true) : okHead e = true := by
  cases hh : okHead e with
  | true => rfl
  | false =>
    exfalso
    cases e <;> first
      | exact absurd hh.symm Bool.false_ne_true
      | (cases me <;> (simp only [chkE, nmOf, cstOf, binOf, unOf, cmpOf, cmp2Of, boolOf, ifeOf, tupOf, lstOf, subOf, callOf, callkOf, methOf, compOf, attOf, slcOf, revOf, fmtOf, jsOf] at h; exact absurd h Bool.false_ne_true))
theorem chkEs_head : ∀ {es : MEs} {fs : List Expr}, chkEs T N sc calm es fs = true → allHead fs = true
  | .nil, fs, h => by
    have h' : fs.isEmpty = true := by simpa only [chkEs] using h
    cases fs with
    | nil => rfl
    | cons _ _ => cases h'
  | .cons a as, [], h => by simp only [chkEs] at h; exact absurd h Bool.false_ne_true
  | .cons a as, f :: fs, h => by
    simp only [chkEs] at h
    obtain ⟨h1, h2⟩ := Bool.and_eq_true_iff.mp h
    show (okHead f && allHead fs) = true
    rw [chkE_head h1, chkEs_head h2]; rfl
end

/-! ### readings -/
section
variable (K : PySem.W.Frag) (G : Gx) (c : Cl) (W : WX)
abbrev wE (σ : L2.St) : XK := fun cls d H => W cls d σ H
def tE (me : ME) : TE := fun σ H Q => ∃ ρ s A, SRel K G ρ H s σ ∧ HRel K G ρ H A ∧ Out K G ρ H (wE W σ) Q (evE c s me A)
def tEs (es : MEs) : TA := fun σ H Q => ∃ ρ s A, SRel K G ρ H s σ ∧ HRel K G ρ H A ∧ OutL K G ρ H (wE W σ) Q (evs c s es A)
def tBv (k : Bool) (es : MEs) : TE := fun σ H Q => ∃ ρ s A, SRel K G ρ H s σ ∧ HRel K G ρ H A ∧ Out K G ρ H (wE W σ) Q (evB c s k es A)
def tT (me : ME) : TT := fun σ H Q => ∃ ρ s A, SRel K G ρ H s σ ∧ HRel K G ρ H A ∧ OutB K G ρ H (wE W σ) Q (evE c s me A)
def tBt (k : Bool) (es : MEs) : TT := fun σ H Q => ∃ ρ s A, SRel K G ρ H s σ ∧ HRel K G ρ H A ∧ OutB K G ρ H (wE W σ) Q (evB c s k es A)
/-- a def's promise -/
def spA (K : PySem.W.Frag) (G : Nat → Option V) (call : List AV → AH → R AV) : Sp := fun ys H Q E => ∃ ρ A vs, HRel K G ρ H A ∧ AVrs K G ρ H vs ys ∧ Out K G ρ H E Q (call vs A)
end
theorem PE.weak {X : Cx} {e : Expr} {t t' : TE} (h : PE X e t) (k : ∀ σ H Q, t' σ H Q → t σ H Q) : PE X e t' := ⟨fun pins s σ H Q I q => h.run pins s σ H Q I (k σ H Q q)⟩
theorem PT.weak {X : Cx} {e : Expr} {t t' : TT} (h : PT X e t) (k : ∀ σ H Q, t' σ H Q → t σ H Q) : PT X e t' := ⟨fun pins s σ H Q I q => h.run pins s σ H Q I (k σ H Q q)⟩
theorem PW.weak {X : Cx} {e : Expr} {t t' : TT} (h : PW X e t) (k : ∀ σ H Q, t' σ H Q → t σ H Q) : PW X e t' := ⟨fun wh pins s σ H Q I q => h.run wh pins s σ H Q I (k σ H Q q)⟩
theorem PA.weak {X : Cx} {es : List Expr} {t t' : TA} (h : PA X es t) (k : ∀ σ H Q, t' σ H Q → t σ H Q) : PA X es t' := ⟨fun pos pins s σ H Q I q => h.run pos pins s σ H Q I (k σ H Q q)⟩
theorem PI.weak {X : Cx} {tg e : Expr} {t t' : TI} (h : PI X tg e t) (k : ∀ σ H R, t' σ H R → t σ H R) : PI X tg e t' := ⟨fun pins s σ H R I q => h.run pins s σ H R I (k σ H R q)⟩
theorem PG.weak {X : Cx} {e : Expr} {t t' : TG} (h : PG X e t) (k : ∀ v σ H Q, t' v σ H Q → t v σ H Q) : PG X e t' := ⟨fun pins s σ H v u Q I r q => h.run pins s σ H v u Q I r (k v σ H Q q)⟩
theorem PS.weak {X : Cx} {e : Stmt} {t t' : TS} (h : PS X e t) (k : ∀ D σ H, t' D σ H → t D σ H) : PS X e t' := ⟨fun pins s σ H D I q => h.run pins s σ H D I (k D σ H q)⟩
theorem PSs.weak {X : Cx} {e : List Stmt} {t t' : TS} (h : PSs X e t) (k : ∀ D σ H, t' D σ H → t D σ H) : PSs X e t' := ⟨fun pins s σ H D I q => h.run pins s σ H D I (k D σ H q)⟩

/-- what is known of a class of the text -/
structure OwnF (T : Tb) (K : PySem.W.Frag) (mg : Str → Option Value) (G : Nat → Option V) (C : Nat) (nm : Str) (ms : List (Str × Nat)) (fl : List Str) : Prop where
  ex : ∃ Ca, G C = some (.ref Ca) ∧ mg nm = some (.ref Ca) ∧ C8.InsC K Ca ∧ (∀ f ∈ fl, NoAttr K Ca f) ∧ ∀ D nm2 i2 ms2 fl2, T.cls[D]? = some (.own nm2 i2 ms2 fl2) → ∃ Da, G D = some (.ref Da) ∧ PySem.W.kitOne K (.ref Ca) (.ref Da) = some (decide (C = D))
  /-- built-in types are no such class -/
  ty : ∃ Ca, G C = some (.ref Ca) ∧ (∀ t : String, t ∈ ["NoneType", "bool", "int", "str", "tuple", "list"] → PySem.W.kitOne K (.type t) (.ref Ca) = some false ∧ PySem.W.notFirst K Ca (.type t) = true) ∧
    (∀ D nm2 i2 ms2 fl2, T.cls[D]? = some (.own nm2 i2 ms2 fl2) → ∃ Da, G D = some (.ref Da) ∧ PySem.W.notFirst K Ca (.ref Da) = true) ∧
    PySem.W.findIn K (.ref Ca) "__format__" = some (some (.builtin "object.__format__"))
/-- the value that an except clause names -/
def xnV (G : Nat → Option V) : XN → Option Value
  | .own D => (match G D with
    | some (.ref a) => some (.ref a)
    | _ => none)
  | .ve => some (.type "ValueError")
/-- what is known of an exception class of the text; fI: its __init__ -/
structure ExcF (T : Tb) (K : PySem.W.Frag) (mg : Str → Option Value) (G : Nat → Option V) (C : Nat) (nm : Str) (Ca fI : Addr) : Prop where
  g : G C = some (.ref Ca)
  m : mg nm = some (.ref Ca)
  oe : OexC K Ca
  xf : XfC K Ca
  ec : ExcC K Ca
  it : PySem.W.findIn K (.ref Ca) "__init__" = some (some (.ref fI))
  ty : PySem.W.typeIn K (.ref fI) = some (.type "function")
  ci : CIni K Ca fI
  no : ∀ f ∈ T.xfl, PySem.W.findIn K (.ref Ca) f = some none
  sb : ∀ t b, subT T.cls C t = some b → ∃ u, xnV G t = some u ∧ PySem.W.exmOne K (.ref Ca) u = some b ∧ PySem.W.kitOne K (.ref Ca) u = some b
/-- what is known of a def: its address, what calls bind, its promise -/
structure FnG (T : Tb) (K : PySem.W.Frag) (mg : Str → Option Value) (G : Nat → Option V) (ok : Addr → FuncData → Sp → Prop) (f : Nat) (d : FnT) (call : List AV → AH → R AV) : Prop where
  ex : ∃ (a : Addr) (fd : FuncData) (dvs kvs : List V), (d.at_ = (d.name, none) → mg d.name = some (.ref a)) ∧ PySem.W.keepIn K (.ref a) = true ∧ (d.plain = true → Binds K fd d.ps []) ∧ ok a fd (spA K G call) ∧
    (∀ ρ H, AVrs K G ρ H d.dvs dvs) ∧ (∀ ρ H, AVrs K G ρ H d.kvs kvs) ∧
    (∀ m ∈ d.forms, ∃ g, KBn K fd d.ps m.n m.ks g fun ys zs => arrG m.arr ys dvs (m.ms.filterMap (kvs[·]?)) zs) ∧
    (∀ C, T.initN C = some f → ∃ Ca, G C = some (.ref Ca) ∧ Mk K Ca a) ∧
    ∀ C m, T.methN C m = some f → ∃ Ca, G C = some (.ref Ca) ∧ Meth K Ca m a
/-- an exception class's __init__ keeps this -/
def spX (K : PySem.W.Frag) (G : Nat → Option V) (T : Tb) (k C : Nat) : Sp := fun vs H Q _ => ∃ (a C0 : Addr) (us : List V) (ρ : List Addr) (avs : List AV) (acc : List (Str × AV)), vs = .ref a :: us ∧ AVrs K G ρ H avs us ∧ OexC K C0 ∧ (∀ f ∈ T.xfl, PySem.W.findIn K (.ref C0) f = some none) ∧
  H a = some (exo a C0 none) ∧ xfN T.cls k C avs = some acc ∧ ∀ d Fs H', H d = none → d ≠ a → FldR K G ρ H acc Fs → H' a = some (exo a C0 (some d)) → H' d = some (exd d Fs) → (∀ b, b ≠ a → b ≠ d → H' b = H b) → Q .non H'
/-- a context of the language's code: a def's body (blk = false), a comprehension's block (blk = true) -/
structure Good (T : Tb) (G : Gx) (c : Cl) (k : Nat) (N : List Str) (sc : Scope) (calm blk : Bool) (W : WX) (X : Cx) : Prop where
  hN : X.N = N
  hsc : X.env.scope = sc
  hcalm : calm = true → X.calm = true
  nd : N.Nodup
  hG : GOk G
  room : calm = true → Room (k + 2) X.A ∧ Room 9 X.A
  un : X.A.units + 65 < cLine
  takes : Takes X W
  free : ∀ x, T.free.contains x = true → X.mg x = none
  gls : ∀ (g : Nat) x v, T.gls[g]? = some (x, v) → ∃ u y, X.mg x = some u ∧ RelV y u ∧ ∀ ρ H, AVr X.K G ρ H v y
  ceq : c = { clOf T c.call with ex := c.ex }
  fns : ∀ (f : Nat) d, T.fns[f]? = some d → FnG T X.K X.mg G (fun a fd sp => FnOk X.prog X.w X.K X.mg X.base (L2.CX X.prog X.w) k a fd d.ps sp) f d (c.call f)
  own : ∀ C nm i ms fl, T.cls[C]? = some (.own nm i ms fl) → OwnF T X.K X.mg G C nm ms fl
  exc : ∀ C nm base ps up fs d, T.cls[C]? = some (.exc nm base ps up fs d) → ∃ Ca fI fd, ExcF T X.K X.mg G C nm Ca fI ∧ FnOk X.prog X.w X.K X.mg X.base (L2.CX X.prog X.w) 8 fI fd d.ps (spX X.K G T 8 C) ∧ Binds X.K fd d.ps [] ∧ ps.length ≤ 100
  st : ∀ x, setB sc blk x = true → Loc X.env.scope x ∧ (X.fn x = true ∨ X.env.scope.names.lookup x = some .local)
  stk : blk = false → X.stack = X.env :: X.outer ∧ X.env.frame = some X.env.locals
  xc : calm = true → G.x = none ∧ c.ex = none
  xn : ∀ x, G.x = some x → calm = false ∧ ∃ nm, N[x.i]? = some nm ∧ excN nm = true
  xs : ∀ j C n, c.ex = some (j, C, n) → ∃ x Ca, G.x = some x ∧ x.i = j ∧ x.n = n ∧
    (∀ (e : Expr) (te : TE) (f : Str) (pos : Pos), f ∈ T.xfl → notSuper e = true → PE X e te → PE X (.Attribute e f pos) (tXf x.a (.ref Ca) (some x.dd) Ca f te)) ∧
    (∀ t b, subT T.cls C t = some b → ∃ u, xnV G t = some u ∧ CallR X (.builtin "isinstance") fun ys H Q => ∃ (c : V) (Fs : List (Str × V)), ys = [.ref x.a, c] ∧ (∀ w, RelV c w → w = u) ∧ H x.dd = some (.xd Fs) ∧ Q (.bl b) H)
section
variable {T : Tb} {G : Gx} {c : Cl} {k : Nat} {N : List Str} {sc : Scope} {calm blk : Bool} {W : WX} {X : Cx}
theorem Good.form (g : Good T G c k N sc calm blk W X) : c.form = T.form := congrArg Cl.form g.ceq
theorem Good.glc (g : Good T G c k N sc calm blk W X) : ∀ i, c.gl i = (T.gls[i]?).map (·.2) := fun i => congrFun (congrArg Cl.gl g.ceq) i
theorem Good.initN (g : Good T G c k N sc calm blk W X) : c.init = T.initN := congrArg Cl.init g.ceq
theorem Good.methN (g : Good T G c k N sc calm blk W X) : c.meth = T.methN := congrArg Cl.meth g.ceq
theorem Good.fldN (g : Good T G c k N sc calm blk W X) : c.fldB = T.fldN := congrArg Cl.fldB g.ceq
theorem Good.xfC (g : Good T G c k N sc calm blk W X) : ∀ C vs, c.xf C vs = xfN T.cls 8 C vs := fun C vs => congrFun (congrFun (congrArg Cl.xf g.ceq) C) vs
theorem Good.subC (g : Good T G c k N sc calm blk W X) : c.sub = subT T.cls := congrArg Cl.sub g.ceq
theorem Good.room1 (g : Good T G c k N sc calm blk W X) (h : calm = true) : Room k X.A := (g.room h).1.mono (by omega)
theorem Good.ownN (g : Good T G c k N sc calm blk W X) : c.ownB = T.ownN := congrArg Cl.ownB g.ceq
theorem Good.dunN (g : Good T G c k N sc calm blk W X) : c.dun = T.dunN := congrArg Cl.dun g.ceq
theorem plainN_inv {x : Str} (h : plainN x = true) : (x == ("__debug__" : Str)) = false ∧ (x == ("__classdict__" : Str)) = false ∧ x ≠ "__name__" := by
  unfold plainN at h
  obtain ⟨h1, h3⟩ := Bool.and_eq_true_iff.mp h
  obtain ⟨h1, h2⟩ := Bool.and_eq_true_iff.mp h1
  refine ⟨by simpa using h1, by simpa using h2, ?_⟩
  have h4 : (x == ("__name__" : Str)) = false := by simpa using h3
  intro z
  rw [z] at h4
  exact absurd h4 (by decide)
theorem visB_inv (g : Good T G c k N sc calm blk W X) {x : Str} (h : visB sc x = true) : Vis X.env.scope x := by
  rw [g.hsc]
  unfold visB at h
  unfold Vis
  split at h
  · exact .inl (by assumption)
  · exact .inr (.inl (by assumption))
  · exact .inr (.inr (by assumption))
  · cases h
theorem glB_inv (g : Good T G c k N sc calm blk W X) {x : Str} (h : glB sc x = true) : Gl X x := by
  show X.env.scope.names.lookup x = some .globalImplicit
  rw [g.hsc]
  exact of_decide_eq_true h
theorem bltB_inv (g : Good T G c k N sc calm blk W X) {x y : Str} (h : bltB T sc x y = true) : x = y ∧ Gl X x ∧ X.mg x = none ∧ (x == ("__debug__" : Str)) = false ∧ x ≠ "__name__" := by
  unfold bltB at h
  obtain ⟨h, h4⟩ := Bool.and_eq_true_iff.mp h
  obtain ⟨h, h3⟩ := Bool.and_eq_true_iff.mp h
  obtain ⟨h1, h2⟩ := Bool.and_eq_true_iff.mp h
  obtain ⟨p1, p2, p3⟩ := plainN_inv h4
  exact ⟨of_decide_eq_true h1, glB_inv g h2, g.free x h3, p1, p3⟩
theorem and3 {a b d : Bool} (h : (a && b && d) = true) : a = true ∧ b = true ∧ d = true := by
  obtain ⟨h, h3⟩ := Bool.and_eq_true_iff.mp h
  obtain ⟨h1, h2⟩ := Bool.and_eq_true_iff.mp h
  exact ⟨h1, h2, h3⟩
theorem and2 {a b : Bool} (h : (a && b) = true) : a = true ∧ b = true := Bool.and_eq_true_iff.mp h
/-- a test that is its value's truth -/
theorem tT_of {e : Expr} {me : ME} (h : PE X e (tE X.K G c W me)) (he : ∀ whole, isTrue e X.env whole = (do let v ← whole; standAt e.pos; holding [v] (truthy v))) : PT X e (tT X.K G c W me) := by
  refine PT.weak (pt_truth h he) fun σ H Q q => ?_
  obtain ⟨ρ, s, A, hs, hr, out⟩ := q
  exact ⟨ρ, s, A, hs, hr, OutB.val out fun v A' y H' ρ' b e hr' rv eb q => ⟨b, tru_rel hr' rv eb, q⟩⟩
/-- constants -/
theorem cst_ok {v : AV} {k' : Const} {j : Nat} {p : Pos} (h : chkC v k' = true) : PE X (.Constant k' j p) (tE X.K G c W (.cst v)) := by
  have go : ∀ {y : V}, PE X (.Constant k' j p) (tC y) → (∀ ρ H, AVr X.K G ρ H v y) → PE X (.Constant k' j p) (tE X.K G c W (.cst v)) := fun {y} hp hv =>
    PE.weak hp fun σ H Q q => by
      obtain ⟨ρ, s, A, hs, hr, out⟩ := q
      simp only [evE] at out
      exact OutG.at out hr (hv ρ H)
  cases v with
  | non => cases k' with
    | none => exact go pe_non fun _ _ => .non
    | _ => cases h
  | bl b => cases k' with
    | bool d =>
      have e : b = d := eq_of_beq h
      subst e
      exact go pe_bl fun _ _ => .bl b
    | _ => cases h
  | int i => cases k' with
    | int d =>
      have e : i = d := of_decide_eq_true h
      subst e
      exact go pe_int fun _ _ => .int i
    | _ => cases h
  | str x => cases k' with
    | str d =>
      have e : x = d := of_decide_eq_true h
      subst e
      exact go pe_str fun _ _ => .str x
    | _ => cases h
  | _ => cases k' <;> cases h
end
end MP

set_option maxRecDepth 100000
set_option autoImplicit false
set_option maxHeartbeats 1000000
/-! MPX: exception classes of the text. -/
namespace MP
open PySem PySem.Spec PyProof.Rows L2

section
variable {X : Cx} {CX : CXT} {k : Nat} {fI C : Addr} {fd : FuncData} {ps : List Str} {sp : Sp} {x : Str} {p pos : Pos} {e : Expr} {es : List Expr} {ta : TA}
/-- C(..), C an exception class with an own __init__ -/
theorem run_oex {pins : List (Addr × Obj)} {σ : L2.St} {H1 : Hp} {s : Shared} {Q : XK} {us : List Value} {vs : List V} (T : OexC X.K C) (iC : PySem.W.findIn X.K (.ref C) "__init__" = some (some (.ref fI))) (tI : PySem.W.typeIn X.K (.ref fI) = some (.type "function"))
    (F1 : FnOk X.prog X.w X.K X.mg X.base CX k fI fd ps sp) (hr : Room (k + 1) X.A) (hb : Binds X.K fd ps []) (hx : Passes CX X (fun _ _ _ => False)) (I1 : Inv X pins σ H1 s) (r1 : Vals vs us) (hz : vs.length ≤ 1000)
    (q1 : ∀ a, H1 a = none → sp (.ref a :: vs) (upd H1 a (exo a C none))
      (fun v H2 => v = .non ∧ ∃ (d : Addr) (fs : List (Str × V)), H2 a = some (exo a C (some d)) ∧ H2 d = some (exd d fs) ∧ H1 d = none ∧ Q (.ref C) (some d) (upd (del H2 a) d (.xd fs))) (fun _ _ _ => False)) :
    wpAny (model X.prog X.w) X.A (call (.ref C) us) (MkP X pins σ Q) X.xe s := by
  obtain ⟨nm, q, N, bs, bm, sn, sub, ab, col, dd, k0, k1, k2, k3, k5, hC, hbm⟩ := T.cls
  obtain ⟨hp, g, dr, tk, os⟩ := s
  have hsz : hp.objs.size ≤ hp.objs.size + 1 := Nat.le_succ _
  have hn : H1 (hp.objs.size + 1) = none := I1.hok.fresh hsz
  have hq := q1 (hp.objs.size + 1) hn
  have kk : ∀ b o, hp.get? b = some o → ((hp.push (PySem.W.kdv_tup us)).push (PySem.HandSPX.excO C hp.objs.size)).get? b = some o := fun b o e => Heap.get?_push_of_some _ (Heap.get?_push_of_some _ e)
  have hget : ((hp.push (PySem.W.kdv_tup us)).push (PySem.HandSPX.excO C hp.objs.size)).get? (hp.objs.size + 1) = some (PySem.HandSPX.excO C hp.objs.size) := by heap_get
  have I2 : Inv X pins σ (upd H1 (hp.objs.size + 1) (exo (hp.objs.size + 1) C none)) ⟨(hp.push (PySem.W.kdv_tup us)).push (PySem.HandSPX.excO C hp.objs.size), g, dr, tk, os⟩ :=
    I1.laid (t' := tk) (a := hp.objs.size + 1) (o := exo (hp.objs.size + 1) C none) (h' := (hp.push (PySem.W.kdv_tup us)).push (PySem.HandSPX.excO C hp.objs.size)) kk hsz (exo_ok hget)
  have r2 : Vals (V.ref (hp.objs.size + 1) :: vs) (Value.ref (hp.objs.size + 1) :: us) := .cons rfl r1
  have hl : (Value.ref (hp.objs.size + 1) :: us).length = ps.length := by
    have e := r2.length
    rw [F1.len _ _ _ _ hq] at e
    exact e.symm
  have hus : us.length ≤ sizeLine := by
    rw [← Paired.length r1, sizeLine_eq]
    omega
  have b := hb _ (Value.ref (hp.objs.size + 1) :: us) I2.kIn (by rw [List.append_nil]; exact hl)
  rw [List.append_nil] at b
  refine wpAny_call (PySem.HandSPX.call_own F.excBase_ValueError (fun Y => PySem.HandSPX.refsVE_contains Y bm hbm) (I1.kIn _ _ hC) (PySem.W.looks_findIn I1.kIn iC) (fun self => PySem.W.bind_fn I1.kIn self tI) hus
    (codeAny_mono (F1.run _ X.stack _ _ ⟨Value.ref (hp.objs.size + 1) :: us, []⟩ (Value.ref (hp.objs.size + 1) :: us) _ _ (fun _ _ _ => False) (hr.make C us []) (I2.env0.make C us []) b r2 hq) fun r s' hq' => ?_))
  cases r with
  | error er => exact hx pins σ _ _ er s' I2 hq'
  | ok fl =>
    cases fl with
    | ret u =>
      obtain ⟨v, H2, os2, bare2, un2, hok2, rv, ev, d, fs, ea, ed, hd1, q2⟩ := hq'
      subst ev
      obtain ⟨h2, g2, d2, t2, os'⟩ := s'
      exact ⟨rv, mk_end (raises_own T.exC T.tyC) I1 hsz kk un2 hok2 os2 bare2 ea ed hd1 q2⟩
    | next => exact False.elim hq'
    | brk => exact False.elim hq'
    | cont => exact False.elim hq'
theorem pmk_oexS (T : OexC X.K C) (iC : PySem.W.findIn X.K (.ref C) "__init__" = some (some (.ref fI))) (tI : PySem.W.typeIn X.K (.ref fI) = some (.type "function")) (F1 : FnOk X.prog X.w X.K X.mg X.base CX k fI fd ps sp) (hr : Room (k + 1) X.A) (hb : Binds X.K fd ps []) (hx : Passes CX X (fun _ _ _ => False))
    (hg : Gl X x) (hm : X.mg x = some (.ref C)) (ha : PA X es ta) (ha0 : es = [] → ∀ σ H Q, ta σ H Q → Q [] H) (hdb : (x == ("__debug__" : Str)) = false) (hst : ∀ e es', es = e :: es' → starEach (e :: es') X.env = (false, eval e X.env) :: starEach es' X.env) (hpl : ∀ e es', es = e :: es' → (backTo pos (starEach es' X.env)).any (·.1) = false) :
    PMk X (.Call (.Name x p) es [] pos) (tMkO C sp [] ta) := by
  intro pins s σ H Q I h
  refine wpAny_Call_Name_kw (ld_glob I hg hm ?_ hdb)
  have fin : ∀ {s1 : Shared} {us : List Value} {vs : List V} {H1 : Hp}, Inv X pins σ H1 s1 → Vals vs us → (vs.length ≤ 1000 ∧ ∀ a, H1 a = none → sp (.ref a :: (vs ++ [])) (upd H1 a (exo a C none))
      (fun v H2 => v = .non ∧ ∃ (d : Addr) (fs : List (Str × V)), H2 a = some (exo a C (some d)) ∧ H2 d = some (exd d fs) ∧ H1 d = none ∧ Q (.ref C) (some d) (upd (del H2 a) d (.xd fs))) (fun _ _ _ => False)) →
      wpAny (model X.prog X.w) X.A (call (.ref C) us) (MkP X pins σ Q) X.xe s1 := fun {s1 us vs H1} I1 r1 q1 => by
    rw [List.append_nil] at q1
    exact run_oex T iC tI F1 hr hb hx I1 r1 q1.1 q1.2
  cases es with
  | nil =>
    refine PySem.W.callWith_K0 (first := []) I.kIn T.kC ?_
    exact fin (us := []) (vs := []) I .nil (ha0 rfl σ H _ h)
  | cons e es' =>
    refine PySem.W.callWith_K (h₀ := X.base) I.ok.mod.kin T.kC (thn (ha.run pos pins s σ H _ I h) fun us s1 ⟨vs, H1, I1, r1, q1⟩ => ⟨I1.kIn, ?_⟩) (hst e es' rfl) (hpl e es' rfl)
    exact fin I1 r1 q1
end
/-! ### __init__ of such a class, by its text -/
def nmIs (x : Str) : Expr → Bool
  | .Name y _ => decide (y = x)
  | _ => false
/-- a parameter by its name, or a constant -/
def chkXE (ps : List Str) : XE → Expr → Bool
  | .par i, e => (match ps[i]? with
    | some x => nmIs x e && plainN x
    | none => false)
  | .cst v, e => (match cstOf e with
    | some k => chkC v k
    | none => false)
def chkXEs (ps : List Str) : List XE → List Expr → Bool
  | [], es => es.isEmpty
  | x :: xs, es => (match es with
    | e :: es => chkXE ps x e && chkXEs ps xs es
    | [] => false)
/-- self.f = e -/
def chkXS (ps : List Str) : List (Str × XE) → List Stmt → Bool
  | [], ss => ss.isEmpty
  | (f, x) :: fs, ss => (match ss with
    | .Assign [.Attribute o g _] e _ :: ss => nmIs "self" o && decide (g = f) && chkXE ps x e && chkXS ps fs ss
    | _ => false)
/-- B.__init__(self, ..) -/
def chkXB (b : Str) (ps : List Str) (up : List XE) : Stmt → Bool
  | .Expr (.Call (.Attribute (.Name c _) m q) (s :: es) [] p) _ => decide (c = b) && decide (m = ("__init__" : Str)) && nmIs "self" s && chkXEs ps up es && (q.endLine == p.line)
  | _ => false
def chkXI (b : Str) (ps : List Str) (up : List XE) (fs : List (Str × XE)) (d : FnT) : Bool :=
  decide (d.ps = ("self" : Str) :: ps) && decide (d.N = ("self" : Str) :: ps) && d.plain && decide (ps.length ≤ 20) && decide (up.length ≤ 20) && decide (fs.length ≤ 20) && plainN b && glB d.sc b && (match d.src with
    | st :: ss => chkXB b ps up st && chkXS ps fs ss
    | [] => false)
/-- a constant's value -/
def cV : AV → Option V
  | .non => some .non
  | .bl b => some (.bl b)
  | .int i => some (.int i)
  | .str x => some (.str x)
  | _ => none
/-- what is handed on, at the slots -/
def xeV (σ : L2.St) : XE → Option V
  | .par i => (match σ[i + 1]? with
    | some (some y) => some y
    | _ => none)
  | .cst v => cV v
def tXE (x : XE) : TE := fun σ H Q => ∃ y, xeV σ x = some y ∧ Q y H
def tXEs (xs : List XE) : TA := fun σ H Q => ∃ ys, mapO (xeV σ) xs = some ys ∧ Q ys H
/-- stores, the last one first -/
def accF : List (Str × XE) → List V → List (Str × V) → List (Str × V)
  | (f, _) :: fs, y :: ys, acc => accF fs ys ((f, y) :: acc)
  | _, _, acc => acc
structure XFin (H H' : Hp) (a C0 d : Addr) (Fs : List (Str × V)) : Prop where
  ha : H' a = some (exo a C0 (some d))
  hd : H' d = some (exd d Fs)
  rest : ∀ b, b ≠ a → b ≠ d → H' b = H b
def tXS (K : PySem.W.Frag) (fs : List (Str × XE)) : TS := fun D σ H => ∃ (a C0 : Addr) (ys : List V), σ[0]? = some (some (.ref a)) ∧ OexC K C0 ∧ (∀ f ∈ fs.map (·.1), PySem.W.findIn K (.ref C0) f = some none) ∧ mapO (xeV σ) (fs.map (·.2)) = some ys ∧
  ((H a = some (exo a C0 none) ∧ fs ≠ [] ∧ fs.length ≤ 100 ∧ ∀ d H', H d = none → d ≠ a → XFin H H' a C0 d (accF fs ys []) → D.nx σ H') ∨
    ∃ d Fs, H a = some (exo a C0 (some d)) ∧ H d = some (exd d Fs) ∧ d ≠ a ∧ Fs.length + fs.length ≤ 800 ∧ ∀ H', XFin H H' a C0 d (accF fs ys Fs) → D.nx σ H')
section
variable {X : Cx} {ps : List Str}
theorem xe_ok (hN : X.N = ("self" : Str) :: ps) (hv : ∀ x ∈ ps, Vis X.env.scope x) {xe : XE} {e : Expr} (h : chkXE ps xe e = true) : PE X e (tXE xe) ∧ okHead e = true := by
  cases xe with
  | par i =>
    simp only [chkXE] at h
    split at h
    · rename_i x hx
      obtain ⟨h1, h2⟩ := Bool.and_eq_true_iff.mp h
      cases e with
      | Name y p =>
        have e1 : y = x := of_decide_eq_true h1
        subst e1
        obtain ⟨p1, p2, p3⟩ := plainN_inv h2
        refine ⟨PE.weak (pe_var (i := i + 1) (by rw [hN]; exact hx) (hv _ (List.mem_of_getElem? hx)) p1 p2) fun σ H Q q => ?_, rfl⟩
        obtain ⟨y', e2, q⟩ := q
        have e2 : (match σ[i + 1]? with | some (some y) => some y | _ => none) = some y' := e2
        split at e2
        · rename_i z hz
          cases (Option.some.inj e2)
          exact ⟨_, hz, q⟩
        · cases e2
      | _ => cases h1
    · cases h
  | cst v =>
    simp only [chkXE] at h
    split at h
    · rename_i k hk
      obtain ⟨j, p, rfl⟩ := cstOf_inv hk
      refine ⟨?_, rfl⟩
      cases v with
      | non => cases k with
        | none => exact PE.weak pe_non fun σ H Q ⟨y, e, q⟩ => by cases (Option.some.inj e); exact q
        | _ => cases h
      | bl b => cases k with
        | bool d =>
          have e : b = d := eq_of_beq h
          subst e
          exact PE.weak pe_bl fun σ H Q ⟨y, e, q⟩ => by cases (Option.some.inj e); exact q
        | _ => cases h
      | int i => cases k with
        | int d =>
          have e : i = d := of_decide_eq_true h
          subst e
          exact PE.weak pe_int fun σ H Q ⟨y, e, q⟩ => by cases (Option.some.inj e); exact q
        | _ => cases h
      | str i => cases k with
        | str d =>
          have e : i = d := of_decide_eq_true h
          subst e
          exact PE.weak pe_str fun σ H Q ⟨y, e, q⟩ => by cases (Option.some.inj e); exact q
        | _ => cases h
      | _ => cases k <;> cases h
    · cases h
theorem xes_ok (hN : X.N = ("self" : Str) :: ps) (hv : ∀ x ∈ ps, Vis X.env.scope x) : ∀ {xs : List XE} {es : List Expr}, chkXEs ps xs es = true → PA X es (tXEs xs) ∧ allHead es = true
  | [], [], _ => ⟨⟨fun pos pins s σ H Q I h => by
      obtain ⟨ys, e, q⟩ := h
      cases (Option.some.inj e)
      exact (pa_nil (X := X)).run pos pins s σ H Q I q⟩, rfl⟩
  | [], _ :: _, h => by simp [chkXEs] at h
  | _ :: _, [], h => by simp [chkXEs] at h
  | x :: xs, e :: es, h => by
    simp only [chkXEs] at h
    obtain ⟨h1, h2⟩ := Bool.and_eq_true_iff.mp h
    obtain ⟨p1, p2⟩ := xe_ok hN hv h1
    obtain ⟨i1, i2⟩ := xes_ok hN hv h2
    refine ⟨PA.weak (pa_cons p1 i1 (head_star p2)) fun σ H Q q => ?_, by show (okHead e && allHead es) = true; rw [p2, i2]; rfl⟩
    obtain ⟨ys, e1, q⟩ := q
    rw [mapO_cons] at e1
    cases q1 : xeV σ x with
    | none => rw [q1] at e1; cases e1
    | some y =>
      cases q2 : mapO (xeV σ) xs with
      | none => rw [q1, q2] at e1; cases e1
      | some zs =>
        rw [q1, q2] at e1
        cases (Option.some.inj e1)
        exact ⟨y, q1, zs, q2, q⟩
theorem self_ok (hN : X.N = ("self" : Str) :: ps) (hv : Vis X.env.scope "self") {e : Expr} (h : nmIs "self" e = true) : PE X e (tVar 0) ∧ okHead e = true := by
  cases e with
  | Name y p =>
    have e1 : y = ("self" : Str) := of_decide_eq_true h
    subst e1
    exact ⟨pe_var (i := 0) (by rw [hN]; rfl) hv (by decide) (by decide), rfl⟩
  | _ => cases h
theorem swapsAtt {o e : Expr} {f : Str} {p : Pos} {env : Env} {l : Nat} : swapsWith e (some (.Attribute o f p)) l env = pure false := by
  cases e <;> rfl
theorem xs_ok (hN : X.N = ("self" : Str) :: ps) (hv : ∀ x ∈ ps, Vis X.env.scope x) (hv0 : Vis X.env.scope "self") : ∀ {fs : List (Str × XE)} {ss : List Stmt}, chkXS ps fs ss = true → PSs X ss (tXS X.K fs)
  | [], [], _ => ⟨fun pins s σ H D I h => by
      refine (pss_nil (X := X)).run pins s σ H D I ?_
      obtain ⟨a, C0, ys, _, _, _, _, q⟩ := h
      rcases q with ⟨_, z, _⟩ | ⟨d, Fs, h1, h2, _, _, q⟩
      · exact absurd rfl z
      · exact q H ⟨h1, by cases ys <;> exact h2, fun _ _ _ => rfl⟩⟩
  | [], _ :: _, h => by simp [chkXS] at h
  | _ :: _, [], h => by simp [chkXS] at h
  | (f, x) :: fs, st :: ss, h => by
    unfold chkXS at h
    split at h
    · rename_i heq
      rename_i o g p1 e p2 ss'
      obtain ⟨rfl, rfl⟩ := List.cons.inj heq
      obtain ⟨h, h4⟩ := Bool.and_eq_true_iff.mp h
      obtain ⟨h, h3⟩ := Bool.and_eq_true_iff.mp h
      obtain ⟨h1, h2⟩ := Bool.and_eq_true_iff.mp h
      have e1 : g = f := of_decide_eq_true h2
      subst e1
      obtain ⟨ps1, _⟩ := self_ok hN hv0 h1
      obtain ⟨px, _⟩ := xe_ok hN hv h3
      refine PSs.weak (pss_cons (ps_ost ps1 px swapsAtt) (xs_ok hN hv hv0 h4)) fun D σ H q => ?_
      obtain ⟨a, C0, ys, z0, T, nf, em, q⟩ := q
      rw [List.map_cons, mapO_cons] at em
      cases q1 : xeV σ x with
      | none => rw [q1] at em; cases em
      | some y =>
        cases q2 : mapO (xeV σ) (fs.map (·.2)) with
        | none => rw [q1, q2] at em; cases em
        | some zs =>
          rw [q1, q2] at em
          cases (Option.some.inj em)
          refine ⟨y, q1, .ref a, z0, a, C0, rfl, T, nf g (by simp), ?_⟩
          rcases q with ⟨ha, _, hl, q⟩ | ⟨d, Fs, ha, hd, hda, hl, q⟩
          · refine .inl ⟨ha, fun d hd hda => ⟨a, C0, zs, z0, T, fun f' hf' => nf f' (by simp at hf' ⊢; exact .inr hf'), q2, .inr ⟨d, [(g, y)], upd_same, ?_, hda, by simp at hl ⊢; omega, fun H' F => q d H' hd hda ?_⟩⟩⟩
            · rw [upd_ne hda, upd_same]
            · exact ⟨F.ha, F.hd, fun b hb hb2 => by rw [F.rest b hb hb2, upd_ne hb, upd_ne hb2]⟩
          · refine .inr ⟨d, Fs, ha, hd, by omega, ⟨a, C0, zs, z0, T, fun f' hf' => nf f' (by simp at hf' ⊢; exact .inr hf'), q2, .inr ⟨d, (g, y) :: Fs, ?_, upd_same, hda, by simp at hl ⊢; omega, fun H' F => q H' ?_⟩⟩⟩
            · rw [upd_ne (Ne.symm hda)]; exact ha
            · exact ⟨F.ha, F.hd, fun b hb hb2 => by rw [F.rest b hb hb2, upd_ne hb2]⟩
    · cases h
end
def scopeB (N ps : List Str) (sc : Scope) : Bool := kindF sc && !sc.isCoroutine && !sc.isGenerator && decide N.Nodup && decide (N.take ps.length = ps) && (ps.all fun x => decide (sc.names.lookup x = some .local) || decide (sc.names.lookup x = some .cell)) && (sc.names.all fun y => !(y.2 == .free))
theorem kindF_inv {sc : Scope} (h : kindF sc = true) : sc.kind = .function := by
  unfold kindF at h
  split at h
  · assumption
  · cases h
theorem scopeB_ok {N ps : List Str} {sc : Scope} (h : scopeB N ps sc = true) : FnScope N ps sc := by
  unfold scopeB at h
  obtain ⟨h, h7⟩ := and2 h
  obtain ⟨h, h6⟩ := and2 h
  obtain ⟨h, h5⟩ := and2 h
  obtain ⟨h, h4⟩ := and2 h
  obtain ⟨h1, h2, h3⟩ := and3 h
  refine ⟨kindF_inv h1, by simpa using h2, by simpa using h3, of_decide_eq_true h4, of_decide_eq_true h5, fun x hx => ?_, fun y hy e => ?_⟩
  · have k := List.all_eq_true.mp h6 x hx
    rcases Bool.or_eq_true_iff.mp k with k | k
    · exact .inl (of_decide_eq_true k)
    · exact .inr (of_decide_eq_true k)
  · have k := List.all_eq_true.mp h7 y hy
    rw [e] at k
    exact absurd k (by decide)
theorem form_few {env : Env} {pos : Pos} {es : List Expr} (h : allHead es = true) (hl : es.length ≤ 25) : methodCallForm (es.length + ([] : List Keyword).length) (backTo pos (starEach es env)) (backToKw pos (keywordEach [] env)) = true := by
  unfold methodCallForm
  rw [star_few h]
  have : (backToKw pos (keywordEach [] env)) = [] := rfl
  rw [this]
  simp
  omega
section
variable {K : PySem.W.Frag} {G : Nat → Option V} {ρ : List Addr} {H : Hp}
theorem start_zero {N : List Str} {v : V} {us : List V} : (L2.start N (v :: us))[0]? = some (some v) := by
  unfold L2.start
  rfl
theorem start_at {N : List Str} {v y : V} {us : List V} {i : Nat} (h : us[i]? = some y) : (L2.start N (v :: us))[i + 1]? = some (some y) := by
  unfold L2.start
  have hi : i + 1 < ((v :: us).map some).length := by
    have := (List.getElem?_eq_some_iff.mp h).1
    simp; omega
  rw [List.getElem?_append_left hi]
  simp [h]
theorem xe_rel {ps : List Str} {N : List Str} {v0 : V} {avs : List AV} {us : List V} {xe : XE} {e : Expr} {av : AV} (hc : chkXE ps xe e = true) (hr : AVrs K G ρ H avs us) (h : xe.v avs = some av) : ∃ y, xeV (L2.start N (v0 :: us)) xe = some y ∧ AVr K G ρ H av y := by
  cases xe with
  | par i =>
    obtain ⟨y, h1, h2⟩ := hr.get (show avs[i]? = some av from h)
    exact ⟨y, by simp only [xeV, start_at h1], h2⟩
  | cst v =>
    have ev : av = v := (Option.some.inj h).symm
    subst ev
    simp only [chkXE] at hc
    split at hc
    · rename_i k hk
      cases av with
      | non => exact ⟨_, rfl, .non⟩
      | bl b => exact ⟨_, rfl, .bl b⟩
      | int i => exact ⟨_, rfl, .int i⟩
      | str i => exact ⟨_, rfl, .str i⟩
      | _ => cases k <;> cases hc
    · cases hc
theorem xes_rel {ps : List Str} {N : List Str} {v0 : V} {avs : List AV} {us : List V} (hr : AVrs K G ρ H avs us) : ∀ {xs : List XE} {es : List Expr} {ws : List AV}, chkXEs ps xs es = true → mapO (XE.v avs) xs = some ws → ∃ ys, mapO (xeV (L2.start N (v0 :: us))) xs = some ys ∧ AVrs K G ρ H ws ys
  | [], _, _, _, h => by cases (Option.some.inj h); exact ⟨[], rfl, .nil⟩
  | x :: xs, [], _, hc, _ => by simp [chkXEs] at hc
  | x :: xs, e :: es, ws, hc, h => by
    simp only [chkXEs] at hc
    obtain ⟨c1, c2⟩ := Bool.and_eq_true_iff.mp hc
    rw [mapO_cons] at h
    cases q1 : x.v avs with
    | none => rw [q1] at h; cases h
    | some w =>
      cases q2 : mapO (XE.v avs) xs with
      | none => rw [q1, q2] at h; cases h
      | some ws' =>
        rw [q1, q2] at h
        cases (Option.some.inj h)
        obtain ⟨y, y1, y2⟩ := xe_rel (N := N) (v0 := v0) c1 hr q1
        obtain ⟨ys, z1, z2⟩ := xes_rel (N := N) (v0 := v0) hr c2 q2
        exact ⟨y :: ys, by rw [mapO_cons, y1, z1], .cons y2 z2⟩
theorem add_rel {ps : List Str} {N : List Str} {v0 : V} {avs : List AV} {us : List V} (hr : AVrs K G ρ H avs us) : ∀ {fs : List (Str × XE)} {ss : List Stmt} {acc0 acc : List (Str × AV)}, chkXS ps fs ss = true → addX avs fs acc0 = some acc →
    ∃ ys, mapO (xeV (L2.start N (v0 :: us))) (fs.map (·.2)) = some ys ∧ ∀ Fs0, FldR K G ρ H acc0 Fs0 → FldR K G ρ H acc (accF fs ys Fs0)
  | [], _, _, _, _, h => by cases (Option.some.inj h); exact ⟨[], rfl, fun Fs0 h => h⟩
  | (f, x) :: fs, [], _, _, hc, _ => by simp [chkXS] at hc
  | (f, x) :: fs, st :: ss, acc0, acc, hc, h => by
    unfold chkXS at hc
    split at hc
    · rename_i heq
      obtain ⟨rfl, rfl⟩ := List.cons.inj heq
      obtain ⟨hc, c4⟩ := Bool.and_eq_true_iff.mp hc
      obtain ⟨hc, c3⟩ := Bool.and_eq_true_iff.mp hc
      have h : (match x.v avs with | some v => addX avs fs ((f, v) :: acc0) | none => none) = some acc := h
      cases q1 : x.v avs with
      | none => rw [q1] at h; cases h
      | some w =>
        rw [q1] at h
        obtain ⟨y, y1, y2⟩ := xe_rel (N := N) (v0 := v0) c3 hr q1
        obtain ⟨ys, z1, z2⟩ := add_rel (N := N) (v0 := v0) hr c4 h
        exact ⟨y :: ys, by rw [List.map_cons, mapO_cons, y1, z1], fun Fs0 hf => z2 _ (.cons y2 hf)⟩
    · cases hc
theorem accF_len : ∀ {fs : List (Str × XE)} {ys : List V} {acc : List (Str × V)}, (accF fs ys acc).length ≤ acc.length + fs.length
  | [], ys, acc => by cases ys <;> simp [accF]
  | _ :: _, [], acc => by simp [accF]
  | (f, x) :: fs, y :: ys, acc => by
    have := accF_len (fs := fs) (ys := ys) (acc := (f, y) :: acc)
    simp [accF] at this ⊢
    omega
theorem addX_len {avs : List AV} : ∀ {fs : List (Str × XE)} {acc0 acc : List (Str × AV)}, addX avs fs acc0 = some acc → acc.length = acc0.length + fs.length
  | [], _, _, h => by cases (Option.some.inj h); rfl
  | (f, x) :: fs, acc0, acc, h => by
    have h : (match x.v avs with | some v => addX avs fs ((f, v) :: acc0) | none => none) = some acc := h
    cases q1 : x.v avs with
    | none => rw [q1] at h; cases h
    | some w =>
      rw [q1] at h
      have := addX_len h
      simp at this ⊢
      omega
end
/-- what the text's exception classes must be -/
structure ExcT (T : Tb) (K : PySem.W.Frag) (mg : Str → Option Value) (G : Nat → Option V) (C : Nat) (nm : Str) (b : Option Nat) (ps : List Str) (up : List XE) (fs : List (Str × XE)) (d : FnT) (Ca fI : Addr) (fd : FuncData) : Prop where
  f : ExcF T K mg G C nm Ca fI
  fn : ∃ dvs kws, FunD K d.name d.qual d.params d.src d.sc dvs kws fI fd
  bd : Binds K fd d.ps []
  sc : scopeB d.N d.ps d.sc = true
  ck : match b with
    | none => chkXI "ValueError" ps up fs d = true ∧ fs ≠ []
    | some B => ∃ nm2 b2 ps2 up2 fs2 d2, T.cls[B]? = some (.exc nm2 b2 ps2 up2 fs2 d2) ∧ chkXI nm2 ps up fs d = true
  xl : ∀ f ∈ fs.map (·.1), f ∈ T.xfl
section
variable {T : Tb} {K : PySem.W.Frag} {mg : Str → Option Value} {G : Nat → Option V} {P : Program} {w : World} {base : Heap}
theorem chkXI_inv {b : Str} {ps : List Str} {up : List XE} {fs : List (Str × XE)} {d : FnT} (h : chkXI b ps up fs d = true) : d.ps = ("self" : Str) :: ps ∧ d.N = ("self" : Str) :: ps ∧ ps.length ≤ 20 ∧ up.length ≤ 20 ∧ fs.length ≤ 20 ∧ plainN b = true ∧ glB d.sc b = true ∧
    ∃ p1 q s es p p2 ss, d.src = .Expr (.Call (.Attribute (.Name b p1) "__init__" q) (s :: es) [] p) p2 :: ss ∧ nmIs "self" s = true ∧ chkXEs ps up es = true ∧ (q.endLine == p.line) = true ∧ chkXS ps fs ss = true := by
  unfold chkXI at h
  obtain ⟨h, h9⟩ := and2 h
  obtain ⟨h, h8⟩ := and2 h
  obtain ⟨h, h7⟩ := and2 h
  obtain ⟨h, h6⟩ := and2 h
  obtain ⟨h, h5⟩ := and2 h
  obtain ⟨h, h4⟩ := and2 h
  obtain ⟨h1, h2, h3⟩ := and3 h
  refine ⟨of_decide_eq_true h1, of_decide_eq_true h2, of_decide_eq_true h4, of_decide_eq_true h5, of_decide_eq_true h6, h7, h8, ?_⟩
  split at h9
  · rename_i st ss hs
    obtain ⟨k1, k2⟩ := and2 h9
    unfold chkXB at k1
    split at k1
    · rename_i c p1 m q s es p p2
      obtain ⟨k1, k5⟩ := and2 k1
      obtain ⟨k1, k4⟩ := and2 k1
      obtain ⟨k1, k3, k6⟩ := and3 k1
      cases (of_decide_eq_true k1)
      cases (of_decide_eq_true k3)
      exact ⟨p1, q, s, es, p, p2, ss, hs, k6, k4, k5, k2⟩
    · cases k1
  · cases h9
theorem chkXEs_len {ps : List Str} : ∀ {xs : List XE} {es : List Expr}, chkXEs ps xs es = true → es.length = xs.length
  | [], [], _ => rfl
  | [], _ :: _, h => by simp [chkXEs] at h
  | _ :: _, [], h => by simp [chkXEs] at h
  | x :: xs, e :: es, h => by
    simp only [chkXEs] at h
    rw [List.length_cons, List.length_cons, chkXEs_len (and2 h).2]
theorem passF {X : Cx} : Passes (L2.CX X.prog X.w) X (fun _ _ _ => False) := fun _ _ _ _ _ _ _ c => by
  obtain ⟨_, _, _, _, _, _, _, _, _, _, _, _, z⟩ := c
  exact z.elim
theorem xf_len {T : Tb} (hT : ∀ (C : Nat) (nm : Str) (b : Option Nat) (ps : List Str) (up : List XE) (fs : List (Str × XE)) (d : FnT), T.cls[C]? = some (CT.exc nm b ps up fs d) → fs.length ≤ 20) : ∀ (k C : Nat) (avs : List AV) (acc : List (Str × AV)), xfN T.cls k C avs = some acc → acc.length ≤ 20 * k
  | 0, _, _, _, h => by cases h
  | k + 1, C, avs, acc, h => by
    unfold xfN at h
    split at h
    · rename_i nm base ps up fs d hC
      have hf := hT C nm base ps up fs d hC
      split at h
      · split at h
        · have := addX_len h
          simp at this
          omega
        · rename_i B
          split at h
          · rename_i ws hw
            split at h
            · rename_i a0 h0
              have h1 := xf_len hT k B ws a0 h0
              have := addX_len h
              omega
            · cases h
          · cases h
      · cases h
    · cases h
def xfB (T : Tb) (k : Nat) (b : Option Nat) (up : List XE) (fs : List (Str × XE)) (avs : List AV) : Option (List (Str × AV)) := match b with
  | none => addX avs fs []
  | some B => (match mapO (XE.v avs) up with
    | some ws => (match xfN T.cls k B ws with
      | some acc => addX avs fs acc
      | none => none)
    | none => none)
/-- every exception class's __init__ keeps its promise -/
theorem init_ok (hve : mg "ValueError" = none) (vV : PySem.W.findCls K (.type "ValueError") (.type "type") "__init__" = some (.val (.builtin "ValueError.__init__")))
    (facts : ∀ C nm b ps up fs d, T.cls[C]? = some (.exc nm b ps up fs d) → ∃ Ca fI fd, ExcT T K mg G C nm b ps up fs d Ca fI fd) : ∀ (k : Nat), k ≤ 20 → ∀ (C : Nat) nm b ps up fs d, T.cls[C]? = some (.exc nm b ps up fs d) → ∀ Ca fI fd, ExcT T K mg G C nm b ps up fs d Ca fI fd →
      FnOk P w K mg base (L2.CX P w) k fI fd d.ps (spX K G T k C)
  | 0, hk, C, nm, b, ps, up, fs, d, hC, Ca, fI, fd, t => by
    refine ⟨fun vs H Q E h => ?_, fun A outer s H args us vs Q E hr e0 hb r h => ?_⟩
    · obtain ⟨_, _, _, _, _, _, _, _, _, _, _, z, _⟩ := h
      cases z
    · obtain ⟨_, _, _, _, _, _, _, _, _, _, _, z, _⟩ := h
      cases z
  | k + 1, hk, C, nm, b, ps, up, fs, d, hC, Ca, fI, fd, t => by
    obtain ⟨dvs, kws, F⟩ := t.fn
    have S := scopeB_ok t.sc
    have ck : ∃ bn, chkXI bn ps up fs d = true := by
      have := t.ck
      cases b with
      | none => exact ⟨_, this.1⟩
      | some B => obtain ⟨nm2, _, _, _, _, _, _, z⟩ := this; exact ⟨_, z⟩
    have shape : ∀ {avs acc}, xfN T.cls (k + 1) C avs = some acc → avs.length = ps.length ∧ xfB T k b up fs avs = some acc := fun {avs acc} h => by
      unfold xfN at h
      rw [hC] at h
      have h : (if avs.length = ps.length then xfB T k b up fs avs else none) = some acc := h
      split at h
      · exact ⟨by assumption, h⟩
      · cases h
    refine F.ok S (fun vs H Q E h => ?_) fun cdv A outer s H vs Q E hr hsp => ?_
    · obtain ⟨bn, ck⟩ := ck
      obtain ⟨c1, _⟩ := chkXI_inv ck
      obtain ⟨a, C0, us, ρ, avs, acc, rfl, hav, _, _, _, hx, _⟩ := h
      rw [c1, List.length_cons, List.length_cons, ← hav.length, (shape hx).1]
    · obtain ⟨a, C0, us, ρ, avs, acc, rfl, hav, T0, nof, ha, hx, fin⟩ := hsp
      obtain ⟨hl, hx⟩ := shape hx
      -- the context
      have key : ∀ {bn : Str}, chkXI bn ps up fs d = true → ∃ p1 q sf es p p2 ss, d.src = .Expr (.Call (.Attribute (.Name bn p1) "__init__" q) (sf :: es) [] p) p2 :: ss ∧ nmIs "self" sf = true ∧ chkXEs ps up es = true ∧ chkXS ps fs ss = true ∧ plainN bn = true ∧ up.length ≤ 20 ∧ fs.length ≤ 20 ∧
          PE (cxOf (L2.CX P w) P w K mg base d.N d.qual d.sc fI cdv A outer s H E) sf (tVar 0) ∧ okHead sf = true ∧ PA (cxOf (L2.CX P w) P w K mg base d.N d.qual d.sc fI cdv A outer s H E) es (tXEs up) ∧ allHead es = true ∧ es.length ≤ 20 ∧
          PSs (cxOf (L2.CX P w) P w K mg base d.N d.qual d.sc fI cdv A outer s H E) ss (tXS K fs) ∧ Gl (cxOf (L2.CX P w) P w K mg base d.N d.qual d.sc fI cdv A outer s H E) bn ∧ (q.endLine == p.line) = true := fun {bn} ck => by
        obtain ⟨c1, c2, c3, c4, c5, c6, c7, p1, q, sf, es, p, p2, ss, hs, k1, k2, k3, k4⟩ := chkXI_inv ck
        have vis : ∀ x ∈ d.ps, Vis d.sc x := fun x hx => by
          rcases S.par x hx with z | z
          · exact .inl z
          · exact .inr (.inl z)
        have hv0 : Vis d.sc "self" := vis _ (by rw [c1]; exact List.mem_cons_self ..)
        have hvs : ∀ x ∈ ps, Vis d.sc x := fun x hx => vis x (by rw [c1]; exact List.mem_cons_of_mem _ hx)
        obtain ⟨s1, s2⟩ := self_ok (X := cxOf (L2.CX P w) P w K mg base d.N d.qual d.sc fI cdv A outer s H E) c2 hv0 k1
        obtain ⟨e1, e2⟩ := xes_ok (X := cxOf (L2.CX P w) P w K mg base d.N d.qual d.sc fI cdv A outer s H E) c2 hvs k2
        exact ⟨p1, q, sf, es, p, p2, ss, hs, k1, k2, k4, c6, c4, c5, s1, s2, e1, e2, by rw [chkXEs_len k2]; exact c4, xs_ok (X := cxOf (L2.CX P w) P w K mg base d.N d.qual d.sc fI cdv A outer s H E) c2 hvs hv0 k4, (show d.sc.names.lookup bn = some .globalImplicit from of_decide_eq_true c7), k3⟩
      have hc := t.ck
      cases b with
      | none =>
        obtain ⟨hc, hne⟩ := hc
        obtain ⟨p1, q, sf, es, p, p2, ss, hs, k1, k2, k4, k5, k6, k7, s1, s2, e1, e2, e3, sts, hgl, hli⟩ := key hc
        have hall : allHead (sf :: es) = true := by show (okHead sf && allHead es) = true; rw [s2, e2]; rfl
        rw [hs]
        refine ⟨_, pss_cons (ps_expr (pe_veinit hgl hve vV (pa_cons s1 e1 (head_star s2)) (meth_ht rfl (form_few hall (by rw [List.length_cons]; omega)) hli) (head_star s2) (star_plain e2)) (head_swap rfl rfl none _)) sts, ?_⟩
        obtain ⟨ys, m1, m2⟩ := add_rel (N := d.N) (v0 := V.ref a) hav k4 hx
        have hup : ∃ ws, mapO (xeV (L2.start d.N (V.ref a :: us))) up = some ws ∧ ws.length ≤ 20 := by
          have : ∀ {xs : List XE} {es : List Expr}, chkXEs ps xs es = true → ∃ ws, mapO (xeV (L2.start d.N (V.ref a :: us))) xs = some ws ∧ ws.length = xs.length := by
            intro xs
            induction xs with
            | nil => intro es _; exact ⟨[], rfl, rfl⟩
            | cons x xs ih =>
              intro es h
              cases es with
              | nil => simp [chkXEs] at h
              | cons e es =>
                simp only [chkXEs] at h
                obtain ⟨h1, h2⟩ := and2 h
                obtain ⟨ws, w1, w2⟩ := ih h2
                have hv : ∃ v, x.v avs = some v := by
                  cases x with
                  | cst v => exact ⟨v, rfl⟩
                  | par i =>
                    simp only [chkXE] at h1
                    split at h1
                    · rename_i nm' hnm
                      have hi := (List.getElem?_eq_some_iff.mp hnm).1
                      exact ⟨avs[i]'(by rw [hl]; exact hi), List.getElem?_eq_getElem _⟩
                    · cases h1
                obtain ⟨v, hv⟩ := hv
                obtain ⟨y, y1, y2⟩ := xe_rel (N := d.N) (v0 := V.ref a) h1 hav hv
                exact ⟨y :: ws, by rw [mapO_cons, y1, w1], by simp [w2]⟩
          obtain ⟨ws, w1, w2⟩ := this k2
          exact ⟨ws, w1, by omega⟩
        obtain ⟨wu, u1, u2⟩ := hup
        refine ⟨.ref a, start_zero, wu, u1, a, C0, wu, rfl, by omega, T0, ha, a, C0, ys, start_zero, T0, fun f hf => nof f (t.xl f hf), m1, .inl ⟨ha, hne, by omega, fun dd H' h1 h2 XF => fin dd _ H' h1 h2 (m2 [] .nil) XF.ha XF.hd XF.rest⟩⟩
      | some B =>
        obtain ⟨nm2, b2, ps2, up2, fs2, d2, hB, hc⟩ := hc
        obtain ⟨p1, q, sf, es, p, p2, ss, hs, k1, k2, k4, k5, k6, k7, s1, s2, e1, e2, e3, sts, hgl, hli⟩ := key hc
        have hall : allHead (sf :: es) = true := by show (okHead sf && allHead es) = true; rw [s2, e2]; rfl
        obtain ⟨Cb, fb, fdb, tb⟩ := facts B nm2 b2 ps2 up2 fs2 d2 hB
        have ih := init_ok hve vV facts k (by omega) B nm2 b2 ps2 up2 fs2 d2 hB Cb fb fdb tb
        rw [hs]
        refine ⟨_, pss_cons (ps_expr (pe_cini (E := fun _ _ _ => False) tb.f.ci ih hr hgl tb.f.m tb.bd passF (pa_cons s1 e1 (head_star s2)) (plainN_inv k5).1 (head_star s2) (star_plain e2) (meth_ht rfl (form_few hall (by rw [List.length_cons]; omega)) hli)) (head_swap rfl rfl none _)) sts, ?_⟩
        have hx : (match mapO (XE.v avs) up with
          | some ws => (match xfN T.cls k B ws with
            | some acc => addX avs fs acc
            | none => none)
          | none => none) = some acc := hx
        split at hx
        · rename_i ws hw
          split at hx
          · rename_i accB hB2
            obtain ⟨zs, z1, z2⟩ := xes_rel (N := d.N) (v0 := V.ref a) hav k2 hw
            obtain ⟨ys, m1, m2⟩ := add_rel (N := d.N) (v0 := V.ref a) hav k4 hx
            have hlen : accB.length ≤ 20 * k := xf_len (T := T) (fun C' nm' b' ps' up' fs' d' hC' => by
              obtain ⟨Ca', fI', fd', t'⟩ := facts C' nm' b' ps' up' fs' d' hC'
              have := t'.ck
              cases b' with
              | none => exact (chkXI_inv this.1).2.2.2.2.1
              | some B' => obtain ⟨_, _, _, _, _, _, _, z⟩ := this; exact (chkXI_inv z).2.2.2.2.1) k B ws accB hB2
            refine ⟨.ref a, start_zero, zs, z1, ?_⟩
            show spX K G T k B ((V.ref a :: zs) ++ []) H _ _
            rw [List.append_nil]
            refine ⟨a, C0, zs, ρ, ws, accB, rfl, z2, T0, nof, ha, hB2, fun dd Fs H' h1 h2 hf g1 g2 g3 => ?_⟩
            refine ⟨a, C0, ys, start_zero, T0, fun f hf => nof f (t.xl f hf), m1, .inr ⟨dd, Fs, g1, g2, h2, ?_, fun H2 XF => fin dd _ H2 h1 h2 (m2 Fs hf) XF.ha XF.hd fun b hb hb2 => (XF.rest b hb hb2).trans (g3 b hb hb2)⟩⟩
            have := hf.length
            omega
          · cases hx
        · cases hx
end
end MP

set_option maxRecDepth 100000
set_option autoImplicit false
set_option maxHeartbeats 1000000
/-! MPT: several except clauses, with names or without. -/
namespace MP
open PySem PySem.Spec PyProof.Rows L2
abbrev HdT := Value × Option Nat × (Addr → Value → Option Addr → TS)
/-- behind a suite whose name's slot is i -/
def endsX (i : Nat) (D : Ends) : Ends := { nx := fun σ' H' => D.nx (σ'.set i none) H', rt := D.rt, bk := fun σ' H' => D.bk (σ'.set i none) H', ct := fun σ' H' => D.ct (σ'.set i none) H' }
def suiteW (io : Option Nat) (ts : Addr → Value → Option Addr → TS) (a : Addr) (cls : Value) (d : Option Addr) (D : Ends) (σ : L2.St) (H : Hp) : Prop := match io with
  | none => ts a cls d D σ H
  | some i => ts a cls d (endsX i D) (σ.set i (some (.ref a))) H
/-- what the clauses wish of an exception of the body, one after the other -/
def wManyA (K : PySem.W.Frag) (Wout : WX) (D : Ends) : List HdT → WX
  | [] => Wout
  | (c, io, ts) :: r => fun cls d σ H => ∃ b, PySem.W.exmOne K cls c = some b ∧ (b = true → ∀ a, H a = none → suiteW io ts a cls d D σ H) ∧ (b = false → wManyA K Wout D r cls d σ H)
inductive HdsA (X : Cx) : List ExceptHandler → List HdT → Prop
  | nil : HdsA X [] []
  | cons {x : Str} {c : Value} {no : Option Str} {io : Option Nat} {ts : Addr → Value → Option Addr → TS} {b₀ : Stmt} {suite : List Stmt} {np pos' : Pos} {hds : List ExceptHandler} {l : List HdT} (hc : Names X x c)
      (hn : ∀ i, io = some i → ∃ n, no = some n ∧ X.N[i]? = some n ∧ X.env.kindOf n = some .local) (hn0 : io = none → no = none)
      (hsu : ∀ (a : Addr) (oe : Obj) (cls : Value) (d : Option Addr) (pn : List (Addr × Obj)), Zc cls d oe → (∃ vs, oe.data = .fields vs) → PSs (X.suite a ((a, oe) :: pn)) (b₀ :: suite) (ts a cls d)) (r : HdsA X hds l) :
      HdsA X (.ExceptHandler (some (.Name x np)) no (b₀ :: suite) pos' :: hds) ((c, io, ts) :: l)
section
variable {X : Cx} {body : List Stmt} {h₀ : ExceptHandler} {hds : List ExceptHandler} {l : List HdT} {pos : Pos} {tb : WX → TS} {Wout : WX}
theorem ps_try_manyA (hN : X.N.Nodup) (hs : X.stack = X.env :: X.outer) (hf : X.env.frame = some X.env.locals) (tk : Takes X Wout)
    (hb : ∀ (W : WX) (pn : List (Addr × Obj)) (xe : Value → Shared → Prop), Takes (X.tr pn xe) W → PassesOwn (model X.prog X.w) X.A X.env xe → PSs (X.tr pn xe) body (tb W))
    (hh : HdsA X (h₀ :: hds) l) : PS X (.Try body (h₀ :: hds) [] [] pos) (fun D σ H => tb (wManyA X.K Wout D l) D σ H) := by
  refine ⟨fun pins s σ H D I h => ?_⟩
  have ok := I.ok
  have hfr : X.A.frames = some (X.env :: X.outer) := by rw [ok.frames, hs]
  refine wpAny_Try_except ?_
  refine wpAny_mono ((hb (wManyA X.K Wout D l) (X.pn ++ pins) (fun e s₁ => wpAny (model X.prog X.w) X.A (noteFrame e X.env) (fun _ s₂ => wpAny (model X.prog X.w) X.A (setFlight e none) (fun _ s₃ =>
    wpAny (model X.prog X.w) X.A (handleBy e X.env (h₀ :: hds)) (SP X pins D) X.xe s₃) X.xe s₂) X.xe s₁) (fun u s' xx => ?_) PassesOwn.looking).run [] s σ H D (I.toTry _) h) (fun f s1 hsp => ?_) (fun e s1 he => he)
  · -- the catch
    obtain ⟨a, B, sI, pins', σ', H', cls, d, rfl, J', nb, up, sky, na, os, ag, w⟩ := xx
    have J : Inv X pins σ' H' sI := J'.ofTry ok
    have sky' : Sky B (X.env :: X.outer) a (Zc cls d) X.env.locals s'.heap := by rw [← hs]; exact sky
    show wpAny (model X.prog X.w) X.A (noteFrame (.ref a) X.env) _ _ _
    refine Sky.land Zc.steady hfr hf sky' fun h3 fl3 up3 => ?_
    have J3 : Inv X pins σ' H' { s' with heap := h3 } := J.landed nb fl3.1 (up.trans up3) os ag
    obtain ⟨oe3, vs3, he3, hz3, hd3⟩ := fl3.there
    have notFr : ∀ {h : Heap} {o : Obj} {vs : Array Value}, h.FunFrames B (X.env :: X.outer) → h.get? a = some o → o.data = .fields vs → a ∉ frs (X.env :: X.outer) := fun {h o vs} ff e dd hm => by
      obtain ⟨_, o', e', hnf⟩ := ff.mem hm
      rw [e] at e'; cases e'
      exact hnf _ dd
    have nfr := notFr fl3.2.2.1 he3 hd3
    have nL : a ≠ X.env.locals := fun z => nfr (List.mem_filterMap.mpr ⟨X.env, List.mem_cons_self, by rw [hf, z]⟩)
    have nF : a ∉ X.fs := fun hm => by
      obtain ⟨e, he, q⟩ := List.mem_filterMap.mp hm
      exact nfr (List.mem_filterMap.mpr ⟨e, List.mem_cons_of_mem _ he, q⟩)
    have S3 := J3.suite he3 hd3 na nL nF
    have go : ∀ {hds' : List ExceptHandler} {l' : List HdT}, HdsA X hds' l' → wManyA X.K Wout D l' cls d σ' H' →
        wpAny (model X.prog X.w) X.A (handleBy (.ref a) X.env hds') (SP X pins D) X.xe { s' with heap := h3 } := by
      intro hds' l' hk
      induction hk with
      | nil =>
        intro w
        refine wpAny_handleBy_nil ?_
        obtain ⟨k1, k2, k3, oe, vs, T, oT, ts', he, hz, hd, h1, hr⟩ := id fl3
        unfold PySem.passOn
        refine wpAny_bind (wpAny_field he hd h1 ?_)
        rw [if_neg (show ¬ ((Value.ref T == Value.none) = true) from by simp)]
        have fin : wpAny (model X.prog X.w) X.A (setFlight (.ref a) X.env.frame) (fun _ s4 => wpAny (model X.prog X.w) X.A (throw (.ref a) : Sem Flow) (SP X pins D) X.xe s4) X.xe { s' with heap := h3 } := by
          rw [hf]
          refine HandSPX.setFlight_upZ fl3 fun h4 hh4 up4 => wpAny_throw (tk _ _ ?_)
          exact ⟨a, B, sI, pins, σ', H', cls, d, rfl, J, nb, (up.trans up3).trans up4, .inr (.inr (by rw [hs]; exact hh4)), na, os, ag, w⟩
        first
          | exact wpAny_bind (wpAny_pure (wpAny_bind fin))
          | exact wpAny_bind fin
      | @cons x c no io ts b₀ suite np pos' hds2 l2 hc hn hn0 hsu r ih =>
        intro w
        obtain ⟨b, hb1, hyes, hno⟩ := w
        refine wpAny_handleBy_cons (codeAny_handlers_test ?_) (by intro q; cases q)
        have LT : PySem.W.Looks (model X.prog X.w) h3 (typeOf (.ref a)) cls := fun A Q E s k q => wpAny_typeOf_ref (k _ _ he3) (by rw [hz3.1]; exact q)
        have LM := PySem.W.exm_one (M := model X.prog X.w) (J3.kIn) LT hb1
        have test : ∀ {Q : Value → Shared → Prop} {E : Value → Shared → Prop}, Q c { s' with heap := h3 } → wpAny (model X.prog X.w) (X.A.mark (some (.ref a))) (eval (.Name x np) X.env) Q E { s' with heap := h3 } := fun {Q E} q => by
          obtain ⟨hg, hdbg, hm | ⟨hm, hv, hnn⟩⟩ := hc
          · exact ld_glob (X := X.suite a ((a, oe3) :: (X.pn ++ pins))) S3 hg hm q hdbg
          · exact ld_blt (X := X.suite a ((a, oe3) :: (X.pn ++ pins))) S3 hg hm hv q hnn hdbg
        refine test (LM.here ?_)
        cases b with
        | true =>
          have hy := hyes rfl a na
          cases io with
          | none =>
            obtain rfl := hn0 rfl
            refine codeAny_handlers_suite ?_
            refine HandSPX.lands_againZ fl3 fun h4 fl4 up4 => ?_
            have J4 : Inv X pins σ' H' { s' with heap := h4 } := J.landed nb fl4.1 ((up.trans up3).trans up4) os ag
            obtain ⟨oe4, vs4, he4, hz4, hd4⟩ := fl4.there
            have S4 := J4.suite he4 hd4 na nL nF
            refine wpAny_mono ((hsu a oe4 cls d (X.pn ++ pins) hz4 ⟨_, hd4⟩).run [] _ _ H' _ S4 hy) (fun f s6 hsp => ?_) (fun _ _ z => False.elim z)
            cases f with
            | next =>
              obtain ⟨σ6, H6, S6, q6⟩ := hsp
              exact ⟨_, _, S6.unsuite ok, q6⟩
            | brk =>
              obtain ⟨σ6, H6, S6, q6⟩ := hsp
              exact ⟨_, _, S6.unsuite ok, q6⟩
            | cont =>
              obtain ⟨σ6, H6, S6, q6⟩ := hsp
              exact ⟨_, _, S6.unsuite ok, q6⟩
            | ret u =>
              obtain ⟨v6, σ6, H6, S6, r6, q6⟩ := hsp
              exact ⟨_, _, _, S6.unsuite ok, r6, q6⟩
          | some i =>
            obtain ⟨n, rfl, hi, hln⟩ := hn i rfl
            have hloc : Loc X.env.scope n := .inl hln
            refine codeAny_handlers_suite_as ?_
            refine HandSPX.lands_againZ fl3 fun h4 fl4 up4 => ?_
            have J4 : Inv X pins σ' H' { s' with heap := h4 } := J.landed nb fl4.1 ((up.trans up3).trans up4) os ag
            obtain ⟨oe4, vs4, he4, hz4, hd4⟩ := fl4.there
            have S4 := J4.suite he4 hd4 na nL nF
            refine store_ok (X := X.suite a ((a, oe4) :: (X.pn ++ pins))) (v := .ref a) S4 hN hi hloc rfl (fun s5 S5 => ?_) (.inr hln)
            refine wpAny_mono ((hsu a oe4 cls d (X.pn ++ pins) hz4 ⟨_, hd4⟩).run [] s5 _ H' _ S5 hy) (fun f s6 hsp => ?_) (fun _ _ z => False.elim z)
            have end_ : ∀ {σ6 : L2.St} {H6 : Hp} {Q : Shared → Prop}, Inv (X.suite a ((a, oe4) :: (X.pn ++ pins))) [] σ6 H6 s6 → (∀ s7, Inv X pins (σ6.set i none) H6 s7 → Q s7) →
                wpAny (model X.prog X.w) X.A (do bindName X.env n .none; unbindBehindTheSuite X.env n pos') (fun _ s7 => Q s7) X.xe s6 := fun {σ6 H6 Q} S6 hq => gone_ok (S6.unsuite ok) hN hi hln hq
            cases f with
            | next =>
              obtain ⟨σ6, H6, S6, q6⟩ := hsp
              exact end_ S6 fun s7 J7 => ⟨_, _, J7, q6⟩
            | brk =>
              obtain ⟨σ6, H6, S6, q6⟩ := hsp
              exact end_ S6 fun s7 J7 => ⟨_, _, J7, q6⟩
            | cont =>
              obtain ⟨σ6, H6, S6, q6⟩ := hsp
              exact end_ S6 fun s7 J7 => ⟨_, _, J7, q6⟩
            | ret u =>
              obtain ⟨v6, σ6, H6, S6, r6, q6⟩ := hsp
              exact end_ S6 fun s7 J7 => ⟨_, _, _, J7, r6, q6⟩
        | false =>
          show wpAny _ X.A (handleBy (.ref a) X.env hds2) _ _ _
          exact ih (hno rfl)
    exact go hh w
  · cases f with
    | next =>
      obtain ⟨σ', H', J', q⟩ := hsp
      exact wpAny_execs_nil ⟨σ', H', J'.ofTry ok, q⟩
    | brk =>
      obtain ⟨σ', H', J', q⟩ := hsp
      exact ⟨σ', H', J'.ofTry ok, q⟩
    | cont =>
      obtain ⟨σ', H', J', q⟩ := hsp
      exact ⟨σ', H', J'.ofTry ok, q⟩
    | ret u =>
      obtain ⟨v, σ', H', J', r, q⟩ := hsp
      exact ⟨v, σ', H', J'.ofTry ok, r, q⟩
end
end MP

set_option maxRecDepth 100000
set_option autoImplicit false
set_option maxHeartbeats 1000000
/-! MPD: ==, len, str, repr and f-strings of own instances; isinstance of the handled exception. -/
namespace MP
open PySem PySem.Spec PyProof.Rows L2
section
variable {X : Cx} {n : Nat}
/-- a def that lets nothing out, called anywhere below -/
theorem run_fnA {A : Around} {pins : List (Addr × Obj)} {σ : L2.St} {H : Hp} {s : Shared} {Q : VK} {us : List Value} {ws : List V} {g : Addr} {fd : FuncData} {ps : List Str} {sp : Sp} {E' : Value → Shared → Prop} (F : FnOk X.prog X.w X.K X.mg X.base (L2.CX X.prog X.w) n g fd ps sp) (hr : Room n A)
    (e0 : Env0 X.prog X.w X.K X.mg X.base A X.stack s H) (hb : Binds X.K fd ps []) (I : Inv X pins σ H s) (r : Vals ws us) (h : sp ws H Q fun _ _ _ => False) : wpAny (model X.prog X.w) A (call (.ref g) us) (EP X pins σ Q) E' s := by
  have hl : us.length = ps.length := by rw [← r.length]; exact F.len _ _ _ _ h
  have b := hb s us I.kIn (by rw [List.append_nil]; exact hl)
  rw [List.append_nil] at b
  refine wpAny_call (codeAny_mono (F.run A X.stack s H ⟨us, []⟩ us ws Q (fun _ _ _ => False) hr e0 b r h) fun r s' hq => ?_)
  cases r with
  | error e =>
    obtain ⟨_, _, _, _, _, _, _, _, _, _, _, _, z⟩ := hq
    exact z.elim
  | ok fl =>
    cases fl with
    | ret u => exact I.after hq
    | next => exact False.elim hq
    | brk => exact False.elim hq
    | cont => exact False.elim hq
/-- x is an instance whose class has the def m; it promises this -/
def Dun (X : Cx) (n : Nat) (m : Str) (x : V) (H : Hp) (k : (Addr → Sp → Prop)) : Prop := ∃ a Ca dx fs g fd ps sp, x = .ref a ∧ H a = some (.ins Ca dx fs) ∧ Meth X.K Ca m g ∧ FnOk X.prog X.w X.K X.mg X.base (L2.CX X.prog X.w) n g fd ps sp ∧ Binds X.K fd ps [] ∧ k Ca sp
def rEqO (X : Cx) (n : Nat) : R2 := fun x y H Q => Dun X n "__eq__" x H fun Ca sp => (∃ t, TyX X.K H y t ∧ PySem.W.notFirst X.K Ca t = true) ∧ sp [x, y] H Q fun _ _ _ => False
theorem op_eqO (hr : Room n X.A) : OpR X (compareOp .Eq) (rEqO X n) := by
  intro pins s σ H x y v u Q I rx ry h
  obtain ⟨a, Ca, dx, fs, g, fd, ps, sp, rfl, ha, hm, F, hb, ⟨t, ty, hn⟩, q⟩ := h
  cases (show v = Value.ref a from rx)
  obtain ⟨mA, O, _⟩ := ins_get I.hok ha
  obtain ⟨od, J, _⟩ := O.look
  obtain ⟨m, hF⟩ := I.fr
  obtain ⟨P, Z, p, _⟩ := kit_of I ry ty
  refine PySem.W.cmp_K (op := .Eq) (tb := t) hr.units0 hF I.ok.mod.kin J (Z.ty _ _ I.kIn p) hn hm.at_ hm.fn ?_
  refine wpAny_mono (run_fnA (us := [.ref a, u]) (ws := [.ref a, y]) F hr I.env0 hb I (.cons rfl (.cons ry .nil)) q) (fun w s' z => ?_) fun _ _ x => x
  obtain ⟨z', H', I', rz, qz⟩ := z
  exact SlX.cmpback rz ⟨z', H', I', rz, qz⟩
def rLenO (X : Cx) (n : Nat) : List V → Hp → VK → Prop := fun xs H Q => ∃ x, xs = [x] ∧ Dun X n "__len__" x H fun _ sp => sp [x] H (fun z H' => ∃ i, z = .int i ∧ 0 ≤ i ∧ i < 2 ^ 62 ∧ Q (.int i) H') fun _ _ _ => False
theorem call_lenO (hr : Room (n + 1) X.A) : CallR X (.builtin "len") (rLenO X n) := by
  intro pins s σ H xs us Q I r h
  obtain ⟨x, rfl, a, Ca, dx, fs, g, fd, ps, sp, rfl, ha, hm, F, hb, q⟩ := h
  obtain ⟨u, rfl, ru⟩ := r.one
  cases (show u = Value.ref a from ru)
  obtain ⟨mA, O, _⟩ := ins_get I.hok ha
  obtain ⟨od, J, _⟩ := O.look
  obtain ⟨m, hF⟩ := I.fr
  refine PySem.W.len_K hF I.ok.mod.kin J hm.at_ hm.fn ?_
  refine wpAny_mono (run_fnA (A := X.A.in1) (us := [.ref a]) (ws := [.ref a]) F hr.in1 I.env0.in1 hb I (.cons rfl .nil) q) (fun w s' z => ?_) fun _ _ x => x
  obtain ⟨z', H', I', rz, i, rfl, h0, h1, qz⟩ := z
  obtain ⟨t, rfl⟩ := rz
  exact ⟨⟨h0, by omega⟩, .int i, H', I'.tok _, ⟨_, rfl⟩, qz⟩
def rStrO (X : Cx) (n : Nat) (m : Str) : List V → Hp → VK → Prop := fun xs H Q => ∃ x, xs = [x] ∧ Dun X n m x H fun _ sp => sp [x] H (fun z H' => ∃ i, z = .str i ∧ Q (.str i) H') fun _ _ _ => False
theorem strback {pins : List (Addr × Obj)} {σ : L2.St} {Q : VK} {w : Value} {s' : Shared} (z : EP X pins σ (fun z H' => ∃ i, z = .str i ∧ Q (.str i) H') w s') : PySem.W.StrBack (EP X pins σ Q) w s' := by
  obtain ⟨z', H', I', rz, i, rfl, qz⟩ := z
  obtain ⟨t, rfl⟩ := rz
  exact ⟨.str i, H', I', ⟨_, rfl⟩, qz⟩
theorem call_strO (hr : Room (n + 2) X.A) : CallR X (.type "str") (rStrO X n "__str__") := by
  intro pins s σ H xs us Q I r h
  obtain ⟨x, rfl, a, Ca, dx, fs, g, fd, ps, sp, rfl, ha, hm, F, hb, q⟩ := h
  obtain ⟨u, rfl, ru⟩ := r.one
  cases (show u = Value.ref a from ru)
  obtain ⟨mA, O, _⟩ := ins_get I.hok ha
  obtain ⟨od, J, _⟩ := O.look
  have hr2 : Room n X.A.in1.in1 := (show Room (n + 1) X.A.in1 from Room.in1 hr).in1
  refine PySem.W.kso_call hr2.units0 I.kIn J hm.at_ hm.fn ?_
  exact wpAny_mono (run_fnA (A := X.A.in1.in1) (us := [.ref a]) (ws := [.ref a]) F hr2 I.env0.in1.in1 hb I (.cons rfl .nil) q) (fun w s' z => strback z) fun _ _ x => x
theorem call_reprO (hr : Room (n + 1) X.A) : CallR X (.builtin "repr") (rStrO X n "__repr__") := by
  intro pins s σ H xs us Q I r h
  obtain ⟨x, rfl, a, Ca, dx, fs, g, fd, ps, sp, rfl, ha, hm, F, hb, q⟩ := h
  obtain ⟨u, rfl, ru⟩ := r.one
  cases (show u = Value.ref a from ru)
  obtain ⟨mA, O, _⟩ := ins_get I.hok ha
  obtain ⟨od, J, _⟩ := O.look
  obtain ⟨m, hF⟩ := I.fr
  refine PySem.W.repr_K hr.in1.units0 hF I.ok.mod.kin J hm.at_ hm.fn ?_
  exact wpAny_mono (run_fnA (A := X.A.in1) (us := [.ref a]) (ws := [.ref a]) F hr.in1 I.env0.in1 hb I (.cons rfl .nil) q) (fun w s' z => strback z) fun _ _ x => x
/-- f"{x}" of an own instance -/
structure FmtC (K : PySem.W.Frag) (C : Addr) : Prop where
  f : PySem.W.findIn K (.ref C) "__format__" = some (some (.builtin "object.__format__"))
  m : PySem.W.mroIn K C (.type "object") = some true
def tFmtO (X : Cx) (n : Nat) (te : TE) : TE := fun σ H Q => te σ H fun x H1 => Dun X n "__str__" x H1 fun Ca sp => FmtC X.K Ca ∧ sp [x] H1 (fun z H' => ∃ i, z = .str i ∧ Q (.str i) H') fun _ _ _ => False
theorem pe_fmtO (hr : Room (n + 1) X.A) {e : Expr} {te : TE} {pos : Pos} (he : PE X e te) : PE X (.FormattedValue e (-1) none pos) (tFmtO X n te) := by
  refine ⟨fun pins s σ H Q I h => ?_⟩
  refine wpAny_FormattedValue_plain (thn (he.run pins s σ H _ I h) fun v s1 hv => ?_)
  obtain ⟨x, H1, I1, r1, a, Ca, dx, fs, g, fd, ps, sp, rfl, ha, hm, F, hb, fc, q⟩ := hv
  cases (show v = Value.ref a from r1)
  obtain ⟨mA, O, _⟩ := ins_get I1.hok ha
  obtain ⟨od, J, _⟩ := O.look
  have I2 := I1.tok (s1.toks + 1)
  refine PySem.W.kfo_fieldS hr.in1.units0 I1.kIn J fc.f fc.m hm.at_ hm.fn ?_
  exact wpAny_mono (run_fnA (A := X.A.in1) (us := [.ref a]) (ws := [.ref a]) F hr.in1 I2.env0.in1 hb I2 (.cons rfl .nil) q) (fun w s' z => strback z) fun _ _ x => x
/-- isinstance(e, c), e the handled exception with its dict -/
theorem call_isEd {a D dd : Addr} {oe : Obj} {pn : List (Addr × Obj)} (C : ExcC X.K D) (hz : Zc (.ref D) (some dd) oe) (hf : ∃ vs, oe.data = .fields vs) : CallR (X.suite a ((a, oe) :: pn)) (.builtin "isinstance")
    (fun xs H Q => ∃ (c : V) (cv : Value) (b : Bool) (Fs : List (Str × V)), xs = [.ref a, c] ∧ (∀ u, RelV c u → u = cv) ∧ H dd = some (.xd Fs) ∧ PySem.W.kitOne X.K (.ref D) cv = some b ∧ Q (.bl b) H) := by
  intro pins s σ H xs us Q I r h
  obtain ⟨c, cv, b, Fs, rfl, hcv, hd, e, q⟩ := h
  cases r with
  | cons rx rr =>
    cases rr with
    | cons rt rr =>
      cases rr
      cases rx
      have ec := hcv _ rt
      subst ec
      obtain ⟨hget, _⟩ := I.pin (a, oe) (List.mem_append.mpr (.inl List.mem_cons_self))
      obtain ⟨vs, hv⟩ := hf
      have hx : ObjOk X.prog X.w H s.heap dd (.xd Fs) := I.hok dd _ hd
      obtain ⟨mA, hns, hr⟩ := hx
      obtain ⟨od, ho, hl⟩ := lookIn_ns hns
      have J : PySem.W.InstAt s.heap a oe D (some od) := ⟨hget, hz.1, by unfold PySem.W.notCls; rw [hv] <;> rfl, by rw [hz.2]; exact ho⟩
      obtain ⟨cdD, hcD, _⟩ := PySem.W.any_some C.hd
      exact PySem.W.kia_one (PySem.W.kitx_exc (by rw [hcD]; rfl) C.hg C.hk C.hs C.ha C.hn C.ht C.hm) I.kIn J e (fun z => nomatch z) fun tk => ⟨.bl b, H, I.kept (t' := tk) fun _ _ z => z, rfl, q⟩
end
end MP

set_option maxRecDepth 100000
set_option autoImplicit false
set_option maxHeartbeats 1000000
/-! MP6: targets, what is walked. -/
namespace MP
open PySem PySem.Spec PyProof.Rows L2

/-- two lists of slots agree but for these -/
structure Agr (σ σ' : L2.St) (is : List Nat) : Prop where
  len : σ'.length = σ.length
  at_ : ∀ j : Nat, j ∉ is → σ'[j]? = σ[j]?
theorem Agr.refl {σ : L2.St} {is : List Nat} : Agr σ σ is := ⟨rfl, fun _ _ => rfl⟩
theorem Agr.trans {σ σ' σ'' : L2.St} {is js : List Nat} (a : Agr σ σ' is) (b : Agr σ' σ'' js) : Agr σ σ'' (is ++ js) :=
  ⟨b.len.trans a.len, fun j h => (b.at_ j fun z => h (List.mem_append_right _ z)).trans (a.at_ j fun z => h (List.mem_append_left _ z))⟩
theorem Agr.sub {σ σ' : L2.St} {is js : List Nat} (a : Agr σ σ' is) (h : ∀ i ∈ is, i ∈ js) : Agr σ σ' js := ⟨a.len, fun j q => a.at_ j fun z => q (h j z)⟩
section
variable {K : PySem.W.Frag} {G : Gx} {ρ ρ' : List Addr} {H H' : Hp} {A A' : AH}
theorem SRel.set {s : AS} {σ : L2.St} (h : SRel K G ρ H s σ) {i : Nat} {v : AV} {y : V} (hi : ∀ x, G.x = some x → x.i ≠ i) (r : AVr K G ρ H v y) : SRel K G ρ H (s.set i (some v)) (σ.set i (some y)) := by
  refine ⟨by rw [List.length_set, List.length_set, h.len], fun j w q => ?_, fun x hx => ⟨by rw [List.getElem?_set_ne (Ne.symm (hi x hx))]; exact (h.ex x hx).1, (h.ex x hx).2⟩⟩
  by_cases hj : i = j
  · subst hj
    have hi : i < s.length := by
      have := (List.getElem?_eq_some_iff.mp q).1
      simpa using this
    rw [List.getElem?_set_self hi] at q
    cases q
    exact ⟨y, by rw [List.getElem?_set_self (by rw [← h.len]; exact hi)], r⟩
  · rw [List.getElem?_set_ne hj] at q ⊢
    exact h.at_ j w q
theorem SRel.wipe {s : AS} {σ : L2.St} (hx : G.x = none) (h : SRel K G ρ H s σ) : ∀ is : List Nat, SRel K G ρ H (wipeA s is) (L2.wipe σ is)
  | [] => h
  | i :: is => by
    have k := SRel.wipe hx h is
    refine ⟨by show ((wipeA s is).set i none).length = ((L2.wipe σ is).set i none).length; rw [List.length_set, List.length_set, k.len], fun j w q => ?_, fun x e => by rw [hx] at e; cases e⟩
    have q : ((wipeA s is).set i none)[j]? = some (some w) := q
    show ∃ y, ((L2.wipe σ is).set i none)[j]? = some (some y) ∧ AVr K G ρ H w y
    by_cases hj : i = j
    · subst hj
      have hi : i < (wipeA s is).length := by
        have := (List.getElem?_eq_some_iff.mp q).1
        simpa using this
      rw [List.getElem?_set_self hi] at q
      cases q
    · rw [List.getElem?_set_ne hj] at q ⊢
      exact k.at_ j w q
end
section
variable (K : PySem.W.Frag) (G : Gx)
def tG (t : MT) : TG := fun y σ H Q => ∃ ρ s A v s', SRel K G ρ H s σ ∧ HRel K G ρ H A ∧ AVr K G ρ H v y ∧ bindT A t v s = some s' ∧ ∀ σ', SRel K G ρ H s' σ' → Agr σ σ' (slotsT t) → Q σ' H
def tGs (ts : List MT) : TGs := fun ys σ H Q => ∃ ρ s A vs s', SRel K G ρ H s σ ∧ HRel K G ρ H A ∧ AVrs K G ρ H vs ys ∧ bindTs A ts vs s = some s' ∧ ∀ σ', SRel K G ρ H s' σ' → Agr σ σ' (slotsTs ts) → Q σ' H
end
section
variable {T : Tb} {G : Gx} {c : Cl} {k : Nat} {N : List Str} {sc : Scope} {calm blk : Bool} {W : WX} {X : Cx}
theorem chkT_each {t : MT} {e : Expr} {es : List Expr} {env : Env} (h : chkT N sc calm blk t e = true) : assignEach (e :: es) env = (false, assign e env) :: assignEach es env := by
  cases e <;> first
    | rfl
    | (cases t <;> (simp only [chkT, nmOf, tupOf] at h; exact absurd h Bool.false_ne_true))
theorem chkTs_each {env : Env} : ∀ {ts : List MT} {es : List Expr}, chkTs N sc calm blk ts es = true → (assignEach es env).length = ts.length ∧ (assignEach es env).findIdx? (·.1) = none ∧ es.length = ts.length
  | [], [], _ => ⟨rfl, rfl, rfl⟩
  | [], _ :: _, h => by simp only [chkTs] at h; exact absurd h Bool.false_ne_true
  | t :: ts, [], h => by simp only [chkTs] at h; exact absurd h Bool.false_ne_true
  | t :: ts, e :: es, h => by
    simp only [chkTs] at h
    obtain ⟨h1, h2⟩ := and2 h
    obtain ⟨k1, k2, k3⟩ := chkTs_each (env := env) h2
    rw [chkT_each h1]
    refine ⟨by rw [List.length_cons, List.length_cons, k1], ?_, by rw [List.length_cons, List.length_cons, k3]⟩
    rw [List.findIdx?_cons]
    simp only [Bool.false_eq_true, if_false]
    rw [k2]; rfl
theorem bindTs_len {A : AH} : ∀ {ts : List MT} {vs : List AV} {s s' : AS}, bindTs A ts vs s = some s' → vs.length = ts.length
  | [], [], _, _, _ => rfl
  | [], _ :: _, _, _, h => by simp [bindTs] at h
  | _ :: _, [], _, _, h => by simp [bindTs] at h
  | t :: ts, v :: vs, s, s', h => by
    simp only [bindTs] at h
    split at h
    · rw [List.length_cons, List.length_cons, bindTs_len h]
    · cases h
/-- a slot that is stored is not the handled exception's -/
theorem stB_ne (g : Good T G c k N sc calm blk W X) {i : Nat} {x : Str} (h : stB N sc calm blk i x = true) : ∀ y, G.x = some y → y.i ≠ i := fun y hy e => by
  obtain ⟨hc, nm, h1, h2⟩ := g.xn y hy
  unfold stB at h
  obtain ⟨k1, k2, k3⟩ := and3 h
  have k1 := of_decide_eq_true k1
  rw [e, k1] at h1
  cases h1
  rw [hc, h2] at k3
  cases k3
mutual
theorem soundT (g : Good T G c k N sc calm blk W X) : ∀ (t : MT) (e : Expr), chkT N sc calm blk t e = true → PG X e (tG X.K G t)
  | .nm i, e, h => by
    simp only [chkT] at h
    split at h
    · rename_i x q
      obtain ⟨p, rfl⟩ := nmOf_inv q
      have hne := stB_ne g h
      unfold stB at h
      obtain ⟨h1, h2, _⟩ := and3 h
      obtain ⟨l1, l2⟩ := g.st x h2
      refine PG.weak (pg_name (i := i) (by rw [g.hN]; exact g.nd) (by rw [g.hN]; exact of_decide_eq_true h1) l1 l2) fun y σ H Q q => ?_
      obtain ⟨ρ, s, A, v, s', hs, hr, rv, b, q⟩ := q
      simp only [bindT] at b
      cases (Option.some.inj b)
      refine q _ (hs.set hne rv) ⟨by rw [List.length_set], fun j hj => ?_⟩
      rw [List.getElem?_set_ne]
      intro z
      exact hj (by rw [z]; exact List.mem_singleton.mpr rfl)
    · cases h
  | .tp ts, e, h => by
    simp only [chkT] at h
    split at h
    · rename_i es q
      obtain ⟨kk, p, rfl⟩ := tupOf_inv q
      obtain ⟨hcm, h⟩ := and2 h
      have hc := g.hcalm hcm
      have ih := soundTs g hc ts es h
      obtain ⟨k1, k2, k3⟩ := chkTs_each (env := X.env) h
      refine ⟨fun pins sh σ H y u Q I r q => ?_⟩
      obtain ⟨ρ, s, A, v, s', hs, hr, rv, b, q⟩ := q
      simp only [bindT] at b
      split at b
      · rename_i vs e1
        have fin : ∀ ys, AVrs X.K G ρ H vs ys → tGs X.K G ts ys σ H Q := fun ys hy => ⟨ρ, s, A, vs, s', hs, hr, hy, b, q⟩
        cases rv with
        | @tup a Vs ws w1 w2 =>
          cases (Option.some.inj e1)
          exact (pg_tup hc ih k1 k2).run pins sh σ H _ u Q I r ⟨a, Vs, rfl, w1, by rw [← w2.length]; exact bindTs_len b, fin Vs w2⟩
        | @ref n a w1 =>
          obtain ⟨Vs, w2, w3⟩ := hr.seq e1 w1
          exact (pg_lst hc ih k1 k2).run pins sh σ H _ u Q I r ⟨a, Vs, rfl, w2, by rw [← w3.length]; exact bindTs_len b, fin Vs w3⟩
        | _ => cases e1
      · cases b
    · cases h
theorem soundTs (g : Good T G c k N sc calm blk W X) (hc : X.calm = true) : ∀ (ts : List MT) (es : List Expr), chkTs N sc calm blk ts es = true → PGs X es (tGs X.K G ts)
  | [], [], h => by
    refine ⟨fun pins sh σ H ys us Q I r q => (pgs_nil (X := X)).run pins sh σ H ys us Q I r ?_⟩
    obtain ⟨ρ, s, A, vs, s', hs, hr, rv, b, q⟩ := q
    cases vs with
    | cons _ _ => simp [bindTs] at b
    | nil =>
      simp only [bindTs] at b
      cases (Option.some.inj b)
      cases rv
      exact ⟨rfl, q σ hs .refl⟩
  | [], _ :: _, h => by simp only [chkTs] at h; exact absurd h Bool.false_ne_true
  | t :: ts, [], h => by simp only [chkTs] at h; exact absurd h Bool.false_ne_true
  | t :: ts, e :: es, h => by
    simp only [chkTs] at h
    obtain ⟨h1, h2⟩ := and2 h
    have i1 := soundT g t e h1
    have i2 := soundTs g hc ts es h2
    refine ⟨fun pins sh σ H ys us Q I r q => (pgs_cons i1 i2 (by rw [chkT_each h1]; rfl)).run pins sh σ H ys us Q I r ?_⟩
    obtain ⟨ρ, s, A, vs, s', hs, hr, rv, b, q⟩ := q
    cases vs with
    | nil => simp [bindTs] at b
    | cons v vs =>
      simp only [bindTs] at b
      split at b
      · rename_i s1 b1
        cases rv with
        | cons r1 r2 =>
          refine ⟨_, _, rfl, ⟨ρ, s, A, v, s1, hs, hr, r1, b1, fun σ1 hs1 a1 => ?_⟩⟩
          exact ⟨ρ, s1, A, vs, s', hs1, hr, r2, b, fun σ2 hs2 a2 => q σ2 hs2 (a1.trans a2)⟩
      · cases b
end
end

/-! ### what is walked -/
section
variable (K : PySem.W.Frag) (G : Gx)
/-- the walk J yields what the source tells -/
def ItOk (ρ0 : List Addr) (H0 : Hp) (J : It) (sr : Src) : Prop := ∀ (i : Nat) ρ H A, Hext K ρ0 H0 ρ H → HRel K G ρ H A →
  (∀ v, sr.at A i = some (some v) → J.go i H ∧ ∀ y H', J.yld i H y H' → Hext K ρ H ρ H' ∧ HRel K G ρ H' A ∧ AVr K G ρ H' v y) ∧ (sr.at A i = some none → J.stop i H)
/-- the source's reading -/
def OutI (ρ : List Addr) (H : Hp) (E : XK) (R' : It → Hp → Prop) (k : IK) (r : R (List AV)) : Prop := match r with
  | .ok vs A' => ∃ sr, srcA A' k vs = some sr ∧ ∀ J H' ρ', Hext K ρ H ρ' H' → HRel K G ρ' H' A' → ItOk K G ρ' H' J sr → R' J H'
  | .exc C fs A' => ∀ cls d H' ρ', Hext K ρ H ρ' H' → HRel K G ρ' H' A' → ExR K G ρ' H' C fs cls d → E cls d H'
  | .stuck => False
def tI (c : Cl) (W : WX) (k : IK) (src : MEs) : TI := fun σ H R' => ∃ ρ s A, SRel K G ρ H s σ ∧ HRel K G ρ H A ∧ OutI K G ρ H (wE W σ) R' k (evs c s src A)
end
section
variable {K : PySem.W.Frag} {G : Gx} {ρ ρ' : List Addr} {H H' : Hp} {A A' : AH}
theorem getV_nat {vs : List AV} {i : Nat} {v : AV} (h : vs[i]? = some v) : i < vs.length := (List.getElem?_eq_some_iff.mp h).1
theorem ItOk.list {a : Addr} {n : Nat} (r : ρ[n]? = some a) : ItOk K G ρ H (Itl K a) (.dy n) := by
  intro i ρ1 H1 A1 e hr
  have r1 := e.pre n a r
  refine ⟨fun v q => ?_, fun q => ?_⟩
  · have q : (A1[n]?.bind AO.items?).map (·[i]?) = some (some v) := q
    cases p : A1[n]?.bind AO.items? with
    | none => rw [p] at q; cases q
    | some vs =>
      rw [p] at q
      obtain ⟨Vs, k1, k2⟩ := hr.seq p r1
      obtain ⟨y, k3, k4⟩ := k2.get (Option.some.inj q)
      refine ⟨⟨Vs, y, k1, k3⟩, fun y' H' hy => ?_⟩
      obtain ⟨rfl, hy⟩ := hy
      have e1 := hy Vs k1
      rw [k3] at e1
      cases e1
      exact ⟨.refl, hr, k4⟩
  · have q : (A1[n]?.bind AO.items?).map (·[i]?) = some none := q
    cases p : A1[n]?.bind AO.items? with
    | none => rw [p] at q; cases q
    | some vs =>
      rw [p] at q
      obtain ⟨Vs, k1, k2⟩ := hr.seq p r1
      have q2 : vs[i]? = none := Option.some.inj q
      exact ⟨Vs, k1, by rw [← k2.length]; exact List.getElem?_eq_none_iff.mp q2⟩
theorem ItOk.tup {a : Addr} {vs : List AV} {Vs : List V} (r : SqT K H a Vs) (hv : AVrs K G ρ H vs Vs) : ItOk K G ρ H (Itt K a) (.fx vs) := by
  intro i ρ1 H1 A1 e hr
  refine ⟨fun v q => ?_, fun q => ?_⟩
  · obtain ⟨y, k3, k4⟩ := (hv.mono e).get (Option.some.inj q)
    refine ⟨⟨Vs, y, e.tup a Vs r, k3⟩, fun y' H' hy => ?_⟩
    obtain ⟨rfl, hy⟩ := hy
    have e1 := hy Vs (e.tup a Vs r)
    rw [k3] at e1
    cases e1
    exact ⟨.refl, hr, k4⟩
  · have q2 : vs[i]? = none := Option.some.inj q
    exact ⟨Vs, e.tup a Vs r, by rw [← hv.length]; exact List.getElem?_eq_none_iff.mp q2⟩
theorem ItOk.str {x : Str} : ItOk K G ρ H (Its x) (.fx (signs x)) := by
  intro i ρ1 H1 A1 e hr
  have get : (signs x)[i]? = x.cps[i]?.map fun c => AV.str ⟨#[c]⟩ := by
    unfold signs
    rw [List.getElem?_map, Array.getElem?_toList]
  refine ⟨fun v q => ?_, fun q => ?_⟩
  · have q2 : (signs x)[i]? = some v := Option.some.inj q
    rw [get] at q2
    cases p : x.cps[i]? with
    | none => rw [p] at q2; cases q2
    | some d =>
      rw [p] at q2
      cases (Option.some.inj q2)
      refine ⟨(Array.getElem?_eq_some_iff.mp p).1, fun y' H' hy => ?_⟩
      obtain ⟨rfl, d', h1, rfl⟩ := hy
      rw [p] at h1; cases h1
      exact ⟨.refl, hr, .str _⟩
  · have q2 : (signs x)[i]? = none := Option.some.inj q
    rw [get] at q2
    have q3 : x.cps[i]? = none := by
      cases p : x.cps[i]? with
      | none => rfl
      | some d => rw [p] at q2; cases q2
    exact Array.getElem?_eq_none_iff.mp q3
theorem ItOk.range {lo hi : Int} : ItOk K G ρ H (Itr lo (hi - lo).toNat) (.fx (rangeL lo hi)) := by
  intro i ρ1 H1 A1 e hr
  have get : (rangeL lo hi)[i]? = if i < (hi - lo).toNat then some (.int (lo + (i : Int))) else none := by
    unfold rangeL
    rw [List.getElem?_map]
    by_cases h : i < (hi - lo).toNat
    · rw [List.getElem?_range h, if_pos h]; rfl
    · rw [List.getElem?_eq_none (by simpa using h), if_neg h]; rfl
  refine ⟨fun v q => ?_, fun q => ?_⟩
  · have q2 : (rangeL lo hi)[i]? = some v := Option.some.inj q
    rw [get] at q2
    split at q2
    · rename_i h
      cases (Option.some.inj q2)
      refine ⟨h, fun y' H' hy => ?_⟩
      obtain ⟨rfl, rfl⟩ := hy
      exact ⟨.refl, hr, .int _⟩
    · cases q2
  · have q2 : (rangeL lo hi)[i]? = none := Option.some.inj q
    rw [get] at q2
    split at q2
    · cases q2
    · rename_i h
      exact Nat.le_of_not_lt h
theorem ItOk.enum {a : Addr} {n : Nat} (r : ρ[n]? = some a) : ItOk K G ρ H (Ite K a) (.en (.dy n)) := by
  intro i ρ1 H1 A1 e hr
  have r1 := e.pre n a r
  refine ⟨fun v q => ?_, fun q => ?_⟩
  · have q : ((A1[n]?.bind AO.items?).map (·[i]?)).map (fun o => o.map fun v => AV.tup [.int i, v]) = some (some v) := q
    cases p : A1[n]?.bind AO.items? with
    | none => rw [p] at q; cases q
    | some vs =>
      rw [p] at q
      have q : (vs[i]?).map (fun v => AV.tup [.int i, v]) = some v := Option.some.inj q
      cases p2 : vs[i]? with
      | none => rw [p2] at q; cases q
      | some w =>
        rw [p2] at q
        cases (Option.some.inj q)
        obtain ⟨Vs, k1, k2⟩ := hr.seq p r1
        obtain ⟨y, k3, k4⟩ := k2.get p2
        refine ⟨⟨Vs, y, k1, k3⟩, fun y' H' hy => ?_⟩
        obtain ⟨Tt, z, rfl, hT, rfl, hz⟩ := hy
        have e1 := hz Vs k1
        rw [k3] at e1
        cases e1
        exact ⟨Hext.new0 hT, hr.same hT, .tup (SqT.of upd_same) (.cons (.int _) (.cons (k4.mono (Hext.new0 hT)) .nil))⟩
  · have q : ((A1[n]?.bind AO.items?).map (·[i]?)).map (fun o => o.map fun v => AV.tup [.int i, v]) = some none := q
    cases p : A1[n]?.bind AO.items? with
    | none => rw [p] at q; cases q
    | some vs =>
      rw [p] at q
      have q : (vs[i]?).map (fun v => AV.tup [.int i, v]) = none := Option.some.inj q
      cases p2 : vs[i]? with
      | some w => rw [p2] at q; cases q
      | none =>
        obtain ⟨Vs, k1, k2⟩ := hr.seq p r1
        exact ⟨Vs, k1, by rw [← k2.length]; exact List.getElem?_eq_none_iff.mp p2⟩
theorem ItOk.zip {a b : Addr} {n m : Nat} (r : ρ[n]? = some a) (r' : ρ[m]? = some b) : ItOk K G ρ H (Itz K a b) (.zp (.dy n) (.dy m)) := by
  intro i ρ1 H1 A1 e hr
  have r1 := e.pre n a r
  have r2 := e.pre m b r'
  cases p : A1[n]?.bind AO.items? with
  | none =>
    have z : Src.at A1 i (.zp (.dy n) (.dy m)) = none := by simp only [Src.at, p, Option.map_none]
    exact ⟨fun v q => (by rw [z] at q; cases q), fun q => (by rw [z] at q; cases q)⟩
  | some vs =>
    cases p' : A1[m]?.bind AO.items? with
    | none =>
      have z : Src.at A1 i (.zp (.dy n) (.dy m)) = none := by
        simp only [Src.at, p, p', Option.map_none, Option.map_some]
        cases vs[i]? <;> rfl
      exact ⟨fun v q => (by rw [z] at q; cases q), fun q => (by rw [z] at q; cases q)⟩
    | some ws =>
      obtain ⟨Vs, k1, k2⟩ := hr.seq p r1
      obtain ⟨Ws, k3, k4⟩ := hr.seq p' r2
      have z : Src.at A1 i (.zp (.dy n) (.dy m)) = (match vs[i]?, ws[i]? with
        | some v, some w => some (some (.tup [v, w]))
        | _, _ => some none) := by
        simp only [Src.at, p, p', Option.map_some]
        cases vs[i]? <;> cases ws[i]? <;> rfl
      refine ⟨fun v q => ?_, fun q => ?_⟩
      · rw [z] at q
        cases q1 : vs[i]? with
        | none => rw [q1] at q; cases q
        | some v1 =>
          cases q2 : ws[i]? with
          | none => rw [q1, q2] at q; cases q
          | some w1 =>
            rw [q1, q2] at q
            cases (Option.some.inj (Option.some.inj q))
            obtain ⟨y1, k5, k6⟩ := k2.get q1
            obtain ⟨y2, k7, k8⟩ := k4.get q2
            refine ⟨⟨Vs, Ws, y1, y2, k1, k3, k5, k7⟩, fun y' H' hy => ?_⟩
            obtain ⟨Tt, z1, z2, rfl, hT, rfl, hz1, hz2⟩ := hy
            have e1 := hz1 Vs k1
            rw [k5] at e1; cases e1
            have e2 := hz2 Ws k3
            rw [k7] at e2; cases e2
            exact ⟨Hext.new0 hT, hr.same hT, .tup (SqT.of upd_same) (.cons (k6.mono (Hext.new0 hT)) (.cons (k8.mono (Hext.new0 hT)) .nil))⟩
      · rw [z] at q
        refine ⟨Vs, Ws, k1, k3, ?_⟩
        cases q1 : vs[i]? with
        | none => exact .inl (by rw [← k2.length]; exact List.getElem?_eq_none_iff.mp q1)
        | some v1 =>
          cases q2 : ws[i]? with
          | none => exact .inr (by rw [← k4.length]; exact List.getElem?_eq_none_iff.mp q2)
          | some w1 => rw [q1, q2] at q; cases q
end
end MP

set_option maxRecDepth 100000
set_option autoImplicit false
set_option maxHeartbeats 1000000
/-! MP7: expressions. -/
namespace MP
open PySem PySem.Spec PyProof.Rows L2

section
variable {K : PySem.W.Frag} {G : Gx} {ρ ρ' : List Addr} {H H' : Hp} {A A' : AH} {E : XK} {α β γ δ : Type} {rel : List Addr → Hp → α → β → Prop}
theorem OutB.bind {Q : Bool → Hp → Prop} {Q' : β → Hp → Prop} {r : R α} {f : α → AH → R AV} (h : OutB K G ρ H E Q (r.bind f))
    (k : ∀ a A' y H' ρ', Hext K ρ H ρ' H' → HRel K G ρ' H' A' → rel ρ' H' a y → OutB K G ρ' H' E Q (f a A') → Q' y H') : OutG K G rel ρ H E Q' r := by
  cases r with
  | ok a A => exact fun y H2 ρ2 e2 hr rv => k a A y H2 ρ2 e2 hr rv (OutB.mono (r := f a A) h e2)
  | exc C fs A => exact h
  | stuck => exact h
theorem OutG.q {Q Q' : β → Hp → Prop} {r : R α} (h : OutG K G rel ρ H E Q r) (k : ∀ y H, Q y H → Q' y H) : OutG K G rel ρ H E Q' r := by
  cases r with
  | ok a A => exact fun y H2 ρ2 e2 hr rv => k y H2 (h y H2 ρ2 e2 hr rv)
  | exc C fs A => exact h
  | stuck => exact h
theorem OutB.q {Q Q' : Bool → Hp → Prop} {r : R AV} (h : OutB K G ρ H E Q r) (k : ∀ y H, Q y H → Q' y H) : OutB K G ρ H E Q' r := by
  cases r with
  | ok a A =>
    obtain ⟨b, e, h⟩ := h
    exact ⟨b, e, fun H2 ρ2 e2 hr => k b H2 (h H2 ρ2 e2 hr)⟩
  | exc C fs A => exact h
  | stuck => exact h
theorem OutB.bl {Q : Bool → Hp → Prop} {o : Option Bool} (h : OutB K G ρ H E Q (blR A o)) (hr : HRel K G ρ H A) : ∃ b, o = some b ∧ Q b H := by
  cases o with
  | none => exact False.elim h
  | some b =>
    obtain ⟨b', e, q⟩ := h
    cases (Option.some.inj e)
    exact ⟨b, rfl, q H ρ .refl hr⟩
theorem Out.bl {Q : VK} {o : Option Bool} (h : Out K G ρ H E Q (blR A o)) (hr : HRel K G ρ H A) : ∃ b, o = some b ∧ Q (.bl b) H := by
  cases o with
  | none => exact False.elim h
  | some b => exact ⟨b, rfl, OutG.at h hr (.bl b)⟩
theorem OutB.not {Q : Bool → Hp → Prop} {r : R AV} (h : OutB K G ρ H E Q (r.bind fun v A => blR A ((truA A v).map (!·)))) : OutB K G ρ H E (fun b H => Q (!b) H) r := by
  cases r with
  | ok v A =>
    have h : OutB K G ρ H E Q (blR A ((truA A v).map (!·))) := h
    cases q : truA A v with
    | none => rw [q] at h; exact False.elim h
    | some b =>
      rw [q] at h
      obtain ⟨b', e, k⟩ := h
      cases (Option.some.inj e)
      exact ⟨b, q, k⟩
  | exc C fs A => exact h
  | stuck => exact h
end
def plainT : Expr → Bool
  | .UnaryOp op _ _ => match op with
    | .Not => false
    | _ => true
  | .BoolOp _ _ _ => false
  | .IfExp _ _ _ _ => false
  | .Compare _ _ _ _ => false
  | _ => true
theorem isT_plain {e : Expr} {env : Env} (h : plainT e = true) (whole : Sem Value) : isTrue e env whole = (do let v ← whole; standAt e.pos; holding [v] (truthy v)) := by
  cases e <;> first
    | rfl
    | exact absurd h Bool.false_ne_true
    | (rename_i op _ _; cases op <;> first | rfl | exact absurd h Bool.false_ne_true)
section
variable {X : Cx} {env : Env}
theorem pt_ifExp {pos : Pos} {cc a b : Expr} {tc ta tb : TT} (hc : PT X cc tc) (ha : PT X a ta) (hb : PT X b tb) : PT X (.IfExp cc a b pos) (fun σ H Q => tc σ H fun d H1 => if d = true then ta σ H1 Q else tb σ H1 Q) := by
  refine ⟨fun pins s σ H Q I h => ?_⟩
  show wpAny _ _ (do if ← isTrue cc X.env (eval cc X.env) then isTrue a X.env (eval a X.env) else isTrue b X.env (eval b X.env)) _ _ _
  refine wpAny_bind (thn (hc.run pins s σ H _ I h) fun d s1 ⟨H1, I1, q1⟩ => ?_)
  cases d with
  | true => exact ha.run pins s1 σ H1 Q I1 q1
  | false => exact hb.run pins s1 σ H1 Q I1 q1
end
section
variable {T : Tb} {G : Gx} {c : Cl} {k : Nat} {N : List Str} {sc : Scope} {calm blk : Bool} {W : WX} {X : Cx}
abbrev PB (X : Cx) (G : Gx) (c : Cl) (W : WX) (e : Expr) (me : ME) : Prop := PE X e (tE X.K G c W me) ∧ PT X e (tT X.K G c W me)
theorem pb_of {e : Expr} {me : ME} (h : PE X e (tE X.K G c W me)) (p : plainT e = true) : PB X G c W e me := ⟨h, tT_of h (isT_plain p)⟩

/-! ### one form each -/
theorem e_var (g : Good T G c k N sc calm blk W X) {e : Expr} {i : Nat} (h : chkE T N sc calm (.var i) e = true) : PB X G c W e (.var i) := by
  simp only [chkE] at h
  split at h
  · rename_i x q
    obtain ⟨p, rfl⟩ := nmOf_inv q
    obtain ⟨h1, h2, h3⟩ := and3 h
    obtain ⟨p1, p2, p3⟩ := plainN_inv h3
    refine pb_of (PE.weak (pe_var (i := i) (by rw [g.hN]; exact of_decide_eq_true h1) (visB_inv g h2) p1 p2) fun σ H Q q => ?_) rfl
    obtain ⟨ρ, s, A, hs, hr, out⟩ := q
    simp only [evE] at out
    split at out
    · rename_i v e1
      obtain ⟨y, k1, k2⟩ := hs.at_ i v e1
      exact ⟨y, k1, OutG.at out hr k2⟩
    · exact False.elim out
  · cases h
theorem e_cst (g : Good T G c k N sc calm blk W X) {e : Expr} {v : AV} (h : chkE T N sc calm (.cst v) e = true) : PB X G c W e (.cst v) := by
  simp only [chkE] at h
  split at h
  · rename_i x q
    obtain ⟨j, p, rfl⟩ := cstOf_inv q
    exact pb_of (cst_ok h) rfl
  · cases h
theorem e_gl (g : Good T G c k N sc calm blk W X) {e : Expr} {i : Nat} (h : chkE T N sc calm (.gl i) e = true) : PB X G c W e (.gl i) := by
  simp only [chkE] at h
  split at h
  · rename_i x q
    obtain ⟨p, rfl⟩ := nmOf_inv q
    obtain ⟨h1, h2, h3⟩ := and3 h
    obtain ⟨p1, p2, p3⟩ := plainN_inv h3
    have h1 := of_decide_eq_true h1
    cases q2 : T.gls[i]? with
    | none => rw [q2] at h1; cases h1
    | some xv =>
      obtain ⟨x', v⟩ := xv
      rw [q2] at h1
      cases (Option.some.inj h1)
      obtain ⟨u, y, k1, k2, k3⟩ := g.gls i x' v q2
      refine pb_of (PE.weak (pe_glob (glB_inv g h2) k1 k2 p1) fun σ H Q q => ?_) rfl
      obtain ⟨ρ, s, A, hs, hr, out⟩ := q
      simp only [evE] at out
      rw [g.glc i, q2] at out
      exact OutG.at out hr (k3 ρ H)
  · cases h
theorem e_bin (g : Good T G c k N sc calm blk W X) {e f : Expr} {o : BO} {a b : ME} {p : Pos} (ha : PE X e (tE X.K G c W a)) (hb : PE X f (tE X.K G c W b)) : PB X G c W (.BinOp e o.op f p) (.bin o a b) := by
  refine pb_of (PE.weak (pe_op (opB_ok (G := G) o) ha hb) fun σ H Q q => ?_) rfl
  obtain ⟨ρ, s, A, hs, hr, out⟩ := q
  simp only [evE] at out
  exact ⟨ρ, s, A, hs, hr, OutG.bind out fun v A1 y H1 ρ1 e1 hr1 r1 out1 => ⟨ρ1, s, A1, hs.mono e1, hr1, OutG.bind out1 fun w A2 z H2 ρ2 e2 hr2 r2 out2 =>
    ⟨ρ2, A2, v, w, wE W σ, hr2, r1.mono e2, r2, out2⟩⟩⟩
theorem e_neg (g : Good T G c k N sc calm blk W X) {e : Expr} {a : ME} {p : Pos} (ha : PE X e (tE X.K G c W a)) : PB X G c W (.UnaryOp .USub e p) (.neg a) := by
  refine pb_of (PE.weak (pe_un un_neg ha) fun σ H Q q => ?_) rfl
  obtain ⟨ρ, s, A, hs, hr, out⟩ := q
  simp only [evE] at out
  refine ⟨ρ, s, A, hs, hr, OutG.bind out fun v A1 y H1 ρ1 e1 hr1 r1 out1 => ?_⟩
  cases r1 with
  | int i => exact ⟨i, rfl, OutG.at out1 hr1 (.int _)⟩
  | _ => exact False.elim out1
theorem e_not (g : Good T G c k N sc calm blk W X) {e : Expr} {a : ME} {p : Pos} (ha : PB X G c W e a) : PB X G c W (.UnaryOp .Not e p) (.not a) := by
  refine ⟨PE.weak (pe_notT ha.1) fun σ H Q q => ?_, PT.weak (pt_not ha.2) fun σ H Q q => ?_⟩
  · obtain ⟨ρ, s, A, hs, hr, out⟩ := q
    simp only [evE] at out
    refine ⟨ρ, s, A, hs, hr, OutG.bind out fun v A1 y H1 ρ1 e1 hr1 r1 out1 => ?_⟩
    obtain ⟨b, e2, q⟩ := Out.bl out1 hr1
    obtain ⟨b', e3, rfl⟩ := map_not e2
    exact ⟨b', tru_rel hr1 r1 e3, q⟩
  · obtain ⟨ρ, s, A, hs, hr, out⟩ := q
    simp only [evE] at out
    exact ⟨ρ, s, A, hs, hr, OutB.not out⟩
theorem e_cmp (g : Good T G c k N sc calm blk W X) {e f : Expr} {o : CO} {a b : ME} {p : Pos} (ha : PE X e (tE X.K G c W a)) (hb : PE X f (tE X.K G c W b)) (hf : okHead f = true) : PB X G c W (.Compare e [o.op] [f] p) (.cmp o a b) := by
  refine ⟨PE.weak (pe_cmpR (opC_ok g.hG g.un o) ha hb (head_mark hf _)) fun σ H Q q => ?_, PT.weak (pt_cmpR (opC_ok g.hG g.un o) ha hb (head_mark hf _)) fun σ H Q q => ?_⟩
  · obtain ⟨ρ, s, A, hs, hr, out⟩ := q
    simp only [evE] at out
    refine ⟨ρ, s, A, hs, hr, OutG.bind out fun v A1 y H1 ρ1 e1 hr1 r1 out1 => ⟨ρ1, s, A1, hs.mono e1, hr1, OutG.bind out1 fun w A2 z H2 ρ2 e2 hr2 r2 out2 => ?_⟩⟩
    obtain ⟨b, e3, q⟩ := Out.bl out2 hr2
    exact ⟨ρ2, A2, v, w, b, hr2, r1.mono e2, r2, e3, q⟩
  · obtain ⟨ρ, s, A, hs, hr, out⟩ := q
    simp only [evE] at out
    refine ⟨ρ, s, A, hs, hr, OutB.bind out fun v A1 y H1 ρ1 e1 hr1 r1 out1 => ⟨ρ1, s, A1, hs.mono e1, hr1, OutB.bind out1 fun w A2 z H2 ρ2 e2 hr2 r2 out2 => ?_⟩⟩
    obtain ⟨b, e3, q⟩ := OutB.bl out2 hr2
    exact ⟨ρ2, A2, v, w, b, hr2, r1.mono e2, r2, e3, b, rfl, q⟩
theorem e_cmp2 (g : Good T G c k N sc calm blk W X) {e f h : Expr} {o o2 : CO} {a b d : ME} {p : Pos} (ha : PE X e (tE X.K G c W a)) (hb : PE X f (tE X.K G c W b)) (hd : PE X h (tE X.K G c W d)) (hf : okHead h = true) : PB X G c W (.Compare e [o.op, o2.op] [f, h] p) (.cmp2 o o2 a b d) := by
  have hm : lastMarks [o.op, o2.op] [f, h] = false := head_mark hf o2.op
  refine ⟨PE.weak (pe_chain (opC_ok g.hG g.un o) (opC_ok g.hG g.un o2) ha hb hd hm) fun σ H Q q => ?_, PT.weak (pt_chain (opC_ok g.hG g.un o) (opC_ok g.hG g.un o2) ha hb hd hm) fun σ H Q q => ?_⟩
  · obtain ⟨ρ, s, A, hs, hr, out⟩ := q
    simp only [evE] at out
    refine ⟨ρ, s, A, hs, hr, OutG.bind out fun v A1 y H1 ρ1 e1 hr1 r1 out1 => ⟨ρ1, s, A1, hs.mono e1, hr1, OutG.bind out1 fun w A2 z H2 ρ2 e2 hr2 r2 out2 => ?_⟩⟩
    split at out2
    · rename_i eq
      refine ⟨ρ2, A2, v, w, true, hr2, r1.mono e2, r2, eq, true, rfl, ?_⟩
      rw [if_pos rfl]
      refine ⟨ρ2, s, A2, (hs.mono e1).mono e2, hr2, OutG.bind out2 fun u A3 x H3 ρ3 e3 hr3 r3 out3 => ?_⟩
      obtain ⟨b, e4, q⟩ := Out.bl out3 hr3
      exact ⟨ρ3, A3, w, u, b, hr3, r2.mono e3, r3, e4, q⟩
    · rename_i eq
      refine ⟨ρ2, A2, v, w, false, hr2, r1.mono e2, r2, eq, false, rfl, ?_⟩
      rw [if_neg Bool.false_ne_true]
      exact OutG.at out2 hr2 (.bl false)
    · exact False.elim out2
  · obtain ⟨ρ, s, A, hs, hr, out⟩ := q
    simp only [evE] at out
    refine ⟨ρ, s, A, hs, hr, OutB.bind out fun v A1 y H1 ρ1 e1 hr1 r1 out1 => ⟨ρ1, s, A1, hs.mono e1, hr1, OutB.bind out1 fun w A2 z H2 ρ2 e2 hr2 r2 out2 => ?_⟩⟩
    split at out2
    · rename_i eq
      refine ⟨ρ2, A2, v, w, true, hr2, r1.mono e2, r2, eq, true, rfl, ?_⟩
      rw [if_pos rfl]
      refine ⟨ρ2, s, A2, (hs.mono e1).mono e2, hr2, OutB.bind out2 fun u A3 x H3 ρ3 e3 hr3 r3 out3 => ?_⟩
      obtain ⟨b, e4, q⟩ := OutB.bl out3 hr3
      exact ⟨ρ3, A3, w, u, b, hr3, r2.mono e3, r3, e4, b, rfl, q⟩
    · rename_i eq
      refine ⟨ρ2, A2, v, w, false, hr2, r1.mono e2, r2, eq, false, rfl, ?_⟩
      rw [if_neg Bool.false_ne_true]
      obtain ⟨b, e4, q⟩ := OutB.bl (o := some false) out2 hr2
      cases (Option.some.inj e4)
      exact ⟨false, rfl, q⟩
    · exact False.elim out2
theorem e_ife (g : Good T G c k N sc calm blk W X) {e f h : Expr} {d a b : ME} {p : Pos} (hd : PB X G c W e d) (ha : PB X G c W f a) (hb : PB X G c W h b) : PB X G c W (.IfExp e f h p) (.ife d a b) := by
  refine ⟨PE.weak (pe_ifExp hd.2 ha.1 hb.1) fun σ H Q q => ?_, PT.weak (pt_ifExp hd.2 ha.2 hb.2) fun σ H Q q => ?_⟩
  · obtain ⟨ρ, s, A, hs, hr, out⟩ := q
    simp only [evE] at out
    refine ⟨ρ, s, A, hs, hr, ?_⟩
    cases r : evE c s d A with
    | ok v A1 =>
      rw [r] at out
      have out : Out X.K G ρ H (wE W σ) Q (match truA A1 v with | some true => evE c s a A1 | some false => evE c s b A1 | none => .stuck) := out
      split at out
      · rename_i eq
        refine ⟨true, eq, fun H1 ρ1 e1 hr1 => ?_⟩
        show tE X.K G c W a σ H1 Q
        exact ⟨ρ1, s, A1, hs.mono e1, hr1, OutG.mono out e1⟩
      · rename_i eq
        refine ⟨false, eq, fun H1 ρ1 e1 hr1 => ?_⟩
        show tE X.K G c W b σ H1 Q
        exact ⟨ρ1, s, A1, hs.mono e1, hr1, OutG.mono out e1⟩
      · exact False.elim out
    | exc C fs A1 => rw [r] at out; exact out
    | stuck => rw [r] at out; exact out
  · obtain ⟨ρ, s, A, hs, hr, out⟩ := q
    simp only [evE] at out
    refine ⟨ρ, s, A, hs, hr, ?_⟩
    cases r : evE c s d A with
    | ok v A1 =>
      rw [r] at out
      have out : OutB X.K G ρ H (wE W σ) Q (match truA A1 v with | some true => evE c s a A1 | some false => evE c s b A1 | none => .stuck) := out
      split at out
      · rename_i eq
        refine ⟨true, eq, fun H1 ρ1 e1 hr1 => ?_⟩
        show tT X.K G c W a σ H1 Q
        exact ⟨ρ1, s, A1, hs.mono e1, hr1, OutB.mono out e1⟩
      · rename_i eq
        refine ⟨false, eq, fun H1 ρ1 e1 hr1 => ?_⟩
        show tT X.K G c W b σ H1 Q
        exact ⟨ρ1, s, A1, hs.mono e1, hr1, OutB.mono out e1⟩
      · exact False.elim out
    | exc C fs A1 => rw [r] at out; exact out
    | stuck => rw [r] at out; exact out
theorem e_tup (g : Good T G c k N sc calm blk W X) {fs : List Expr} {es : MEs} {kk : Nat} {p : Pos} (ha : PA X fs (tEs X.K G c W es)) : PB X G c W (.Tuple fs kk p) (.tup es) := by
  refine pb_of (PE.weak (pe_tup ha) fun σ H Q q => ?_) rfl
  obtain ⟨ρ, s, A, hs, hr, out⟩ := q
  simp only [evE] at out
  refine ⟨ρ, s, A, hs, hr, OutG.bind out fun vs A1 ys H1 ρ1 e1 hr1 r1 out1 => ?_⟩
  split at out1
  · rename_i hl
    exact ⟨by rw [← r1.length]; exact hl, fun p hp => Out.newT out1 hr1 r1 hp⟩
  · exact False.elim out1
theorem e_lst (g : Good T G c k N sc calm blk W X) {fs : List Expr} {es : MEs} {p : Pos} (ha : PA X fs (tEs X.K G c W es)) : PB X G c W (.List fs p) (.lst es) := by
  refine pb_of (PE.weak (pe_lst ha) fun σ H Q q => ?_) rfl
  obtain ⟨ρ, s, A, hs, hr, out⟩ := q
  simp only [evE] at out
  refine ⟨ρ, s, A, hs, hr, OutG.bind out fun vs A1 ys H1 ρ1 e1 hr1 r1 out1 => ?_⟩
  unfold newL at out1
  split at out1
  · rename_i hl
    exact ⟨by rw [← r1.length]; exact hl, fun p hp => Out.newL out1 hr1 r1 hp⟩
  · exact False.elim out1
theorem e_idx (g : Good T G c k N sc calm blk W X) {e f : Expr} {a b : ME} {p : Pos} (ha : PE X e (tE X.K G c W a)) (hb : PE X f (tE X.K G c W b)) (hf : okHead f = true) : PB X G c W (.Subscript e f p) (.idx a b) := by
  refine pb_of (PE.weak (pe_ix (ix_ok (G := G)) ha hb (head_ix hf)) fun σ H Q q => ?_) rfl
  obtain ⟨ρ, s, A, hs, hr, out⟩ := q
  simp only [evE] at out
  refine ⟨ρ, s, A, hs, hr, OutG.bind out fun v A1 y H1 ρ1 e1 hr1 r1 out1 => ⟨ρ1, s, A1, hs.mono e1, hr1, OutG.bind out1 fun w A2 z H2 ρ2 e2 hr2 r2 out2 => ?_⟩⟩
  cases q3 : idxA A2 v w with
  | none => rw [q3] at out2; exact False.elim out2
  | some z2 =>
    rw [q3] at out2
    exact ⟨ρ2, A2, v, w, z2, hr2, r1.mono e2, r2, q3, fun zz rz => OutG.at out2 hr2 rz⟩
theorem e_call (g : Good T G c k N sc calm blk W X) {x : Str} {fs : List Expr} {f : Nat} {es : MEs} {p p2 : Pos} (hc : calm = true) (h1 : decide ((T.fns[f]?).map (fun d => (d.plain, d.name, d.at_)) = some (true, x, (x, none))) = true) (h2 : glB sc x = true) (h3 : plainN x = true) (hh : allHead fs = true) (hn : fs.isEmpty = false)
    (ha : PA X fs (tEs X.K G c W es)) : PB X G c W (.Call (.Name x p) fs [] p2) (.call f es) := by
  have h1 := of_decide_eq_true h1
  cases q2 : T.fns[f]? with
  | none => rw [q2] at h1; cases h1
  | some d =>
    rw [q2] at h1
    obtain ⟨hpl, hx⟩ := Prod.mk.inj (Option.some.inj h1)
    obtain ⟨hx, hat⟩ := Prod.mk.inj hx
    subst hx
    obtain ⟨a, fd, dvs, kvs, k1, k2, k3, k4, _⟩ := (g.fns f d q2).ex
    have k3 := k3 hpl
    have k1 := k1 hat
    obtain ⟨p1, _, _⟩ := plainN_inv h3
    cases fs with
    | nil => cases hn
    | cons e es' =>
      have hh : (okHead e && allHead es') = true := hh
      obtain ⟨hh1, hh2⟩ := and2 hh
      refine pb_of (PE.weak (pe_callS (E := WE W) k4 (g.room1 hc) (glB_inv g h2) k1 k2 k3 (fun σ => passAt g.takes σ) ha p1 (head_star hh1) (star_plain hh2)) fun σ H Q q => ?_) rfl
      obtain ⟨ρ, s, A, hs, hr, out⟩ := q
      simp only [evE] at out
      exact ⟨ρ, s, A, hs, hr, OutG.bind out fun vs A1 ys H1 ρ1 e1 hr1 r1 out1 => ⟨ρ1, A1, vs, hr1, r1, out1⟩⟩
theorem arr_rel {K : PySem.W.Frag} {ρ : List Addr} {H : Hp} {vs ds ms ws : List AV} {us its mv zs : List V} (h1 : AVrs K G ρ H vs us) (h2 : AVrs K G ρ H ds its) (h3 : AVrs K G ρ H ms mv) (h4 : AVrs K G ρ H ws zs) : ∀ arr : List Ar, AVrs K G ρ H (arrG arr vs ds ms ws) (arrG arr us its mv zs)
  | [] => .nil
  | a :: arr => by
    have ih := arr_rel h1 h2 h3 h4 arr
    have key : ∀ {xs : List AV} {ys : List V} (i : Nat), AVrs K G ρ H xs ys → (∃ v y, xs[i]? = some v ∧ ys[i]? = some y ∧ AVr K G ρ H v y) ∨ (xs[i]? = none ∧ ys[i]? = none) := fun {xs ys} i hx => by
      cases q : xs[i]? with
      | some v =>
        obtain ⟨y, e, r⟩ := hx.get q
        exact .inl ⟨v, y, rfl, e, r⟩
      | none =>
        right
        rw [List.getElem?_eq_none_iff] at q ⊢
        rw [← hx.length]; exact ⟨rfl, q⟩
    unfold arrG at ih ⊢
    rw [List.filterMap_cons, List.filterMap_cons]
    cases a with
    | pos i =>
      rcases key i h1 with ⟨v, y, e1, e2, r⟩ | ⟨e1, e2⟩
      · simp only [e1, e2]; exact .cons r ih
      · simp only [e1, e2]; exact ih
    | kw i =>
      rcases key i h4 with ⟨v, y, e1, e2, r⟩ | ⟨e1, e2⟩
      · simp only [e1, e2]; exact .cons r ih
      · simp only [e1, e2]; exact ih
    | dfl i =>
      rcases key i h2 with ⟨v, y, e1, e2, r⟩ | ⟨e1, e2⟩
      · simp only [e1, e2]; exact .cons r ih
      · simp only [e1, e2]; exact ih
    | kwd i =>
      rcases key i h3 with ⟨v, y, e1, e2, r⟩ | ⟨e1, e2⟩
      · simp only [e1, e2]; exact .cons r ih
      · simp only [e1, e2]; exact ih
theorem pick_rel {K : PySem.W.Frag} {ρ : List Addr} {H : Hp} {vs : List AV} {us : List V} (h1 : AVrs K G ρ H vs us) : ∀ ms : List Nat, AVrs K G ρ H (ms.filterMap (vs[·]?)) (ms.filterMap (us[·]?))
  | [] => .nil
  | i :: ms => by
    have ih := pick_rel h1 ms
    rw [List.filterMap_cons, List.filterMap_cons]
    cases q : vs[i]? with
    | some v =>
      obtain ⟨y, e, r⟩ := h1.get q
      rw [e]
      exact .cons r ih
    | none =>
      have e : us[i]? = none := by
        rw [List.getElem?_eq_none_iff] at q ⊢
        rw [← h1.length]; exact q
      rw [e]
      exact ih
/-- a call with keywords, the wish by the slots -/
def tCallNS (n m : Nat) (sp : Sp) (gV : List V → List V → List V) (E : L2.St → XK) (t tk : TA) : TE := fun σ H Q => t σ H fun vs H1 => tk σ H1 fun zs H2 => vs.length = n ∧ zs.length = m ∧ sp (gV vs zs) H2 Q (E σ)
theorem run_fnNS {CX : CXT} {k n : Nat} {f : Addr} {fd : FuncData} {ps ks : List Str} {sp : Sp} {E : L2.St → XK} {g : List Value → List Value → List Value} {gV : List V → List V → List V} {pins : List (Addr × Obj)} {σ : L2.St} {H : Hp} {s : Shared} {Q : VK} {us ws : List Value} {vs zs : List V}
    (F : FnOk X.prog X.w X.K X.mg X.base CX k f fd ps sp) (hr : Room k X.A) (hb : KBn X.K fd ps n ks g gV) (hx : PassesAt CX X σ (E σ))
    (I : Inv X pins σ H s) (r : Vals vs us) (rz : Vals zs ws) (l1 : vs.length = n) (l2 : zs.length = ks.length) (h : sp (gV vs zs) H Q (E σ)) : wpAny (model X.prog X.w) X.A (call (.ref f) us (ks.zip ws)) (EP X pins σ Q) X.xe s := by
  have r2 := hb.rel r rz
  refine wpAny_call (codeAny_mono (F.run X.A X.stack s H ⟨us, ks.zip ws⟩ (g us ws) (gV vs zs) Q (E σ) hr I.env0 (hb.to s us ws I.kIn (r.length.symm.trans l1) (rz.length.symm.trans l2)) r2 h) fun r s' hq => ?_)
  match r, hq with
  | .error e, hq => exact hx pins H s e s' I hq
  | .ok (.ret u), hq => exact I.after hq
theorem pe_callNS {CX : CXT} {k n : Nat} {f : Addr} {fd : FuncData} {ps ks : List Str} {sp : Sp} {E : L2.St → XK} {x : Str} {p pos : Pos} {e : Expr} {es : List Expr} {kws : List Keyword} {t tk : TA} {g : List Value → List Value → List Value} {gV : List V → List V → List V}
    (F : FnOk X.prog X.w X.K X.mg X.base CX k f fd ps sp) (hr : Room k X.A) (hg : Gl X x) (hm : X.mg x = some (.ref f)) (hk : PySem.W.keepIn X.K (.ref f) = true) (hb : KBn X.K fd ps n ks g gV) (hx : ∀ σ, PassesAt CX X σ (E σ))
    (ha : PA X (e :: es) t) (hkw : PK X kws tk) (hall : (backToKw pos (keywordEach kws X.env)).all (·.1.isSome) = true) (hks : (backToKw pos (keywordEach kws X.env)).filterMap (·.1) = ks)
    (hdb : (x == ("__debug__" : Str)) = false) (he : starEach (e :: es) X.env = (false, eval e X.env) :: starEach es X.env)
    (hpl : ((backTo pos (starEach (e :: es) X.env)).any (·.1) || (backToKw pos (keywordEach kws X.env)).any (·.1.isNone)) = false) :
    PE X (.Call (.Name x p) (e :: es) kws pos) (tCallNS n ks.length sp gV E t tk) := by
  refine ⟨fun pins s σ H Q I h => wpAny_Call_Name_kw (ld_glob I hg hm ?_ hdb)⟩
  refine PySem.W.callWith_KW (h₀ := X.base) I.ok.mod.kin hk hall (thn (ha.run pos pins s σ H _ I h) fun us s1 ⟨vs, H1, I1, r, q⟩ => thn (hkw.run pos pins s1 σ H1 _ I1 q) fun ws s2 ⟨zs, H2, I2, rz, l1, l2, q2⟩ => ⟨I2.kIn, ?_⟩) hpl he
  rw [hks]
  exact run_fnNS F hr hb (hx σ) I2 r rz l1 l2 q2
theorem kw_all {env : Env} {pos : Pos} : ∀ {kws : List Keyword} {ks : List Str}, kws.map (·.arg) = ks.map some → (backToKw pos (keywordEach kws env)).all (·.1.isSome) = true ∧ (backToKw pos (keywordEach kws env)).filterMap (·.1) = ks ∧ (backToKw pos (keywordEach kws env)).any (·.1.isNone) = false
  | [], [], _ => ⟨rfl, rfl, rfl⟩
  | [], _ :: _, h => by cases h
  | ⟨a, v, p⟩ :: kws, [], h => by cases h
  | ⟨a, v, p⟩ :: kws, k :: ks, h => by
    have h1 : a = some k ∧ kws.map (·.arg) = ks.map some := by simpa using h
    obtain ⟨rfl, h2⟩ := h1
    obtain ⟨i1, i2, i3⟩ := kw_all (env := env) (pos := pos) h2
    have e : backToKw pos (keywordEach (⟨some k, v, p⟩ :: kws) env) = (some k, ((backToKw pos (keywordEach (⟨some k, v, p⟩ :: kws) env)).head!).2) :: backToKw pos (keywordEach kws env) := rfl
    rw [e]
    refine ⟨?_, ?_, ?_⟩
    · rw [List.all_cons, i1]; rfl
    · rw [List.filterMap_cons, i2]
    · rw [List.any_cons, i3]; rfl
theorem e_callk (g : Good T G c k N sc calm blk W X) {x y : Str} {z : Str × Option Str} {m : Form} {fs : List Expr} {ks : List Keyword} {f fm : Nat} {es kes : MEs} {p p2 : Pos} (hc : calm = true) (hq : ((T.fns[f]?).bind fun d => (d.forms[fm]?).map fun m => (d.name, d.at_, m)) = some (y, z, m)) (hyx : y = x) (hzx : z = (x, none)) (h2 : glB sc x = true) (h3 : plainN x = true) (hh : allHead fs = true) (hn : fs.isEmpty = false)
    (hks : ks.map (·.arg) = m.ks.map some) (ha : PA X fs (tEs X.K G c W es)) (hk : PK X ks (tEs X.K G c W kes)) : PB X G c W (.Call (.Name x p) fs ks p2) (.callk f fm es kes) := by
  cases q2 : T.fns[f]? with
  | none => rw [q2] at hq; cases hq
  | some d =>
    rw [q2] at hq
    have hq : (d.forms[fm]?).map (fun m => (d.name, d.at_, m)) = some (y, z, m) := hq
    cases q3 : d.forms[fm]? with
    | none => rw [q3] at hq; cases hq
    | some m' =>
      rw [q3] at hq
      obtain ⟨e1, e2⟩ := Prod.mk.inj (Option.some.inj hq)
      obtain ⟨e3, e2⟩ := Prod.mk.inj e2
      subst e2
      subst hyx
      subst e1
      have hat := e3.trans hzx
      obtain ⟨a, fd, dvs, kvs, k1, k2, _, k4, k5, k6, k7, _⟩ := (g.fns f d q2).ex
      obtain ⟨gg, hkb⟩ := k7 m' (List.mem_of_getElem? q3)
      have k1 := k1 hat
      obtain ⟨p1, _, _⟩ := plainN_inv h3
      cases fs with
      | nil => cases hn
      | cons e es' =>
        have hh : (okHead e && allHead es') = true := hh
        obtain ⟨hh1, hh2⟩ := and2 hh
        obtain ⟨w1, w2, w3⟩ := kw_all (env := X.env) (pos := p2) hks
        refine pb_of (PE.weak (pe_callNS (E := WE W) k4 (g.room1 hc) (glB_inv g h2) k1 k2 hkb (fun σ => passAt g.takes σ) ha hk w1 w2 p1 (head_star hh1) (by rw [w3, Bool.or_false]; exact star_plain (es := e :: es') (by show (okHead e && allHead es') = true; rw [hh1, hh2]; rfl))) fun σ H Q q => ?_) rfl
        obtain ⟨ρ, s, A, hs, hr, out⟩ := q
        simp only [evE] at out
        refine ⟨ρ, s, A, hs, hr, OutG.bind out fun vs A1 ys H1 ρ1 e1 hr1 r1 out1 => ⟨ρ1, s, A1, hs.mono e1, hr1, OutG.bind out1 fun ws A2 zs H2 ρ2 e2 hr2 r2 out2 => ?_⟩⟩
        rw [g.form] at out2
        have ef : T.form f fm vs ws = formA d m' vs ws := by
          unfold Tb.form
          rw [q2]
          show (match d.forms[fm]? with | some m => formA d m vs ws | none => none) = _
          rw [q3]
        rw [ef] at out2
        unfold formA at out2
        by_cases hl : vs.length = m'.n ∧ ws.length = m'.ks.length
        · rw [if_pos hl] at out2
          exact ⟨by rw [← r1.length]; exact hl.1, by rw [← r2.length]; exact hl.2, ρ2, A2, _, hr2, arr_rel (r1.mono e2) (k5 ρ2 H2) (pick_rel (k6 ρ2 H2) m'.ms) r2 m'.arr, out2⟩
        · rw [if_neg hl] at out2
          exact False.elim out2
/-- a built-in by its rule -/
theorem e_blt_of (g : Good T G c k N sc calm blk W X) {b : BF} {fs : List Expr} {es : MEs} {e0 : Expr} (hp : plainT e0 = true) (h : PE X e0 (tCB (rF X.K G b) (tEs X.K G c W es))) : PB X G c W e0 (.blt b es) := by
  refine pb_of (PE.weak h fun σ H Q q => ?_) hp
  obtain ⟨ρ, s, A, hs, hr, out⟩ := q
  simp only [evE] at out
  exact ⟨ρ, s, A, hs, hr, OutG.bind out fun vs A1 ys H1 ρ1 e1 hr1 r1 out1 => ⟨ρ1, A1, vs, wE W σ, hr1, r1, out1⟩⟩
theorem boot_str' : bootBuiltins (Str.ofString "str") = some (.type "str") := by decide +kernel
theorem boot_repr' : bootBuiltins (Str.ofString "repr") = some (.builtin "repr") := by decide +kernel
theorem boot_divmod' : bootBuiltins (Str.ofString "divmod") = some (.builtin "divmod") := by decide +kernel
theorem e_blt (g : Good T G c k N sc calm blk W X) {x : Str} {fs : List Expr} {b : BF} {z : String} {tt : Bool} {es : MEs} {p p2 : Pos} (hb : b.nm = some (z, tt)) (h1 : bltB T sc x (Str.ofString z) = true) (hc : calm = true) (hh : allHead fs = true) (hn : fs.isEmpty = false)
    (ha : PA X fs (tEs X.K G c W es)) : PB X G c W (.Call (.Name x p) fs [] p2) (.blt b es) := by
  obtain ⟨rfl, l2, l3, l4, l5⟩ := bltB_inv g h1
  have hc' := g.hcalm hc
  cases fs with
  | nil => cases hn
  | cons e es' =>
    have hh : (okHead e && allHead es') = true := hh
    obtain ⟨hh1, hh2⟩ := and2 hh
    refine e_blt_of g (fs := e :: es') rfl ?_
    cases b <;> cases hb
    · exact pe_callB F_len l2 l3 PySem.boot_len ha l5 l4 (head_star hh1) (star_plain hh2)
    · exact pe_callB F_abs l2 l3 PyProof.Rows.boot_abs ha l5 l4 (head_star hh1) (star_plain hh2)
    · exact pe_callB (F_sum hc') l2 l3 PyProof.Rows.boot_sum ha l5 l4 (head_star hh1) (star_plain hh2)
    · exact pe_callB (F_max hc') l2 l3 PyProof.Rows.boot_max ha l5 l4 (head_star hh1) (star_plain hh2)
    · exact pe_callB (F_min hc') l2 l3 PyProof.Rows.boot_min ha l5 l4 (head_star hh1) (star_plain hh2)
    · exact pe_callTy F_int l2 l3 PyProof.Rows.boot_int ha l5 l4 (head_star hh1) (star_plain hh2)
    · exact pe_callTy F_str l2 l3 boot_str' ha l5 l4 (head_star hh1) (star_plain hh2)
    · exact pe_callTy F_list l2 l3 PyProof.Rows.boot_list ha l5 l4 (head_star hh1) (star_plain hh2)
    · exact pe_callTy F_tuple l2 l3 PyProof.Rows.boot_tuple ha l5 l4 (head_star hh1) (star_plain hh2)
    · exact pe_callB (F_all hc') l2 l3 PyProof.Rows.boot_all ha l5 l4 (head_star hh1) (star_plain hh2)
    · exact pe_callB (F_any hc') l2 l3 PyProof.Rows.boot_any ha l5 l4 (head_star hh1) (star_plain hh2)
    · exact pe_callB F_repr l2 l3 boot_repr' ha l5 l4 (head_star hh1) (star_plain hh2)
    · exact pe_callB F_divmod l2 l3 boot_divmod' ha l5 l4 (head_star hh1) (star_plain hh2)
theorem base_of {e : Expr} {z : Str} {env : Env} {whole : Sem Value} (h : notSuper e = true) : attributeBase e z env whole = whole := by
  cases e with
  | Call f as ks p =>
    cases f with
    | Name x q => cases as with
      | nil => cases ks with
        | nil => cases h
        | cons _ _ => rfl
      | cons _ _ => rfl
    | _ => rfl
  | _ => rfl
theorem rcv_ty {ρ : List Addr} {H : Hp} {A : AH} {b : BM} {v : AV} {x : V} (hr : HRel X.K G ρ H A) (r : AVr X.K G ρ H v x) (h : rcvA A b v = true) : tyV X.K b.ty x H := by
  have key : ∀ {n : Nat}, v = .ref n → (lstAt A n).isSome = true → tyV X.K "list" x H := fun {n} e h' => by
    subst e
    obtain ⟨vs, e⟩ := Option.isSome_iff_exists.mp h'
    cases r with
    | ref k =>
      obtain ⟨Vs, k1, _⟩ := hr.lst e k
      exact .inl ⟨rfl, Vs, .inl (.inl k1)⟩
  cases v with
  | ref n => cases b <;> first
    | exact key rfl h
    | cases h
  | str y =>
    cases r
    cases b <;> first
    | rfl
    | cases h
  | _ => cases b <;> cases h
theorem tBM_of {b : BM} {es : MEs} {o : ME} {σ : L2.St} {H : Hp} {Q : VK} (q : tE X.K G c W (.bm b o es) σ H Q) :
    tBM X.K b.ty (rM X.K G b) (tE X.K G c W o) (tEs X.K G c W es) σ H Q := by
  obtain ⟨ρ, s, A, hs, hr, out⟩ := q
  simp only [evE] at out
  refine ⟨ρ, s, A, hs, hr, OutG.bind out fun v A1 y H1 ρ1 e1 hr1 r1 out1 => ?_⟩
  split at out1
  · rename_i hrc
    exact ⟨rcv_ty hr1 r1 hrc, ρ1, s, A1, hs.mono e1, hr1, OutG.bind out1 fun vs A2 ys H2 ρ2 e2 hr2 r2 out2 => ⟨ρ2, A2, v, vs, wE W σ, hr2, r1.mono e2, r2, out2⟩⟩
  · exact False.elim out1
theorem tBM0_of {b : BM} {o : ME} {σ : L2.St} {H : Hp} {Q : VK} (q : tE X.K G c W (.bm b o .nil) σ H Q) :
    tBM0 X.K b.ty (rM X.K G b) (tE X.K G c W o) σ H Q := by
  obtain ⟨ρ, s, A, hs, hr, out⟩ := q
  simp only [evE] at out
  refine ⟨ρ, s, A, hs, hr, OutG.bind out fun v A1 y H1 ρ1 e1 hr1 r1 out1 => ?_⟩
  split at out1
  · rename_i hrc
    simp only [evs] at out1
    exact ⟨rcv_ty hr1 r1 hrc, ρ1, A1, v, [], wE W σ, hr1, r1, .nil, out1⟩
  · exact False.elim out1
theorem e_bm (g : Good T G c k N sc calm blk W X) {z : Str} {q : String} {n : Nat} {e : Expr} {fs : List Expr} {b : BM} {o : ME} {es : MEs} {ap p : Pos} (hb : b.nm = some (q, n)) (hz : z = Str.ofString q) (hl : fs.length = n) (hli : (ap.endLine == p.line) = true)
    (hs : notSuper e = true) (ho : PE X e (tE X.K G c W o)) (hch : chkEs T N sc calm es fs = true) (ha : PA X fs (tEs X.K G c W es)) : PB X G c W (.Call (.Attribute e z ap) fs [] p) (.bm b o es) := by
  subst hz
  have one : ∀ {id : String}, n = 1 → PlainAttrs b.ty → Slot b.ty (Str.ofString q) id → typeOf (.builtin id) = pure (.type "method_descriptor") → MtR X id (rM X.K G b) → PB X G c W (.Call (.Attribute e (Str.ofString q) ap) fs [] p) (.bm b o es) := fun {id} h1 h0 h2 h3 h4 => by
    cases fs with
    | nil => subst h1; cases hl
    | cons e1 es1 => cases es1 with
      | cons _ _ => subst h1; exact absurd hl (by simp)
      | nil =>
        have hh : (okHead e1 && allHead []) = true := chkEs_head hch
        obtain ⟨hh1, hh2⟩ := and2 hh
        refine pb_of (PE.weak (pe_bm h0 h2 h3 h4 ho ha (base_of hs) ?_ hli (head_star hh1) (star_plain (es := []) rfl)) fun σ H Q q => tBM_of q) rfl
        rw [head_star hh1]; rfl
  have nul : ∀ {id : String}, n = 0 → PlainAttrs b.ty → Slot b.ty (Str.ofString q) id → typeOf (.builtin id) = pure (.type "method_descriptor") → MtR X id (rM X.K G b) → PB X G c W (.Call (.Attribute e (Str.ofString q) ap) fs [] p) (.bm b o es) := fun {id} h1 h0 h2 h3 h4 => by
    cases fs with
    | cons _ _ => subst h1; cases hl
    | nil =>
      cases es with
      | cons _ _ => simp only [chkEs] at hch; exact absurd hch Bool.false_ne_true
      | nil =>
        exact pb_of (PE.weak (pe_bm0 h0 h2 h3 h4 ho (base_of hs) hli) fun σ H Q q => tBM0_of q) rfl
  cases b <;> cases hb
  · exact one rfl PySem.F.plainAttrs_list PySem.F.slot_list_append PySem.F.type_list_append M_append
  · exact nul rfl PySem.F.plainAttrs_list PySem.F.slot_list_pop PySem.F.type_list_pop M_pop
  · exact one rfl PySem.F.plainAttrs_list PySem.F.slot_list_pop PySem.F.type_list_pop M_popAt
  · exact nul rfl PySem.F.plainAttrs_list PySem.F.slot_list_reverse PySem.F.type_list_reverse M_reverse
  · exact nul rfl PySem.F.plainAttrs_list PySem.F.slot_list_clear PySem.F.type_list_clear M_clear
  · exact one rfl PySem.F.plainAttrs_str PySem.F.slot_str_split PySem.F.type_str_split M_split
  · exact one rfl PySem.F.plainAttrs_str PySem.F.slot_str_partition PySem.F.type_str_partition M_partition
  · exact one rfl PySem.F.plainAttrs_str PySem.F.slot_str_join PySem.F.type_str_join M_join
  · exact one rfl PySem.F.plainAttrs_str PySem.F.slot_str_startswith PySem.F.type_str_startswith M_startswith
  · exact one rfl PySem.F.plainAttrs_str PySem.F.slot_str_find PySem.F.type_str_find M_find
theorem e_isi (g : Good T G c k N sc calm blk W X) {x y : Str} {e : Expr} {a : ME} {t : TyN} {p p2 p3 : Pos} (h1 : bltB T sc x (Str.ofString "isinstance") = true) (h2 : bltB T sc y (Str.ofString t.nm) = true) (he : okHead e = true) (ha : PE X e (tE X.K G c W a)) :
    PB X G c W (.Call (.Name x p) [e, .Name y p2] [] p3) (.isi a t) := by
  obtain ⟨rfl, l2, l3, l4, l5⟩ := bltB_inv g h1
  obtain ⟨rfl, m2, m3, m4, m5⟩ := bltB_inv g h2
  have ht : bootBuiltins (Str.ofString t.nm) = some (.type t.nm) := by
    cases t
    · exact PyProof.Rows.boot_int
    · exact PyProof.Rows.boot_bool
    · exact PyProof.Rows.boot_str
    · exact PyProof.Rows.boot_list
    · exact PyProof.Rows.boot_tuple
  have pn : PE X (.Name (Str.ofString t.nm) p2) (tC (.ty t.nm)) := pe_bltn m2 m3 ht rfl m5 m4
  refine pb_of (PE.weak (pe_callB (F_isi (G := G) t) l2 l3 PyProof.Rows.boot_isinstance (pa_cons ha (pa_cons pn pa_nil (head_star rfl)) (head_star he)) l5 l4 (head_star he) (star_plain (es := [.Name (Str.ofString t.nm) p2]) rfl)) fun σ H Q q => ?_) rfl
  obtain ⟨ρ, s, A, hs, hr, out⟩ := q
  simp only [evE] at out
  refine ⟨ρ, s, A, hs, hr, OutG.bind out fun v A1 z H1 ρ1 e1 hr1 r1 out1 => ?_⟩
  obtain ⟨b, e3, q⟩ := Out.bl out1 hr1
  exact ⟨ρ1, A1, v, z, b, rfl, hr1, r1, e3, q⟩
/-! ### and, or -/
theorem b_one (g : Good T G c k N sc calm blk W X) {kk : Bool} {e : Expr} {a : ME} {p : Pos} (ha : PB X G c W e a) : PE X (.BoolOp (if kk then .And else .Or) [e] p) (tBv X.K G c W kk (.cons a .nil)) ∧ PW X (.BoolOp (if kk then .And else .Or) [e] p) (tBt X.K G c W kk (.cons a .nil)) := by
  refine ⟨PE.weak (pe_one ha.1) fun σ H Q q => ?_, ?_⟩
  · obtain ⟨ρ, s, A, hs, hr, out⟩ := q
    simp only [evB] at out
    exact ⟨ρ, s, A, hs, hr, out⟩
  · cases kk with
    | true =>
      refine PW.weak (pw_and1 ha.2) fun σ H Q q => ?_
      obtain ⟨ρ, s, A, hs, hr, out⟩ := q
      simp only [evB] at out
      exact ⟨ρ, s, A, hs, hr, out⟩
    | false =>
      refine PW.weak (pw_or1 ha.2) fun σ H Q q => ?_
      obtain ⟨ρ, s, A, hs, hr, out⟩ := q
      simp only [evB] at out
      exact ⟨ρ, s, A, hs, hr, out⟩
theorem b_more (g : Good T G c k N sc calm blk W X) {kk : Bool} {e f : Expr} {fs : List Expr} {a b : ME} {es : MEs} {p : Pos} (ha : PB X G c W e a)
    (hb : PE X (.BoolOp (if kk then .And else .Or) (f :: fs) p) (tBv X.K G c W kk (.cons b es)) ∧ PW X (.BoolOp (if kk then .And else .Or) (f :: fs) p) (tBt X.K G c W kk (.cons b es))) :
    PE X (.BoolOp (if kk then .And else .Or) (e :: f :: fs) p) (tBv X.K G c W kk (.cons a (.cons b es))) ∧ PW X (.BoolOp (if kk then .And else .Or) (e :: f :: fs) p) (tBt X.K G c W kk (.cons a (.cons b es))) := by
  obtain ⟨hb1, hb2⟩ := hb
  have ev : ∀ s A, evB c s kk (.cons a (.cons b es)) A = (evE c s a A).bind fun v A => match truA A v with
    | some t => if t == kk then evB c s kk (.cons b es) A else .ok v A
    | none => .stuck := fun s A => by simp only [evB] <;> rfl
  constructor
  · have fin : ∀ {σ : L2.St} {H : Hp} {Q : VK}, tBv X.K G c W kk (.cons a (.cons b es)) σ H Q → tE X.K G c W a σ H fun x H1 => ∃ k, TruV X.K x H1 k ∧ if k = kk then tBv X.K G c W kk (.cons b es) σ H1 Q else Q x H1 := fun {σ H Q} q => by
      obtain ⟨ρ, s, A, hs, hr, out⟩ := q
      rw [ev] at out
      refine ⟨ρ, s, A, hs, hr, OutG.bind out fun v A1 y H1 ρ1 e1 hr1 r1 out1 => ?_⟩
      split at out1
      · rename_i t et
        refine ⟨t, tru_rel hr1 r1 et, ?_⟩
        split at out1
        · rename_i h
          rw [if_pos (eq_of_beq h)]
          exact ⟨ρ1, s, A1, hs.mono e1, hr1, out1⟩
        · rename_i h
          rw [if_neg fun z => h (by rw [z]; exact beq_self_eq_true kk)]
          exact OutG.at out1 hr1 r1
      · exact False.elim out1
    cases kk with
    | true => exact PE.weak (pe_andT ha.1 hb1) fun σ H Q q => fin q
    | false =>
      refine PE.weak (pe_orT ha.1 hb1) fun σ H Q q => ?_
      obtain ⟨ρ, s, A, hs, hr, out⟩ := fin q
      refine ⟨ρ, s, A, hs, hr, OutG.q out fun y H1 q1 => ?_⟩
      obtain ⟨t, k1, k2⟩ := q1
      refine ⟨t, k1, ?_⟩
      cases t with
      | true => exact k2
      | false => exact k2
  · have fin : ∀ {σ : L2.St} {H : Hp} {Q : Bool → Hp → Prop}, tBt X.K G c W kk (.cons a (.cons b es)) σ H Q → tT X.K G c W a σ H fun t H1 => if t = kk then tBt X.K G c W kk (.cons b es) σ H1 Q else Q t H1 := fun {σ H Q} q => by
      obtain ⟨ρ, s, A, hs, hr, out⟩ := q
      rw [ev] at out
      refine ⟨ρ, s, A, hs, hr, ?_⟩
      cases r : evE c s a A with
      | ok v A1 =>
        rw [r] at out
        have out : OutB X.K G ρ H (wE W σ) Q (match truA A1 v with | some t => if t == kk then evB c s kk (.cons b es) A1 else .ok v A1 | none => .stuck) := out
        split at out
        · rename_i t et
          refine ⟨t, et, fun H1 ρ1 e1 hr1 => ?_⟩
          split at out
          · rename_i h
            rw [if_pos (eq_of_beq h)]
            exact ⟨ρ1, s, A1, hs.mono e1, hr1, OutB.mono out e1⟩
          · rename_i h
            rw [if_neg fun z => h (by rw [z]; exact beq_self_eq_true kk)]
            obtain ⟨b', e', q⟩ := out
            rw [et] at e'
            cases (Option.some.inj e')
            exact q H1 ρ1 e1 hr1
        · exact False.elim out
      | exc C fs A1 => rw [r] at out; exact out
      | stuck => rw [r] at out; exact out
    cases kk with
    | true =>
      refine PW.weak (pw_and ha.2 hb2) fun σ H Q q => ?_
      obtain ⟨ρ, s, A, hs, hr, out⟩ := fin q
      refine ⟨ρ, s, A, hs, hr, OutB.q out fun t H1 q1 => ?_⟩
      cases t with
      | true => exact q1
      | false => exact q1
    | false =>
      refine PW.weak (pw_or ha.2 hb2) fun σ H Q q => ?_
      obtain ⟨ρ, s, A, hs, hr, out⟩ := fin q
      refine ⟨ρ, s, A, hs, hr, OutB.q out fun t H1 q1 => ?_⟩
      cases t with
      | true => exact q1
      | false => exact q1
end
end MP

set_option maxRecDepth 100000
set_option autoImplicit false
set_option maxHeartbeats 1000000
/-! MPE: slices, f-strings, instances, the handled exception. -/
namespace MP
open PySem PySem.Spec PyProof.Rows L2
section
variable {T : Tb} {G : Gx} {c : Cl} {k : Nat} {N : List Str} {sc : Scope} {calm blk : Bool} {W : WX} {X : Cx}
/-! ### slices -/
def bndV : List V → Option (Option Int)
  | [] => some none
  | [.int i] => some (some i)
  | _ => none
theorem bnd_rel {K : PySem.W.Frag} {ρ : List Addr} {H : Hp} {vs : List AV} {ys : List V} {o : Option Int} (h : AVrs K G ρ H vs ys) (e : bndA vs = some o) : bndV ys = some o := by
  cases h with
  | nil => exact e
  | cons r rs =>
    cases rs with
    | nil => cases r with
      | int i => exact e
      | _ => cases e
    | cons _ _ => cases r <;> cases e
def tO (K : PySem.W.Frag) (G : Gx) (c : Cl) (W : WX) (lo : MEs) : TO := fun σ H Q => tEs K G c W lo σ H fun ys H1 => ∃ o, bndV ys = some o ∧ Q o H1
theorem o_none : PO X none (tO X.K G c W .nil) := by
  refine ⟨fun pins s σ H Q I h => po_none.run pins s σ H Q I ?_⟩
  obtain ⟨ρ, s, A, hs, hr, out⟩ := h
  simp only [evs] at out
  obtain ⟨o, e, q⟩ := OutG.at out hr .nil
  cases (Option.some.inj e)
  exact q
theorem o_some {e : Expr} {a : ME} (ha : PE X e (tE X.K G c W a)) : PO X (some e) (tO X.K G c W (.cons a .nil)) := by
  refine ⟨fun pins s σ H Q I h => (po_some ha).run pins s σ H Q I ?_⟩
  obtain ⟨ρ, s, A, hs, hr, out⟩ := h
  simp only [evs] at out
  refine ⟨ρ, s, A, hs, hr, OutG.bind out fun v A1 y H1 ρ1 e1 hr1 r1 out1 => ?_⟩
  obtain ⟨o, e2, q⟩ := OutG.at out1 hr1 (.cons r1 .nil)
  cases y with
  | int i => cases (Option.some.inj e2); exact ⟨i, rfl, q⟩
  | _ => cases e2
theorem e_slc {e : Expr} {l u : Option Expr} {a : ME} {lo hi : MEs} {p2 p : Pos} (ha : PE X e (tE X.K G c W a)) (hl : PO X l (tO X.K G c W lo)) (hu : PO X u (tO X.K G c W hi)) : PB X G c W (.Subscript e (.Slice l u none p2) p) (.slc a lo hi) := by
  refine pb_of (PE.weak (pe_slice (sl_ok (G := G)) ha hl hu) fun σ H Q q => ?_) rfl
  obtain ⟨ρ, s, A, hs, hr, out⟩ := q
  simp only [evE] at out
  refine ⟨ρ, s, A, hs, hr, OutG.bind out fun v A1 y H1 ρ1 e1 hr1 r1 out1 => ⟨ρ1, s, A1, hs.mono e1, hr1, OutG.bind out1 fun ls A2 ys H2 ρ2 e2 hr2 r2 out2 => ?_⟩⟩
  split at out2
  · rename_i o q1
    refine ⟨o, bnd_rel r2 q1, ρ2, s, A2, (hs.mono e1).mono e2, hr2, OutG.bind out2 fun us A3 zs H3 ρ3 e3 hr3 r3 out3 => ?_⟩
    split at out3
    · rename_i o2 q2
      exact ⟨o2, bnd_rel r3 q2, ρ3, A3, v, wE W σ, hr3, (r1.mono e2).mono e3, out3⟩
    · exact False.elim out3
  · exact False.elim out2
theorem e_rev {e : Expr} {a : ME} {kk : Nat} {p1 p2 p3 p : Pos} (ha : PE X e (tE X.K G c W a)) : PB X G c W (.Subscript e (.Slice none none (some (.UnaryOp .USub (.Constant (.int 1) kk p1) p2)) p3) p) (.rev a) := by
  refine pb_of (PE.weak (L2.pe_revL ha) fun σ H Q q => ?_) rfl
  obtain ⟨ρ, s, A, hs, hr, out⟩ := q
  simp only [evE] at out
  refine ⟨ρ, s, A, hs, hr, OutG.bind out fun v A1 y H1 ρ1 e1 hr1 r1 out1 => ?_⟩
  cases r1 with
  | @ref n a k1 =>
    obtain ⟨ws, Ws, w1, w2, w3, o2⟩ := lstR (f := fun vs => new A1 (.lst vs.reverse)) hr1 k1 out1
    exact ⟨a, Ws, rfl, SqL.of w1, fun p hp => Out.newL o2 hr1 w2.reverse hp⟩
  | _ => exact False.elim out1
/-! ### f-strings -/
theorem e_fmt {e : Expr} {a : ME} {p : Pos} (ha : PE X e (tE X.K G c W a)) : PB X G c W (.FormattedValue e (-1) none p) (.fmt a) := by
  refine pb_of (PE.weak (pe_fmt ha) fun σ H Q q => ?_) rfl
  obtain ⟨ρ, s, A, hs, hr, out⟩ := q
  simp only [evE] at out
  refine ⟨ρ, s, A, hs, hr, OutG.bind out fun v A1 y H1 ρ1 e1 hr1 r1 out1 => ?_⟩
  cases r1 with
  | str x =>
    have o2 : Out X.K G ρ1 H1 (wE W σ) Q (if x.length ≤ sizeLine then .ok (.str x) A1 else .stuck) := out1
    split at o2
    · rename_i hl
      exact .inl ⟨x, rfl, hl, OutG.at o2 hr1 (.str _)⟩
    · exact False.elim o2
  | int i =>
    have o2 : Out X.K G ρ1 H1 (wE W σ) Q (if i.natAbs.log2 < 1920 then .ok (.str (toString i)) A1 else .stuck) := out1
    split at o2
    · rename_i hl
      exact .inr ⟨i, rfl, hl, OutG.at o2 hr1 (.str _)⟩
    · exact False.elim o2
  | _ => exact False.elim out1
theorem empty_app (y : Str) : Str.empty ++ y = y := by
  show (⟨Str.empty.cps ++ y.cps⟩ : Str) = y
  show (⟨#[] ++ y.cps⟩ : Str) = y
  rw [Array.empty_append]
theorem app_assoc (x y z : Str) : x ++ y ++ z = x ++ (y ++ z) := by
  show (⟨x.cps ++ y.cps ++ z.cps⟩ : Str) = ⟨x.cps ++ (y.cps ++ z.cps)⟩
  rw [Array.append_assoc]
theorem app_empty (y : Str) : y ++ Str.empty = y := by
  show (⟨y.cps ++ #[]⟩ : Str) = y
  rw [Array.append_empty]
theorem app_len (x y : Str) : (x ++ y).length = x.length + y.length := by
  show (x.cps ++ y.cps).size = x.cps.size + y.cps.size
  rw [Array.size_append]
inductive PEs (X : Cx) (G : Gx) (c : Cl) (W : WX) : MEs → List Expr → List TE → Prop
  | nil : PEs X G c W .nil [] []
  | cons {a : ME} {as : MEs} {e : Expr} {es : List Expr} {ts : List TE} (h : PE X e (tE X.K G c W a)) (r : PEs X G c W as es ts) : PEs X G c W (.cons a as) (e :: es) (tE X.K G c W a :: ts)
theorem PEs.pj {as : MEs} {es : List Expr} {ts : List TE} (h : PEs X G c W as es ts) : PJ X es ts := by
  induction h with
  | nil => exact .nil
  | cons h r ih => exact .cons h ih
theorem PEs.js {as : MEs} {es : List Expr} {ts : List TE} (h : PEs X G c W as es ts) : ∀ {ρ : List Addr} {s : AS} {A : AH} {σ : L2.St} {H : Hp} {acc : Str} {Q : VK}, SRel X.K G ρ H s σ → HRel X.K G ρ H A →
    Out X.K G ρ H (wE W σ) Q (evJ c s acc as A) → tJs ts acc σ H fun z H1 => Q (.str z) H1 := by
  induction h with
  | nil =>
    intro ρ s A σ H acc Q hs hr out
    simp only [evJ] at out
    exact OutG.at out hr (.str _)
  | @cons a as e es ts h r ih =>
    intro ρ s A σ H acc Q hs hr out
    simp only [evJ] at out
    show tE X.K G c W a σ H fun x H1 => ∃ y : Str, x = .str y ∧ (acc ++ y).length ≤ sizeLine ∧ tJs ts (acc ++ y) σ H1 _
    refine ⟨ρ, s, A, hs, hr, OutG.bind out fun v A1 y H1 ρ1 e1 hr1 r1 out1 => ?_⟩
    cases r1 with
    | str x =>
      have o2 : Out X.K G ρ1 H1 (wE W σ) Q (match (if (acc ++ x).length ≤ sizeLine then some (acc ++ x) else none) with
        | some acc => evJ c s acc as A1
        | none => .stuck) := out1
      by_cases hl : (acc ++ x).length ≤ sizeLine
      · rw [if_pos hl] at o2
        exact ⟨x, rfl, hl, ih (hs.mono e1) hr1 o2⟩
      · rw [if_neg hl] at o2
        exact False.elim o2
    | _ => exact False.elim out1
theorem e_fstr {as : MEs} {fs : List Expr} {ts : List TE} {p : Pos} (h : PEs X G c W as fs ts) (hn : fs.isEmpty = false) : PB X G c W (.JoinedStr fs p) (.fstr as) := by
  refine pb_of ?_ rfl
  cases h with
  | nil => cases hn
  | @cons a as' e es ts' h r =>
    cases r with
    | nil =>
      refine PE.weak (pe_joined1 h) fun σ H Q q => ?_
      obtain ⟨ρ, s, A, hs, hr, out⟩ := q
      simp only [evE, evJ] at out
      refine ⟨ρ, s, A, hs, hr, OutG.bind out fun v A1 y H1 ρ1 e1 hr1 r1 out1 => ?_⟩
      cases r1 with
      | str x =>
        have o2 : Out X.K G ρ1 H1 (wE W σ) Q (match (if (Str.empty ++ x).length ≤ sizeLine then some (Str.empty ++ x) else none) with
          | some acc => .ok (.str acc) A1
          | none => .stuck) := out1
        rw [empty_app] at o2
        by_cases hl : x.length ≤ sizeLine
        · rw [if_pos hl] at o2
          exact OutG.at o2 hr1 (.str _)
        · rw [if_neg hl] at o2
          exact False.elim o2
      | _ => exact False.elim out1
    | cons h2 r2 =>
      refine PE.weak (pe_joined (PEs.pj (.cons h (.cons h2 r2)))) fun σ H Q q => ?_
      obtain ⟨ρ, s, A, hs, hr, out⟩ := q
      simp only [evE] at out
      exact PEs.js (.cons h (.cons h2 r2)) hs hr out
end
end MP

set_option maxRecDepth 100000
set_option autoImplicit false
set_option maxHeartbeats 1000000
/-! MPI: instances, the handled exception. -/
namespace MP
open PySem PySem.Spec PyProof.Rows L2
section
variable {K : PySem.W.Frag} {G : Nat → Option V} {ρ : List Addr} {H : Hp} {A : AH}
theorem insAt_rel (hr : HRel K G ρ H A) {v : AV} {y : V} {C : Nat} {fs : List (Str × AV)} (r : AVr K G ρ H v y) (e : insAt A v = some (C, fs)) : ∃ n a Ca dx Fs, v = .ref n ∧ y = .ref a ∧ ρ[n]? = some a ∧ A[n]? = some (.ins C fs) ∧ G C = some (.ref Ca) ∧ H a = some (.ins Ca dx Fs) ∧ FldR K G ρ H fs Fs := by
  cases r with
  | @ref n a k =>
    have e' : (match A[n]? with | some (.ins C fs) => some (C, fs) | _ => none) = some (C, fs) := e
    split at e'
    · rename_i C' fs' hq
      cases (Option.some.inj e')
      obtain ⟨Ca, dx, Fs, h1, h2, h3⟩ := hr.obj n _ a hq k
      exact ⟨n, a, Ca, dx, Fs, rfl, rfl, k, hq, h1, h2, h3⟩
    · cases e'
  | _ => cases e
end
section
variable {T : Tb} {G : Gx} {c : Cl} {k : Nat} {N : List Str} {sc : Scope} {calm blk : Bool} {W : WX} {X : Cx}
theorem methN_own {C f : Nat} {m : Str} (h : T.methN C m = some f) : ∃ nm i ms fl, T.cls[C]? = some (.own nm i ms fl) := by
  unfold Tb.methN at h
  split at h
  · exact ⟨_, _, _, _, by assumption⟩
  · cases h
theorem initN_own {C f : Nat} (h : T.initN C = some f) : ∃ nm ms fl, T.cls[C]? = some (.own nm f ms fl) := by
  unfold Tb.initN at h
  split at h
  · cases (Option.some.inj h); exact ⟨_, _, _, by assumption⟩
  · cases h
theorem fldN_own {C : Nat} {f : Str} (h : T.fldN C f = true) : ∃ nm i ms fl, T.cls[C]? = some (.own nm i ms fl) ∧ f ∈ fl := by
  unfold Tb.fldN at h
  split at h
  · exact ⟨_, _, _, _, by assumption, by simpa using h⟩
  · cases h
theorem dunN_fn {C f : Nat} {m : Str} (h : T.dunN C m = some f) : T.methN C m = some f ∧ ∃ d, T.fns[f]? = some d ∧ d.plain = true := by
  unfold Tb.dunN at h
  split at h
  · rename_i g hg
    split at h
    · rename_i d hd
      split at h
      · cases (Option.some.inj h); exact ⟨hg, d, hd, by assumption⟩
      · cases h
    · cases h
  · cases h
theorem initB_inv {C i : Nat} {fm : Option (Nat × Nat × List (Option Str))} (hi : initB T C fm = true) (h : T.initN C = some i) : ∃ d, T.fns[i]? = some d ∧ takesB d fm = true := by
  unfold initB at hi
  rw [h] at hi
  have hi : (match T.fns[i]? with | some d => takesB d fm | none => false) = true := hi
  split at hi
  · exact ⟨_, by assumption, hi⟩
  · cases hi
theorem methB_inv {C i : Nat} {m : Str} {fm : Option (Nat × Nat × List (Option Str))} (hi : methB T C m fm = true) : ∃ i d, T.methN C m = some i ∧ T.fns[i]? = some d ∧ takesB d fm = true := by
  unfold methB at hi
  split at hi
  · split at hi
    · exact ⟨_, _, by assumption, by assumption, hi⟩
    · cases hi
  · cases hi
theorem form_rel (g : Good T G c k N sc calm blk W X) {i fm : Nat} {d : FnT} {m' : Form} {vs ws zs : List AV} {us ys dvs kvs : List V} {ρ : List Addr} {H : Hp} (q2 : T.fns[i]? = some d) (q3 : d.forms[fm]? = some m') (e : c.form i fm vs ws = some zs) (r1 : AVrs X.K G ρ H vs us) (r2 : AVrs X.K G ρ H ws ys)
    (k5 : ∀ ρ H, AVrs X.K G ρ H d.dvs dvs) (k6 : ∀ ρ H, AVrs X.K G ρ H d.kvs kvs) : us.length = m'.n ∧ ys.length = m'.ks.length ∧ AVrs X.K G ρ H zs (arrG m'.arr us dvs (m'.ms.filterMap (kvs[·]?)) ys) := by
  rw [g.form] at e
  have ef : T.form i fm vs ws = formA d m' vs ws := by
    unfold Tb.form
    rw [q2]
    show (match d.forms[fm]? with | some m => formA d m vs ws | none => none) = _
    rw [q3]
  rw [ef] at e
  unfold formA at e
  by_cases hl : vs.length = m'.n ∧ ws.length = m'.ks.length
  · rw [if_pos hl] at e
    cases (Option.some.inj e)
    exact ⟨by rw [← r1.length]; exact hl.1, by rw [← r2.length]; exact hl.2, arr_rel r1 (k5 ρ H) (pick_rel (k6 ρ H) m'.ms) r2 m'.arr⟩
  · rw [if_neg hl] at e
    cases e
theorem takes_form {d : FnT} {fm n : Nat} {ks : List (Option Str)} (h : takesB d (some (fm, n, ks)) = true) : ∃ m', d.forms[fm]? = some m' ∧ m'.n = n ∧ m'.ks.map some = ks := by
  unfold takesB at h
  have h : (match d.forms[fm]? with | some q => decide (q.n = n) && decide (q.ks.map some = ks) | none => false) = true := h
  split at h
  · obtain ⟨h1, h2⟩ := and2 h
    exact ⟨_, by assumption, of_decide_eq_true h1, of_decide_eq_true h2⟩
  · cases h
theorem clsB_inv {C : Nat} {x : Str} (h : clsB T C x = true) : ∃ i ms fl, T.cls[C]? = some (.own x i ms fl) := by
  unfold clsB at h
  split at h
  · cases (of_decide_eq_true h); exact ⟨_, _, _, by assumption⟩
  · cases h
theorem excB_inv {C : Nat} {x : Str} (h : excB T C x = true) : ∃ b ps up fs d, T.cls[C]? = some (.exc x b ps up fs d) := by
  unfold excB at h
  split at h
  · cases (of_decide_eq_true h); exact ⟨_, _, _, _, _, by assumption⟩
  · cases h
/-- o.f -/
theorem e_fld (g : Good T G c k N sc calm blk W X) {e : Expr} {f : Str} {a : ME} {p : Pos} (hn : notSuper e = true) (ha : PE X e (tE X.K G c W a)) : PB X G c W (.Attribute e f p) (.fld a f) := by
  refine pb_of (PE.weak (pe_fld ha (base_of hn)) fun σ H Q q => ?_) rfl
  obtain ⟨ρ, s, A, hs, hr, out⟩ := q
  simp only [evE] at out
  refine ⟨ρ, s, A, hs, hr, OutG.bind out fun v A1 y H1 ρ1 e1 hr1 r1 out1 => ?_⟩
  cases q1 : fldA c A1 f v with
  | none => rw [q1] at out1; exact False.elim out1
  | some z =>
    rw [q1] at out1
    unfold fldA at q1
    split at q1
    · rename_i C fs q2
      split at q1
      · rename_i hb
        obtain ⟨n, a', Ca, dx, Fs, rfl, rfl, k1, k2, k3, k4, k5⟩ := insAt_rel hr1 r1 q2
        rw [g.fldN] at hb
        obtain ⟨nm, i, ms, fl, h1, h2⟩ := fldN_own hb
        obtain ⟨Ca', g1, _, g3, g4, _⟩ := (g.own C nm i ms fl h1).ex
        rw [k3] at g1
        cases g1
        obtain ⟨w, l1, l2⟩ := k5.lookup q1
        exact ⟨a', Ca, dx, Fs, w, rfl, k4, g3.cl, g4 f h2, l1, OutG.at out1 hr1 l2⟩
      · cases q1
    · cases q1
/-- what a new instance is -/
theorem HRel.made {K : PySem.W.Frag} {G : Nat → Option V} {ρ : List Addr} {H : Hp} {A : AH} (hr : HRel K G ρ H A) {C : Nat} {Ca x dx : Addr} (hg : G C = some (.ref Ca)) (hx : H x = none) (hdx : H dx = none) (hne : dx ≠ x) :
    Hext K ρ H (ρ ++ [x]) (upd (upd H dx (.own x)) x (.ins Ca dx [])) ∧ HRel K G (ρ ++ [x]) (upd (upd H dx (.own x)) x (.ins Ca dx [])) (A ++ [.ins C []]) ∧ (ρ ++ [x])[A.length]? = some x := by
  have e0 : Hext K ρ H ρ (upd H dx (.own x)) := Hext.new0 hdx
  have h0 : HRel K G ρ (upd H dx (.own x)) A := hr.same hdx
  have hx' : upd H dx (.own x) x = none := by rw [upd_ne (Ne.symm hne)]; exact hx
  exact ⟨e0.trans (Hext.new hx'), h0.new hx' ⟨Ca, dx, [], hg, upd_same, .nil⟩, lenR hr⟩
theorem mk_out {K : PySem.W.Frag} {G : Gx} {ρ : List Addr} {H H' : Hp} {A : AH} {E : XK} {Q : VK} {C f : Nat} {x : Addr} {zs : List AV} (out : Out K G ρ H E Q (mkA c f A C zs)) (he : Hext K ρ H (ρ ++ [x]) H') (hx : (ρ ++ [x])[A.length]? = some x) :
    Out K G (ρ ++ [x]) H' E (fun v H2 => v = .non ∧ Q (.ref x) H2) (c.call f zs (A ++ [.ins C []])) := by
  unfold mkA at out
  refine OutG.bind (OutG.mono out he) fun v A' y H2 ρ2 e2 hr2 r2 out2 => ?_
  cases r2 with
  | non => exact ⟨rfl, OutG.at out2 hr2 (.ref (e2.pre _ _ hx))⟩
  | _ => exact False.elim out2
theorem e_mk (g : Good T G c k N sc calm blk W X) {x : Str} {C : Nat} {fs : List Expr} {es : MEs} {p p2 : Pos} (hc : calm = true) (hC : clsB T C x = true) (h2 : glB sc x = true) (h3 : plainN x = true) (hi : initB T C none = true) (hh : allHead fs = true) (hn : fs.isEmpty = false)
    (ha : PA X fs (tEs X.K G c W es)) : PB X G c W (.Call (.Name x p) fs [] p2) (.mk C es) := by
  obtain ⟨i, ms, fl, hC⟩ := clsB_inv hC
  obtain ⟨Ca, g1, g2, _⟩ := (g.own C x i ms fl hC).ex
  have hin : T.initN C = some i := by unfold Tb.initN; rw [hC]
  obtain ⟨d, q2, hpl⟩ := initB_inv hi hin
  have hpl : d.plain = true := hpl
  obtain ⟨a, fd, dvs, kvs, _, k2, k3, k4, _, _, _, k8, _⟩ := (g.fns i d q2).ex
  obtain ⟨Ca', m1, m2⟩ := k8 C hin
  have m1 : G.fn C = some (.ref Ca') := m1
  rw [g1] at m1
  cases m1
  cases fs with
  | nil => cases hn
  | cons e es' =>
    have hh : (okHead e && allHead es') = true := hh
    obtain ⟨hh1, hh2⟩ := and2 hh
    refine pb_of (PE.weak (pe_makeS (E := WE W) m2 k4 ((g.room hc).1.mono (by omega)) (glB_inv g h2) g2 (k3 hpl) (fun σ => passAt g.takes σ) ha (plainN_inv h3).1 (head_star hh1) (star_plain hh2)) fun σ H Q q => ?_) rfl
    obtain ⟨ρ, s, A, hs, hr, out⟩ := q
    simp only [evE] at out
    refine ⟨ρ, s, A, hs, hr, OutG.bind out fun vs A1 ys H1 ρ1 e1 hr1 r1 out1 => fun x' dx hx hdx hne => ?_⟩
    rw [g.initN, hin] at out1
    obtain ⟨n1, n2, n3⟩ := hr1.made g1 hx hdx hne
    exact ⟨ρ1 ++ [x'], A1 ++ [.ins C []], .ref A1.length :: vs, n2, .cons (.ref n3) (r1.mono n1), mk_out out1 n1 n3⟩
theorem e_mkk (g : Good T G c k N sc calm blk W X) {x : Str} {C fm : Nat} {fs : List Expr} {ks : List Keyword} {es kes : MEs} {p p2 : Pos} (hc : calm = true) (hC : clsB T C x = true) (h2 : glB sc x = true) (h3 : plainN x = true) (hi : initB T C (some (fm, fs.length + 1, ks.map (·.arg))) = true) (hh : allHead fs = true) (hn : fs.isEmpty = false)
    (ha : PA X fs (tEs X.K G c W es)) (hk : PK X ks (tEs X.K G c W kes)) : PB X G c W (.Call (.Name x p) fs ks p2) (.mkk C fm es kes) := by
  obtain ⟨i, ms, fl, hC⟩ := clsB_inv hC
  obtain ⟨Ca, g1, g2, _⟩ := (g.own C x i ms fl hC).ex
  have hin : T.initN C = some i := by unfold Tb.initN; rw [hC]
  obtain ⟨d, q2, hi⟩ := initB_inv hi hin
  obtain ⟨m', q3, hn1, hks⟩ := takes_form hi
  obtain ⟨a, fd, dvs, kvs, _, k2, k3, k4, k5, k6, k7, k8, _⟩ := (g.fns i d q2).ex
  obtain ⟨Ca', m1, m2⟩ := k8 C hin
  have m1 : G.fn C = some (.ref Ca') := m1
  rw [g1] at m1
  cases m1
  obtain ⟨gg, hkb⟩ := k7 m' (List.mem_of_getElem? q3)
  rw [hn1] at hkb
  cases fs with
  | nil => cases hn
  | cons e es' =>
    have hh : (okHead e && allHead es') = true := hh
    obtain ⟨hh1, hh2⟩ := and2 hh
    obtain ⟨w1, w2, w3⟩ := kw_all (env := X.env) (pos := p2) hks.symm
    refine pb_of (PE.weak (pe_makeNS (E := WE W) m2 k4 ((g.room hc).1.mono (by omega)) (glB_inv g h2) g2 hkb (fun σ => passAt g.takes σ) ha hk w1 w2 (plainN_inv h3).1 (head_star hh1) (by rw [w3, Bool.or_false]; exact star_plain (es := e :: es') (by show (okHead e && allHead es') = true; rw [hh1, hh2]; rfl))) fun σ H Q q => ?_) rfl
    obtain ⟨ρ, s, A, hs, hr, out⟩ := q
    simp only [evE] at out
    refine ⟨ρ, s, A, hs, hr, OutG.bind out fun vs A1 ys H1 ρ1 e1 hr1 r1 out1 => ⟨ρ1, s, A1, hs.mono e1, hr1, OutG.bind out1 fun ws A2 zs H2 ρ2 e2 hr2 r2 out2 => ?_⟩⟩
    rw [g.initN, hin] at out2
    have out2 : Out X.K G ρ2 H2 (wE W σ) Q (match c.form i fm (.ref A2.length :: vs) ws with
      | some zs => mkA c i A2 C zs
      | none => .stuck) := out2
    cases q4 : c.form i fm (.ref A2.length :: vs) ws with
    | none => rw [q4] at out2; exact False.elim out2
    | some zz =>
      rw [q4] at out2
      -- the lengths, by a place that is surely none of the heap's
      obtain ⟨L, hL⟩ : ∃ L : Addr, True := ⟨0, trivial⟩
      have len : ∀ {us : List V}, (AVrs X.K G ρ2 H2 vs us) → us.length + 1 = m'.n ∧ ws.length = m'.ks.length := fun {us} hu => by
        have e := q4
        rw [g.form] at e
        unfold Tb.form at e
        rw [q2] at e
        have e : (match d.forms[fm]? with | some m => formA d m (.ref A2.length :: vs) ws | none => none) = some zz := e
        rw [q3] at e
        have e : (if (AV.ref A2.length :: vs).length = m'.n ∧ ws.length = m'.ks.length then _ else none) = some zz := e
        split at e
        · rename_i hl
          exact ⟨by rw [← hu.length]; exact hl.1, hl.2⟩
        · cases e
      obtain ⟨l1, l2⟩ := len (r1.mono e2)
      refine ⟨by rw [hn1] at l1; rw [List.length_cons] at l1 ⊢; omega, by rw [← r2.length]; exact l2, fun x' dx hx hdx hne => ?_⟩
      obtain ⟨n1, n2, n3⟩ := hr2.made g1 hx hdx hne
      obtain ⟨_, _, rz⟩ := form_rel g q2 q3 q4 (.cons (.ref n3) ((r1.mono e2).mono n1)) (r2.mono n1) k5 k6
      exact ⟨ρ2 ++ [x'], A2 ++ [.ins C []], zz, n2, rz, mk_out out2 n1 n3⟩
/-! ### methods -/
theorem e_meth (g : Good T G c k N sc calm blk W X) {m : Str} {C : Nat} {e0 : Expr} {fs : List Expr} {o : ME} {es : MEs} {ap p : Pos} (hc : calm = true) (hli : (ap.endLine == p.line) = true) (hl : fs.length ≤ 25) (hs0 : notSuper e0 = true) (hm : methB T C m none = true)
    (ho : PE X e0 (tE X.K G c W o)) (hch : chkEs T N sc calm es fs = true) (ha : PA X fs (tEs X.K G c W es)) : PB X G c W (.Call (.Attribute e0 m ap) fs [] p) (.meth C m o es) := by
  obtain ⟨i, d, hin, q2, hpl⟩ := methB_inv (i := 0) hm
  have hpl : d.plain = true := hpl
  obtain ⟨nm, i0, ms, fl, hC⟩ := methN_own hin
  obtain ⟨Ca, g1, g2, g3, _⟩ := (g.own C nm i0 ms fl hC).ex
  obtain ⟨a, fd, dvs, kvs, _, k2, k3, k4, _, _, _, _, k9⟩ := (g.fns i d q2).ex
  obtain ⟨Ca', m1, m2⟩ := k9 C m hin
  have m1 : G.fn C = some (.ref Ca') := m1
  rw [g1] at m1
  cases m1
  have hh := chkEs_head hch
  have fin : ∀ {σ : L2.St} {H : Hp} {Q : VK} {tt : TA}, tE X.K G c W (.meth C m o es) σ H Q → (∀ {σ H Q}, tEs X.K G c W es σ H Q → tt σ H Q) → tMethS Ca m (spA X.K G (c.call i)) (WE W) (tE X.K G c W o) tt σ H Q := fun {σ H Q tt} q htt => by
    obtain ⟨ρ, s, A, hs, hr, out⟩ := q
    simp only [evE] at out
    refine ⟨ρ, s, A, hs, hr, OutG.bind out fun v A1 y H1 ρ1 e1 hr1 r1 out1 => ?_⟩
    split at out1
    · rename_i D fs' q1
      split at out1
      · rename_i hD
        obtain ⟨rfl, hlk⟩ := hD
        obtain ⟨n, a', Ca2, dx, Fs, rfl, rfl, w1, w2, w3, w4, w5⟩ := insAt_rel hr1 r1 q1
        have w3 : G.fn D = some (.ref Ca2) := w3
        rw [g1] at w3
        cases w3
        refine ⟨a', dx, Fs, rfl, w4, w5.none hlk, htt ⟨ρ1, s, A1, hs.mono e1, hr1, OutG.bind out1 fun vs A2 ys H2 ρ2 e2 hr2 r2 out2 => ?_⟩⟩
        rw [g.methN, hin] at out2
        exact ⟨ρ2, A2, .ref n :: vs, hr2, .cons (.ref (e2.pre _ _ w1)) r2, out2⟩
      · exact False.elim out1
    · exact False.elim out1
  cases fs with
  | nil =>
    refine pb_of (PE.weak (pe_methS0 (E := WE W) ho g3.cl m2 k4 (g.room1 hc) (k3 hpl) (fun σ => passAt g.takes σ) (base_of hs0) hli) fun σ H Q q => fin q fun {σ H Q} z => ?_) rfl
    cases es with
    | cons _ _ => simp only [chkEs] at hch; exact absurd hch Bool.false_ne_true
    | nil =>
      obtain ⟨ρ, s, A, hs, hr, out⟩ := z
      simp only [evs] at out
      exact OutG.at out hr .nil
  | cons e es' =>
    have hh' : (okHead e && allHead es') = true := hh
    obtain ⟨hh1, hh2⟩ := and2 hh'
    exact pb_of (PE.weak (pe_methS (E := WE W) ho g3.cl m2 k4 (g.room1 hc) (k3 hpl) (fun σ => passAt g.takes σ) ha (head_star hh1) (star_plain hh2) (base_of hs0) (form_few hh hl) hli) fun σ H Q q => fin q fun z => z) rfl
end
end MP

set_option maxRecDepth 100000
set_option autoImplicit false
set_option maxHeartbeats 1000000
/-! MPJ: isinstance of own classes, the handled exception, own operators. -/
namespace MP
open PySem PySem.Spec PyProof.Rows L2
section
variable {T : Tb} {G : Gx} {c : Cl} {k : Nat} {N : List Str} {sc : Scope} {calm blk : Bool} {W : WX} {X : Cx}
/-- the type that isinstance and == see -/
theorem ty_rel (g : Good T G c k N sc calm blk W X) {ρ : List Addr} {H : Hp} {A : AH} (hr : HRel X.K G ρ H A) {v : AV} {y : V} (r : AVr X.K G ρ H v y) : (∀ t, tyA A v = some (.inl t) → TyX X.K H y (.type t) ∧ t ∈ ["NoneType", "bool", "int", "str", "tuple", "list"]) ∧
    ∀ D, (∃ nm i ms fl, T.cls[D]? = some (.own nm i ms fl)) → tyA A v = some (.inr D) → ∃ Da, G.fn D = some (.ref Da) ∧ TyX X.K H y (.ref Da) := by
  cases r with
  | non => exact ⟨fun t e => by cases (Option.some.inj e); exact ⟨.base .non, by simp⟩, fun D _ e => by cases e⟩
  | bl b => exact ⟨fun t e => by cases (Option.some.inj e); exact ⟨.base (.bl b), by simp⟩, fun D _ e => by cases e⟩
  | int i => exact ⟨fun t e => by cases (Option.some.inj e); exact ⟨.base (.int i), by simp⟩, fun D _ e => by cases e⟩
  | str i => exact ⟨fun t e => by cases (Option.some.inj e); exact ⟨.base (.str i), by simp⟩, fun D _ e => by cases e⟩
  | fn _ => exact ⟨fun t e => (by cases e), fun D _ e => (by cases e)⟩
  | @tup a Vs vs k1 k2 =>
    refine ⟨fun t e => ?_, fun D _ e => by cases e⟩
    cases (Option.some.inj e)
    refine ⟨?_, by simp⟩
    rcases k1 with (k1 | ⟨o, k1⟩) | ⟨o, its, n, k1, kc, _⟩
    · exact .base (.tup k1)
    · exact .fTuple k1
    · exact .kTuple k1 kc
  | @ref n a kk =>
    have lst : ∀ {vs : List AV}, A[n]?.bind AO.items? = some vs → TyX X.K H (.ref a) (.type "list") := fun {vs} q => by
      obtain ⟨Vs, k1, _⟩ := hr.seq q kk
      rcases k1 with (k1 | ⟨o, k1⟩) | ⟨o, its, n, k1, kc, _⟩
      · exact .base (.lst k1)
      · exact .base (.frz k1)
      · exact .kList k1 kc
    refine ⟨fun t e => ?_, fun D hD e => ?_⟩
    · have e : (match A[n]? with
        | some (.ins D _) => some (.inr D)
        | some (.lst _) => some (.inl "list")
        | some (.ro _) => some (.inl "list")
        | _ => none) = some (Sum.inl t) := e
      split at e
      · cases e
      · rename_i hq; cases (Option.some.inj e); exact ⟨lst (by rw [hq]; rfl), by simp⟩
      · rename_i hq; cases (Option.some.inj e); exact ⟨lst (by rw [hq]; rfl), by simp⟩
      · cases e
    · have e : (match A[n]? with
        | some (.ins D _) => some (.inr D)
        | some (.lst _) => some (.inl "list")
        | some (.ro _) => some (.inl "list")
        | _ => none) = some (Sum.inr D) := e
      split at e
      · rename_i D' fs hq
        cases (Option.some.inj e)
        obtain ⟨Ca, dx, Fs, h1, h2, h3⟩ := hr.obj n _ a hq kk
        obtain ⟨nm, i, ms, fl, hD⟩ := hD
        obtain ⟨Ca', g1, _, g3, _⟩ := (g.own _ nm i ms fl hD).ex
        have h1 : G.fn D = some (.ref Ca) := h1
        rw [h1] at g1
        cases g1
        exact ⟨Ca, h1, .base (.ins h2 g3.cl g3.ha g3.hn g3.htk g3.hm)⟩
      · cases e
      · cases e
      · cases e
theorem ownN_inv {D : Nat} (h : T.ownN D = true) : ∃ nm i ms fl, T.cls[D]? = some (.own nm i ms fl) := by
  unfold Tb.ownN at h
  split at h
  · exact ⟨_, _, _, _, by assumption⟩
  · cases h
/-- isinstance(x, C) -/
theorem F_isc (g : Good T G c k N sc calm blk W X) {C : Nat} {nm : Str} {i : Nat} {ms : List (Str × Nat)} {fl : List Str} {Ca : Addr} (hC : T.cls[C]? = some (.own nm i ms fl)) (hg : G.fn C = some (.ref Ca)) :
    CallR X (.builtin "isinstance") fun ys H Q => ∃ ρ A v y b, ys = [y, .ref Ca] ∧ HRel X.K G ρ H A ∧ AVr X.K G ρ H v y ∧ iscA c A C v = some b ∧ Q (.bl b) H := by
  intro pins s σ H ys us Q I r h
  obtain ⟨ρ, A, v, y, b, rfl, hr, h1, e, q⟩ := h
  have key : ∃ tv, TyX X.K H y tv ∧ PySem.W.kitOne X.K tv (.ref Ca) = some b := by
    unfold iscA at e
    split at e
    · rename_i t q1
      cases (Option.some.inj e)
      obtain ⟨k1, k2⟩ := (ty_rel g hr h1).1 t q1
      obtain ⟨Ca', m1, m2, _⟩ := (g.own C nm i ms fl hC).ty
      have m1 : G.fn C = some (.ref Ca') := m1
      rw [hg] at m1
      cases m1
      exact ⟨_, k1, (m2 t k2).1⟩
    · rename_i D q1
      split at e
      · rename_i hb
        rw [g.ownN] at hb
        obtain ⟨nm2, i2, ms2, fl2, hD⟩ := ownN_inv hb
        cases (Option.some.inj e)
        obtain ⟨Da, d1, d2⟩ := (ty_rel g hr h1).2 D ⟨_, _, _, _, hD⟩ q1
        obtain ⟨Da', g1, _, _, _, g5⟩ := (g.own D nm2 i2 ms2 fl2 hD).ex
        have g1 : G.fn D = some (.ref Da') := g1
        rw [d1] at g1
        cases g1
        obtain ⟨Ca', m1, m2⟩ := g5 C nm i ms fl hC
        have m1 : G.fn C = some (.ref Ca') := m1
        rw [hg] at m1
        cases m1
        exact ⟨_, d2, m2⟩
      · cases e
    · cases e
  obtain ⟨tv, k1, k2⟩ := key
  exact call_isi pins s σ H _ us Q I r ⟨y, .ref Ca, tv, .ref Ca, b, rfl, .own _, k1, k2, q⟩
theorem e_isc (g : Good T G c k N sc calm blk W X) {x y : Str} {e : Expr} {a : ME} {C : Nat} {p p2 p3 : Pos} (h1 : bltB T sc x (Str.ofString "isinstance") = true) (hC : clsB T C y = true) (h2 : glB sc y = true) (h3 : plainN y = true) (he : okHead e = true) (ha : PE X e (tE X.K G c W a)) :
    PB X G c W (.Call (.Name x p) [e, .Name y p2] [] p3) (.isc a C) := by
  obtain ⟨rfl, l2, l3, l4, l5⟩ := bltB_inv g h1
  obtain ⟨i, ms, fl, hC⟩ := clsB_inv hC
  obtain ⟨Ca, g1, g2, _⟩ := (g.own C y i ms fl hC).ex
  have g1 : G.fn C = some (.ref Ca) := g1
  have pn : PE X (.Name y p2) (tC (.ref Ca)) := pe_glob (glB_inv g h2) g2 rfl (plainN_inv h3).1
  refine pb_of (PE.weak (pe_callB (F_isc g hC g1) l2 l3 PyProof.Rows.boot_isinstance (pa_cons ha (pa_cons pn pa_nil (head_star rfl)) (head_star he)) l5 l4 (head_star he) (star_plain (es := [.Name y p2]) rfl)) fun σ H Q q => ?_) rfl
  obtain ⟨ρ, s, A, hs, hr, out⟩ := q
  simp only [evE] at out
  refine ⟨ρ, s, A, hs, hr, OutG.bind out fun v A1 z H1 ρ1 e1 hr1 r1 out1 => ?_⟩
  obtain ⟨b, e3, q⟩ := Out.bl out1 hr1
  exact ⟨ρ1, A1, v, z, b, rfl, hr1, r1, e3, q⟩
/-- a reading that nothing meets -/
theorem pe_no {e : Expr} {t : TE} (h : ∀ σ H Q, ¬ t σ H Q) : PE X e t := ⟨fun pins s σ H Q I q => (h σ H Q q).elim⟩
theorem xs_name (g : Good T G c k N sc calm blk W X) {i : Nat} {x : Str} {p : Pos} (h1 : N[i]? = some x) (h2 : visB sc x = true) (h3 : plainN x = true) : PE X (.Name x p) (tVar i) := by
  obtain ⟨p1, p2, p3⟩ := plainN_inv h3
  exact pe_var (i := i) (by rw [g.hN]; exact h1) (visB_inv g h2) p1 p2
theorem e_xfld (g : Good T G c k N sc calm blk W X) {i : Nat} {x f : Str} {p p2 : Pos} (hf : T.xfl.contains f = true) (h1 : N[i]? = some x) (h2 : visB sc x = true) (h3 : plainN x = true) : PB X G c W (.Attribute (.Name x p) f p2) (.xfld i f) := by
  refine pb_of ?_ rfl
  cases hx : c.ex with
  | none =>
    refine pe_no fun σ H Q q => ?_
    obtain ⟨ρ, s, A, hs, hr, out⟩ := q
    simp only [evE, xfldA, hx] at out
    exact out
  | some y =>
    obtain ⟨j, C, n⟩ := y
    obtain ⟨xx, Cx, x1, x2, x3, x4, _⟩ := g.xs j C n hx
    refine PE.weak (x4 (.Name x p) (tVar i) f p2 (by simpa using hf) rfl (xs_name g h1 h2 h3)) fun σ H Q q => ?_
    obtain ⟨ρ, s, A, hs, hr, out⟩ := q
    simp only [evE] at out
    cases q1 : xfldA c A i f with
    | none => rw [q1] at out; exact False.elim out
    | some z =>
      rw [q1] at out
      unfold xfldA at q1
      rw [hx] at q1
      have q1 : (if j = i then (match A[n]? with | some (.xd fs) => fs.lookup f | _ => none) else none) = some z := q1
      split at q1
      · rename_i hj
        split at q1
        · rename_i fs hn
          obtain ⟨e1, e2⟩ := hs.ex xx x1
          rw [x3] at e2
          obtain ⟨Fs, k1, k2⟩ := hr.obj n _ xx.dd hn e2
          obtain ⟨w, l1, l2⟩ := k2.lookup q1
          rw [x2, hj] at e1
          exact ⟨.ref xx.a, e1, rfl, rfl, xx.dd, Fs, w, rfl, k1, l1, OutG.at out hr l2⟩
        · cases q1
      · cases q1
theorem e_xis (g : Good T G c k N sc calm blk W X) {i : Nat} {x y z : Str} {t : XN} {p p2 p3 p4 : Pos} (hb : bltB T sc x (Str.ofString "isinstance") = true) (h1 : N[i]? = some z) (h2 : visB sc z = true) (h3 : plainN z = true) (ht : xnB T sc t y = true) :
    PB X G c W (.Call (.Name x p) [.Name z p2, .Name y p3] [] p4) (.xis i t) := by
  refine pb_of ?_ rfl
  obtain ⟨rfl, l2, l3, l4, l5⟩ := bltB_inv g hb
  have no : ∀ {o : Option Bool}, (∀ A, xisA c A i t = none) → PE X (.Call (.Name (Str.ofString "isinstance") p) [.Name z p2, .Name y p3] [] p4) (tE X.K G c W (.xis i t)) := fun {o} h => pe_no fun σ H Q q => by
    obtain ⟨ρ, s, A, hs, hr, out⟩ := q
    simp only [evE] at out
    rw [h A] at out
    exact out
  cases hx : c.ex with
  | none => exact no (o := none) fun A => by simp only [xisA, hx]
  | some y' =>
    obtain ⟨j, C, n⟩ := y'
    obtain ⟨xx, Cx, x1, x2, x3, _, x5⟩ := g.xs j C n hx
    cases hs : subT T.cls C t with
    | none =>
      refine no (o := none) fun A => ?_
      simp only [xisA, hx]
      rw [g.subC, hs]
      split
      · split <;> rfl
      · rfl
    | some b =>
      obtain ⟨u, u1, cr⟩ := x5 t b hs
      -- the class's name
      have pn : ∃ cv : V, PE X (.Name y p3) (tC cv) ∧ ∀ w, RelV cv w → w = u := by
        cases t with
        | own D =>
          unfold xnB at ht
          obtain ⟨t1, t2, t3⟩ := and3 ht
          obtain ⟨b', ps', up', fs', d', hD⟩ := excB_inv t1
          obtain ⟨Da, fI, fd, F, _⟩ := g.exc D y b' ps' up' fs' d' hD
          refine ⟨.ref Da, pe_glob (glB_inv g t2) F.m rfl (plainN_inv t3).1, fun w rw' => ?_⟩
          have hg : G.fn D = some (.ref Da) := F.g
          have u1 : (match G.fn D with | some (.ref a) => some (Value.ref a) | _ => none) = some u := u1
          rw [hg] at u1
          cases (Option.some.inj u1)
          exact rw'
        | ve =>
          obtain ⟨rfl, m2, m3, m4, m5⟩ := bltB_inv g ht
          refine ⟨.ty "ValueError", pe_bltn m2 m3 (show bootBuiltins (Str.ofString "ValueError") = some (.type "ValueError") by decide +kernel) rfl m5 m4, fun w rw' => ?_⟩
          cases (Option.some.inj (show some (Value.type "ValueError") = some u from u1))
          exact rw'
      obtain ⟨cv, pn, hcv⟩ := pn
      refine PE.weak (pe_callB cr l2 l3 PyProof.Rows.boot_isinstance (pa_cons (xs_name g h1 h2 h3) (pa_cons pn pa_nil (head_star rfl)) (head_star rfl)) l5 l4 (head_star rfl) (star_plain (es := [.Name y p3]) rfl)) fun σ H Q q => ?_
      obtain ⟨ρ, s, A, hs', hr, out⟩ := q
      simp only [evE] at out
      obtain ⟨b2, e3, q⟩ := Out.bl out hr
      unfold xisA at e3
      rw [hx] at e3
      have e3 : (if j = i then (match A[n]? with | some (.xd _) => c.sub C t | _ => none) else none) = some b2 := e3
      split at e3
      · rename_i hj
        split at e3
        · rename_i fs hn
          rw [g.subC, hs] at e3
          cases (Option.some.inj e3)
          obtain ⟨e1, e2⟩ := hs'.ex xx x1
          rw [x3] at e2
          obtain ⟨Fs, k1, k2⟩ := hr.obj n _ xx.dd hn e2
          rw [x2, hj] at e1
          exact ⟨.ref xx.a, e1, cv, Fs, rfl, hcv, k1, q⟩
        · cases e3
      · cases e3
/-! ### own operators -/
theorem dun_rel (g : Good T G c k N sc calm blk W X) {ρ : List Addr} {H : Hp} {A : AH} {m : Str} {v : AV} {y : V} {f : Nat} (hr : HRel X.K G ρ H A) (r : AVr X.K G ρ H v y) (e : dunA c A m v = some f) {P : Addr → Sp → Prop}
    (h : ∀ C Ca nm i ms fl, T.cls[C]? = some (.own nm i ms fl) → G.fn C = some (.ref Ca) → P Ca (spA X.K G (c.call f))) : Dun X k m y H P := by
  unfold dunA at e
  split at e
  · rename_i C fs q1
    rw [g.dunN] at e
    obtain ⟨hm, d, hd, hpl⟩ := dunN_fn e
    obtain ⟨nm, i, ms, fl, hC⟩ := methN_own hm
    obtain ⟨n, a', Ca, dx, Fs, rfl, rfl, w1, w2, w3, w4, w5⟩ := insAt_rel hr r q1
    obtain ⟨a, fd, dvs, kvs, _, k2, k3, k4, _, _, _, _, k9⟩ := (g.fns f d hd).ex
    obtain ⟨Ca', m1, m2⟩ := k9 C m hm
    have w3 : G.fn C = some (.ref Ca) := w3
    have m1 : G.fn C = some (.ref Ca') := m1
    rw [w3] at m1
    cases m1
    exact ⟨a', Ca, dx, Fs, a, fd, d.ps, _, rfl, w4, m2, k4, k3 hpl, h C Ca nm i ms fl hC w3⟩
  · cases e
/-- an answer without an exception -/
theorem bol_out {K : PySem.W.Frag} {G : Nat → Option V} {ρ : List Addr} {H : Hp} {E : XK} {Q : VK} {r : R AV} (out : Out K G ρ H E Q (bolO r)) : Out K G ρ H (fun _ _ _ => False) Q r := by
  cases r with
  | ok v A => cases v <;> first | exact out | exact False.elim out
  | exc C fs A => exact False.elim out
  | stuck => exact False.elim out
theorem str_out {K : PySem.W.Frag} {G : Nat → Option V} {ρ : List Addr} {H : Hp} {E : XK} {Q : VK} {r : R AV} (out : Out K G ρ H E Q (strO r)) : Out K G ρ H (fun _ _ _ => False) (fun z H' => ∃ i, z = .str i ∧ Q (.str i) H') r := by
  cases r with
  | ok v A =>
    cases v with
    | str x =>
      intro y H1 ρ1 e hr rv
      cases rv
      exact ⟨_, rfl, out _ H1 ρ1 e hr (.str _)⟩
    | _ => exact False.elim out
  | exc C fs A => exact False.elim out
  | stuck => exact False.elim out
theorem len_out {K : PySem.W.Frag} {G : Nat → Option V} {ρ : List Addr} {H : Hp} {E : XK} {Q : VK} {r : R AV} (out : Out K G ρ H E Q (lenO r)) : Out K G ρ H (fun _ _ _ => False) (fun z H' => ∃ i, z = .int i ∧ 0 ≤ i ∧ i < 2 ^ 62 ∧ Q (.int i) H') r := by
  cases r with
  | ok v A =>
    cases v with
    | int n =>
      have out : Out K G ρ H E Q (if 0 ≤ n ∧ n < 2 ^ 62 then .ok (.int n) A else .stuck) := out
      split at out
      · rename_i hl
        intro y H1 ρ1 e hr rv
        cases rv
        exact ⟨_, rfl, hl.1, hl.2, out _ H1 ρ1 e hr (.int _)⟩
      · exact False.elim out
    | _ => exact False.elim out
  | exc C fs A => exact False.elim out
  | stuck => exact False.elim out
theorem e_oeq (g : Good T G c k N sc calm blk W X) (hc : calm = true) {e f : Expr} {a b : ME} {p : Pos} (ha : PE X e (tE X.K G c W a)) (hb : PE X f (tE X.K G c W b)) (hf : okHead f = true) : PB X G c W (.Compare e [.Eq] [f] p) (.oeq a b) := by
  have key : ∀ {ρ : List Addr} {s : AS} {A : AH} {σ : L2.St} {H : Hp} {Q : VK}, SRel X.K G ρ H s σ → HRel X.K G ρ H A → Out X.K G ρ H (wE W σ) Q (evE c s (.oeq a b) A) → tOp (rEqO X k) (tE X.K G c W a) (tE X.K G c W b) σ H Q := fun {ρ s A σ H Q} hs hr out => by
    simp only [evE] at out
    refine ⟨ρ, s, A, hs, hr, OutG.bind out fun v A1 y H1 ρ1 e1 hr1 r1 out1 => ⟨ρ1, s, A1, hs.mono e1, hr1, OutG.bind out1 fun w A2 z H2 ρ2 e2 hr2 r2 out2 => ?_⟩⟩
    split at out2
    · rename_i f' hf'
      split at out2
      · rename_i hty
        refine dun_rel g hr2 (r1.mono e2) hf' fun C Ca nm i ms fl hC hG => ⟨?_, ρ2, A2, [v, w], hr2, .cons (r1.mono e2) (.cons r2 .nil), bol_out out2⟩
        obtain ⟨Ca', m1, m2, m3, _⟩ := (g.own C nm i ms fl hC).ty
        have m1 : G.fn C = some (.ref Ca') := m1
        rw [hG] at m1
        cases m1
        unfold tyB at hty
        split at hty
        · rename_i t q1
          obtain ⟨k1, k2⟩ := (ty_rel g hr2 r2).1 t q1
          exact ⟨_, k1, (m2 t k2).2⟩
        · rename_i D q1
          rw [g.ownN] at hty
          obtain ⟨nm2, i2, ms2, fl2, hD⟩ := ownN_inv hty
          obtain ⟨Da, d1, d2⟩ := (ty_rel g hr2 r2).2 D ⟨_, _, _, _, hD⟩ q1
          obtain ⟨Da', g1, g2⟩ := m3 D nm2 i2 ms2 fl2 hD
          have g1 : G.fn D = some (.ref Da') := g1
          rw [d1] at g1
          cases g1
          exact ⟨_, d2, g2⟩
        · cases hty
      · exact False.elim out2
    · exact False.elim out2
  refine ⟨PE.weak (pe_cmpR (op_eqO (g.room1 hc)) ha hb (head_mark hf _)) fun σ H Q q => ?_, PT.weak (pt_cmpR (op_eqO (g.room1 hc)) ha hb (head_mark hf _)) fun σ H Q q => ?_⟩
  · obtain ⟨ρ, s, A, hs, hr, out⟩ := q
    exact key hs hr out
  · obtain ⟨ρ, s, A, hs, hr, out⟩ := q
    refine key hs hr ?_
    have bl : ∀ {v : AV} {A1 : AH}, evE c s (.oeq a b) A = .ok v A1 → ∃ b, v = .bl b := fun {v A1} r => by
      simp only [evE] at r
      cases r1 : evE c s a A with
      | ok v1 A2 =>
        rw [r1] at r
        have r : (evE c s b A2).bind (fun w A => match dunA c A "__eq__" v1 with | some f => if tyB c A w then bolO (c.call f [v1, w] A) else .stuck | none => .stuck) = .ok v A1 := r
        cases r2 : evE c s b A2 with
        | ok w A3 =>
          rw [r2] at r
          have r : (match dunA c A3 "__eq__" v1 with | some f => if tyB c A3 w then bolO (c.call f [v1, w] A3) else .stuck | none => .stuck) = R.ok v A1 := r
          split at r
          · rename_i f' _
            split at r
            · cases r3 : c.call f' [v1, w] A3 with
              | ok z A4 =>
                rw [r3] at r
                cases z with
                | bl b => cases r; exact ⟨_, rfl⟩
                | _ => cases r
              | exc _ _ _ => rw [r3] at r; cases r
              | stuck => rw [r3] at r; cases r
            · cases r
          · cases r
        | exc _ _ _ => rw [r2] at r; cases r
        | stuck => rw [r2] at r; cases r
      | exc _ _ _ => rw [r1] at r; cases r
      | stuck => rw [r1] at r; cases r
    cases r : evE c s (.oeq a b) A with
    | ok v A1 =>
      obtain ⟨b0, rfl⟩ := bl r
      rw [r] at out
      obtain ⟨b', hb', q⟩ := out
      intro y H1 ρ1 e1 hr1 r1
      cases r1
      cases (Option.some.inj hb')
      exact ⟨_, rfl, q H1 ρ1 e1 hr1⟩
    | exc C fs A1 => rw [r] at out; exact out
    | stuck => rw [r] at out; exact out
theorem dun1 (g : Good T G c k N sc calm blk W X) {me : ME} {a : ME} {m : Str} {fO : R AV → R AV} (hev : ∀ s A, evE c s me A = (evE c s a A).bind fun v A => match dunA c A m v with | some f => fO (c.call f [v] A) | none => .stuck) {Qt : VK → VK}
    (hO : ∀ {ρ : List Addr} {H : Hp} {E : XK} {Q : VK} {r : R AV}, Out X.K G ρ H E Q (fO r) → Out X.K G ρ H (fun _ _ _ => False) (Qt Q) r) {σ : L2.St} {H : Hp} {Q : VK} (q : tE X.K G c W me σ H Q) :
    tE X.K G c W a σ H fun x H1 => Dun X k m x H1 fun Ca sp => (∃ C nm i ms fl, T.cls[C]? = some (.own nm i ms fl) ∧ G.fn C = some (.ref Ca)) ∧ sp [x] H1 (Qt Q) fun _ _ _ => False := by
  obtain ⟨ρ, s, A, hs, hr, out⟩ := q
  rw [hev] at out
  refine ⟨ρ, s, A, hs, hr, OutG.bind out fun v A1 y H1 ρ1 e1 hr1 r1 out1 => ?_⟩
  split at out1
  · rename_i f hf
    exact dun_rel g hr1 r1 hf fun C Ca nm i ms fl hC hG => ⟨⟨C, nm, i, ms, fl, hC, hG⟩, ρ1, A1, [v], hr1, .cons r1 .nil, hO out1⟩
  · exact False.elim out1
theorem Dun.imp {n : Nat} {m : Str} {x : V} {H : Hp} {P P' : Addr → Sp → Prop} (h : Dun X n m x H P) (k : ∀ Ca sp, P Ca sp → P' Ca sp) : Dun X n m x H P' := by
  obtain ⟨a, Ca, dx, fs, g, fd, ps, sp, h1, h2, h3, h4, h5, h6⟩ := h
  exact ⟨a, Ca, dx, fs, g, fd, ps, sp, h1, h2, h3, h4, h5, k _ _ h6⟩
theorem e_olen (g : Good T G c k N sc calm blk W X) (hc : calm = true) {x : Str} {e : Expr} {a : ME} {p p3 : Pos} (h1 : bltB T sc x (Str.ofString "len") = true) (he : okHead e = true) (ha : PE X e (tE X.K G c W a)) : PB X G c W (.Call (.Name x p) [e] [] p3) (.olen a) := by
  obtain ⟨rfl, l2, l3, l4, l5⟩ := bltB_inv g h1
  refine pb_of (PE.weak (pe_callB (call_lenO (n := k) ((g.room hc).1.mono (by omega))) l2 l3 PySem.boot_len (pa_cons ha pa_nil (head_star he)) l5 l4 (head_star he) (star_plain (es := []) rfl)) fun σ H Q q => ?_) rfl
  obtain ⟨ρ, s, A, hs, hr, out⟩ := dun1 g (me := .olen a) (m := "__len__") (fO := lenO) (Qt := fun Q z H' => ∃ i, z = .int i ∧ 0 ≤ i ∧ i < 2 ^ 62 ∧ Q (.int i) H') (fun s A => by simp only [evE] <;> rfl) len_out q
  exact ⟨ρ, s, A, hs, hr, OutG.q out fun y H1 q1 => ⟨y, rfl, q1.imp fun Ca sp z => z.2⟩⟩
theorem e_ostr (g : Good T G c k N sc calm blk W X) (hc : calm = true) {x : Str} {e : Expr} {a : ME} {p p3 : Pos} (h1 : bltB T sc x (Str.ofString "str") = true) (he : okHead e = true) (ha : PE X e (tE X.K G c W a)) : PB X G c W (.Call (.Name x p) [e] [] p3) (.ostr a) := by
  obtain ⟨rfl, l2, l3, l4, l5⟩ := bltB_inv g h1
  refine pb_of (PE.weak (pe_callTy (call_strO (n := k) (g.room hc).1) l2 l3 boot_str' (pa_cons ha pa_nil (head_star he)) l5 l4 (head_star he) (star_plain (es := []) rfl)) fun σ H Q q => ?_) rfl
  obtain ⟨ρ, s, A, hs, hr, out⟩ := dun1 g (me := .ostr a) (m := "__str__") (fO := strO) (Qt := fun Q z H' => ∃ i, z = .str i ∧ Q (.str i) H') (fun s A => by simp only [evE] <;> rfl) str_out q
  exact ⟨ρ, s, A, hs, hr, OutG.q out fun y H1 q1 => ⟨y, rfl, q1.imp fun Ca sp z => z.2⟩⟩
theorem e_orep (g : Good T G c k N sc calm blk W X) (hc : calm = true) {x : Str} {e : Expr} {a : ME} {p p3 : Pos} (h1 : bltB T sc x (Str.ofString "repr") = true) (he : okHead e = true) (ha : PE X e (tE X.K G c W a)) : PB X G c W (.Call (.Name x p) [e] [] p3) (.orep a) := by
  obtain ⟨rfl, l2, l3, l4, l5⟩ := bltB_inv g h1
  refine pb_of (PE.weak (pe_callB (call_reprO (n := k) ((g.room hc).1.mono (by omega))) l2 l3 boot_repr' (pa_cons ha pa_nil (head_star he)) l5 l4 (head_star he) (star_plain (es := []) rfl)) fun σ H Q q => ?_) rfl
  obtain ⟨ρ, s, A, hs, hr, out⟩ := dun1 g (me := .orep a) (m := "__repr__") (fO := strO) (Qt := fun Q z H' => ∃ i, z = .str i ∧ Q (.str i) H') (fun s A => by simp only [evE] <;> rfl) str_out q
  exact ⟨ρ, s, A, hs, hr, OutG.q out fun y H1 q1 => ⟨y, rfl, q1.imp fun Ca sp z => z.2⟩⟩
theorem e_ofmt (g : Good T G c k N sc calm blk W X) (hc : calm = true) {e : Expr} {a : ME} {p : Pos} (ha : PE X e (tE X.K G c W a)) : PB X G c W (.FormattedValue e (-1) none p) (.ofmt a) := by
  refine pb_of (PE.weak (pe_fmtO (n := k) ((g.room hc).1.mono (by omega)) ha) fun σ H Q q => ?_) rfl
  obtain ⟨ρ, s, A, hs, hr, out⟩ := dun1 g (me := .ofmt a) (m := "__str__") (fO := strO) (Qt := fun Q z H' => ∃ i, z = .str i ∧ Q (.str i) H') (fun s A => by simp only [evE] <;> rfl) str_out q
  refine ⟨ρ, s, A, hs, hr, OutG.q out fun y H1 q1 => q1.imp fun Ca sp z => ⟨?_, z.2⟩⟩
  obtain ⟨C, nm, i, ms, fl, hC, hG⟩ := z.1
  obtain ⟨Ca', m1, _, _, m4⟩ := (g.own C nm i ms fl hC).ty
  obtain ⟨Ca2, o1, _, o3, _⟩ := (g.own C nm i ms fl hC).ex
  have m1 : G.fn C = some (.ref Ca') := m1
  have o1 : G.fn C = some (.ref Ca2) := o1
  rw [hG] at m1 o1
  cases m1
  cases o1
  exact ⟨m4, o3.hm⟩
end
end MP

set_option maxRecDepth 100000
set_option autoImplicit false
set_option maxHeartbeats 1000000
/-! MP8: what is walked, list comprehensions; every expression. -/
namespace MP
open PySem PySem.Spec PyProof.Rows L2

/-! ### a list, a tuple or a text is walked -/
def iSeq (K : PySem.W.Frag) (te : TE) : TI := fun σ H R => te σ H fun x H1 => (∃ a xs, x = .ref a ∧ SqL K H1 a xs ∧ R (Itl K a) H1) ∨ (∃ a xs, x = .ref a ∧ SqT K H1 a xs ∧ R (Itt K a) H1) ∨ ∃ z, x = .str z ∧ R (Its z) H1
theorem pi_seq {X : Cx} {tg e : Expr} {te : TE} (he : PE X e te) : PI X tg e (iSeq X.K te) := by
  refine ⟨fun pins s σ H R I h => ?_⟩
  refine thn (he.run pins s σ H _ I h) fun v s1 ⟨x, H1, I1, r1, q1⟩ => ?_
  rcases q1 with ⟨a, xs, rfl, hq, q⟩ | ⟨a, xs, rfl, hq, q⟩ | ⟨z, rfl, q⟩
  · cases r1
    obtain ⟨its, rv, p, hz⟩ := I1.list hq
    exact wpAny_pyIter_list p.isList (pi_one (tk := s1.toks) I1 _ (turn_list a _) ⟨_, Heap.get?_push_size _ rfl, rfl, rfl⟩ q)
  · cases r1
    obtain ⟨its, rv, p, hz⟩ := I1.tuple hq
    exact wpAny_pyIter_tuple (show s1.heap.IsTuple a its.toArray from p) (pi_one (tk := s1.toks) I1 _ (turn_tuple a _) ⟨_, Heap.get?_push_size _ rfl, rfl, rfl⟩ q)
  · obtain ⟨t, rfl⟩ := r1
    cases ha : z.cps.all (· < 128)
    · exact wpAny_pyIter_wide ha (pi_one (tk := s1.toks) I1 _ (turn_str _ z t "str_iterator" (.inr rfl)) ⟨_, Heap.get?_push_size _ rfl, rfl, rfl⟩ q)
    · exact wpAny_pyIter_ascii ha (pi_one (tk := s1.toks) I1 _ (turn_str _ z t "str_ascii_iterator" (.inl rfl)) ⟨_, Heap.get?_push_size _ rfl, rfl, rfl⟩ q)
section
variable {T : Tb} {G : Gx} {c : Cl} {k : Nat} {N : List Str} {sc : Scope} {calm blk : Bool} {W : WX} {X : Cx}
theorem OutI.of {K : PySem.W.Frag} {ρ : List Addr} {H : Hp} {E : XK} {R' : It → Hp → Prop} {kk : IK} {r : R (List AV)} (h : OutI K G ρ H E R' kk r) : OutL K G ρ H E (fun ys H1 => ∃ ρ1 A1 vs sr, HRel K G ρ1 H1 A1 ∧ AVrs K G ρ1 H1 vs ys ∧ srcA A1 kk vs = some sr ∧ ∀ J, ItOk K G ρ1 H1 J sr → R' J H1) r := by
  cases r with
  | ok vs A1 =>
    obtain ⟨sr, e, h⟩ := h
    exact fun ys H1 ρ1 e1 hr1 r1 => ⟨ρ1, A1, vs, sr, hr1, r1, e, fun J hJ => h J H1 ρ1 e1 hr1 hJ⟩
  | exc C fs A1 => exact h
  | stuck => exact h
theorem seqSrc_ref {A : AH} {n : Nat} {sr : Src} (h : seqSrc A (.ref n) = some sr) : sr = .dy n ∧ ∃ vs, A[n]?.bind AO.items? = some vs := by
  have h' : (match A[n]?.bind AO.items? with | some _ => some (Src.dy n) | none => none) = some sr := h
  cases q : A[n]?.bind AO.items? with
  | none => rw [q] at h'; cases h'
  | some vs => rw [q] at h'; cases h'; exact ⟨rfl, vs, rfl⟩
theorem srcA_r1 {A : AH} {vs : List AV} {sr : Src} (h : srcA A .range1 vs = some sr) : ∃ j, vs = [.int j] ∧ (-big ≤ j ∧ j < big) ∧ sr = .fx (rangeL 0 j) := by
  rcases vs with _ | ⟨v, _ | ⟨w, ws⟩⟩
  · cases h
  · cases v with
    | int j =>
      have h' : (if -big ≤ j ∧ j < big then some (Src.fx (rangeL 0 j)) else none) = some sr := h
      split at h'
      · rename_i hb
        cases h'
        exact ⟨j, rfl, hb, rfl⟩
      · cases h'
    | _ => cases h
  · cases v <;> cases h
theorem srcA_r2 {A : AH} {vs : List AV} {sr : Src} (h : srcA A .range2 vs = some sr) : ∃ i j, vs = [.int i, .int j] ∧ ((-big ≤ i ∧ i < big) ∧ (-big ≤ j ∧ j < big)) ∧ sr = .fx (rangeL i j) := by
  rcases vs with _ | ⟨v, _ | ⟨w, _ | ⟨w2, ws⟩⟩⟩
  · cases h
  · cases v <;> cases h
  · cases v with
    | int i => cases w with
      | int j =>
        have h' : (if (-big ≤ i ∧ i < big) ∧ (-big ≤ j ∧ j < big) then some (Src.fx (rangeL i j)) else none) = some sr := h
        split at h'
        · rename_i hb
          cases h'
          exact ⟨i, j, rfl, hb, rfl⟩
        · cases h'
      | _ => cases h
    | _ => cases h
  · cases v with
    | int i => cases w <;> cases h
    | _ => cases h
theorem srcA_en {A : AH} {vs : List AV} {sr : Src} (h : srcA A .enum vs = some sr) : ∃ n us, vs = [.ref n] ∧ A[n]?.bind AO.items? = some us ∧ sr = .en (.dy n) := by
  rcases vs with _ | ⟨v, _ | ⟨w, ws⟩⟩
  · cases h
  · cases v with
    | ref n =>
      have h' : (seqSrc A (.ref n)).map Src.en = some sr := h
      cases q : seqSrc A (.ref n) with
      | none => rw [q] at h'; cases h'
      | some s0 =>
        rw [q] at h'
        cases (Option.some.inj h')
        obtain ⟨rfl, us, e⟩ := seqSrc_ref q
        exact ⟨n, us, rfl, e, rfl⟩
    | _ => cases h
  · cases v <;> cases h
theorem srcA_zp {A : AH} {vs : List AV} {sr : Src} (h : srcA A .zip vs = some sr) : ∃ n m us ws, vs = [.ref n, .ref m] ∧ A[n]?.bind AO.items? = some us ∧ A[m]?.bind AO.items? = some ws ∧ sr = .zp (.dy n) (.dy m) := by
  rcases vs with _ | ⟨v, _ | ⟨w, _ | ⟨w2, ws⟩⟩⟩
  · cases h
  · cases v <;> cases h
  · cases v with
    | ref n => cases w with
      | ref m =>
        have h' : (match seqSrc A (.ref n), seqSrc A (.ref m) with
          | some s, some t => some (Src.zp s t)
          | _, _ => none) = some sr := h
        split at h'
        · rename_i s t q1 q2
          cases (Option.some.inj h')
          obtain ⟨rfl, us, e⟩ := seqSrc_ref q1
          obtain ⟨rfl, us2, e2⟩ := seqSrc_ref q2
          exact ⟨n, m, us, us2, rfl, e, e2, rfl⟩
        · cases h'
      | _ => cases h
    | _ => cases h
  · cases v with
    | ref i => cases w <;> cases h
    | _ => cases h
theorem big_eq : big = 2 ^ 62 := by decide
theorem i_seq (g : Good T G c k N sc calm blk W X) {tg e : Expr} {a : ME} (ha : PE X e (tE X.K G c W a)) : PI X tg e (tI X.K G c W .seq (.cons a .nil)) := by
  refine PI.weak (pi_seq ha) fun σ H R q => ?_
  obtain ⟨ρ, s, A, hs, hr, out⟩ := q
  have out := OutI.of out
  simp only [evs] at out
  refine ⟨ρ, s, A, hs, hr, OutG.bind out fun v A1 y H1 ρ1 e1 hr1 r1 out1 => ?_⟩
  have out1' : OutL X.K G ρ1 H1 (wE W σ) (fun ys H1 => ∃ ρ1 A1 vs sr, HRel X.K G ρ1 H1 A1 ∧ AVrs X.K G ρ1 H1 vs ys ∧ srcA A1 .seq vs = some sr ∧ ∀ J, ItOk X.K G ρ1 H1 J sr → R J H1) (.ok [v] A1) := out1
  obtain ⟨ρ2, A2, vs, sr, hr2, r2, e2, h2⟩ := OutG.at out1' hr1 (AVrs.cons r1 .nil)
  cases r2 with
  | @cons w z ws zs r2 r3 =>
    cases r3
    have e2 : seqSrc A2 w = some sr := e2
    cases r2 with
    | @ref n a w1 =>
      obtain ⟨rfl, us, e3⟩ := seqSrc_ref e2
      obtain ⟨Vs, k1, k2⟩ := hr2.seq e3 w1
      exact .inl ⟨a, Vs, rfl, k1, h2 _ (ItOk.list w1)⟩
    | @tup a Vs us w1 w2 =>
      cases (Option.some.inj e2)
      exact .inr (.inl ⟨a, Vs, rfl, w1, h2 _ (ItOk.tup w1 w2)⟩)
    | str x =>
      cases (Option.some.inj e2)
      exact .inr (.inr ⟨x, rfl, h2 _ ItOk.str⟩)
    | _ => cases e2
theorem i_range1 (g : Good T G c k N sc calm blk W X) {tg e : Expr} {src : MEs} {x : Str} {p p2 : Pos} (h1 : bltB T sc x (Str.ofString "range") = true) (he : okHead e = true) (ha : PA X [e] (tEs X.K G c W src)) : PI X tg (.Call (.Name x p) [e] [] p2) (tI X.K G c W .range1 src) := by
  obtain ⟨rfl, l2, l3, l4, l5⟩ := bltB_inv g h1
  refine PI.weak (pi_range1 l2 l3 ha (head_star he)) fun σ H R q => ?_
  obtain ⟨ρ, s, A, hs, hr, out⟩ := q
  refine ⟨ρ, s, A, hs, hr, OutG.q (OutI.of out) fun ys H1 q1 => ?_⟩
  obtain ⟨ρ2, A2, vs, sr, hr2, r2, e2, h2⟩ := q1
  obtain ⟨j, rfl, hb, rfl⟩ := srcA_r1 e2
  obtain ⟨y, rfl, r3⟩ := args1 r2 rfl
  cases r3
  rw [big_eq] at hb
  refine ⟨j, rfl, hb.1, hb.2, ?_⟩
  have z := h2 _ (ItOk.range (lo := 0) (hi := j))
  rw [Int.sub_zero] at z
  exact z
theorem i_range2 (g : Good T G c k N sc calm blk W X) {tg e f : Expr} {src : MEs} {x : Str} {p p2 : Pos} (h1 : bltB T sc x (Str.ofString "range") = true) (he : okHead e = true) (hf : okHead f = true) (ha : PA X [e, f] (tEs X.K G c W src)) : PI X tg (.Call (.Name x p) [e, f] [] p2) (tI X.K G c W .range2 src) := by
  obtain ⟨rfl, l2, l3, l4, l5⟩ := bltB_inv g h1
  refine PI.weak (pi_range2 l2 l3 ha (by rw [head_star he, head_star hf]; rfl) (head_star hf)) fun σ H R q => ?_
  obtain ⟨ρ, s, A, hs, hr, out⟩ := q
  refine ⟨ρ, s, A, hs, hr, OutG.q (OutI.of out) fun ys H1 q1 => ?_⟩
  obtain ⟨ρ2, A2, vs, sr, hr2, r2, e2, h2⟩ := q1
  obtain ⟨i, j, rfl, hb, rfl⟩ := srcA_r2 e2
  obtain ⟨y, z, rfl, r3, r4⟩ := args2 r2 rfl
  cases r3
  cases r4
  rw [big_eq] at hb
  exact ⟨i, j, rfl, ⟨hb.1.1, hb.1.2, hb.2.1, hb.2.2⟩, h2 _ (ItOk.range (lo := i) (hi := j))⟩
theorem i_enum (g : Good T G c k N sc calm blk W X) {ts : List Expr} {e : Expr} {src : MEs} {x : Str} {kk : Nat} {tp p p2 : Pos} (h1 : bltB T sc x (Str.ofString "enumerate") = true) (he : okHead e = true) (ha : PA X [e] (tEs X.K G c W src)) : PI X (.Tuple ts kk tp) (.Call (.Name x p) [e] [] p2) (tI X.K G c W .enum src) := by
  obtain ⟨rfl, l2, l3, l4, l5⟩ := bltB_inv g h1
  refine PI.weak (pi_enum l2 l3 ha (head_star he)) fun σ H R q => ?_
  obtain ⟨ρ, s, A, hs, hr, out⟩ := q
  refine ⟨ρ, s, A, hs, hr, OutG.q (OutI.of out) fun ys H1 q1 => ?_⟩
  obtain ⟨ρ2, A2, vs, sr, hr2, r2, e2, h2⟩ := q1
  obtain ⟨n, us, rfl, e3, rfl⟩ := srcA_en e2
  obtain ⟨y, rfl, r3⟩ := args1 r2 rfl
  cases r3 with
  | ref w1 =>
    obtain ⟨Vs, k1, k2⟩ := hr2.seq e3 w1
    exact ⟨_, Vs, rfl, k1, h2 _ (ItOk.enum w1)⟩
theorem i_zip (g : Good T G c k N sc calm blk W X) {ts : List Expr} {e f : Expr} {src : MEs} {x : Str} {kk : Nat} {tp p p2 : Pos} (h1 : bltB T sc x (Str.ofString "zip") = true) (he : okHead e = true) (hf : okHead f = true) (ha : PA X [e, f] (tEs X.K G c W src)) : PI X (.Tuple ts kk tp) (.Call (.Name x p) [e, f] [] p2) (tI X.K G c W .zip src) := by
  obtain ⟨rfl, l2, l3, l4, l5⟩ := bltB_inv g h1
  refine PI.weak (pi_zip l2 l3 ha (head_star he) (star_plain (es := [f]) (by show (okHead f && true) = true; rw [hf]; rfl))) fun σ H R q => ?_
  obtain ⟨ρ, s, A, hs, hr, out⟩ := q
  refine ⟨ρ, s, A, hs, hr, OutG.q (OutI.of out) fun ys H1 q1 => ?_⟩
  obtain ⟨ρ2, A2, vs, sr, hr2, r2, e2, h2⟩ := q1
  obtain ⟨n, m, us, us2, rfl, e3, e4, rfl⟩ := srcA_zp e2
  obtain ⟨y, z, rfl, r3, r4⟩ := args2 r2 rfl
  cases r3 with
  | ref w1 => cases r4 with
    | ref w2 =>
      obtain ⟨Vs, k1, k2⟩ := hr2.seq e3 w1
      obtain ⟨Ws, k3, k4⟩ := hr2.seq e4 w2
      exact ⟨_, _, Vs, Ws, rfl, k1, k3, h2 _ (ItOk.zip w1 w2)⟩
/-- what is told of a row of expressions -/
def PAs (X : Cx) (G : Gx) (c : Cl) (W : WX) (fs : List Expr) (es : MEs) : Prop :=
  PA X fs (tEs X.K G c W es) ∧ (∀ kk p, fs ≠ [] → PE X (.BoolOp (if kk then .And else .Or) fs p) (tBv X.K G c W kk es) ∧ PW X (.BoolOp (if kk then .And else .Or) fs p) (tBt X.K G c W kk es)) ∧ (∀ a e, es = .cons a .nil → fs = [e] → PB X G c W e a) ∧ ∀ ks : List Keyword, ks.map (·.value) = fs → PK X ks (tEs X.K G c W es)
theorem i_all (g : Good T G c k N sc calm blk W X) {kk : IK} {src : MEs} {tg e : Expr} (h : chkI T sc kk (fun fs => chkEs T N sc calm src fs) tg e = true) (ih : ∀ fs, chkEs T N sc calm src fs = true → PAs X G c W fs src) : PI X tg e (tI X.K G c W kk src) := by
  have len1 : ∀ {fs : List Expr}, fs.length = 1 → ∃ e, fs = [e] := fun {fs} h => by
    rcases fs with _ | ⟨e, _ | ⟨_, _⟩⟩
    · cases h
    · exact ⟨e, rfl⟩
    · exact absurd h (by simp)
  have len2 : ∀ {fs : List Expr}, fs.length = 2 → ∃ e f, fs = [e, f] := fun {fs} h => by
    rcases fs with _ | ⟨e, _ | ⟨f, _ | ⟨_, _⟩⟩⟩
    · cases h
    · exact absurd h (by simp)
    · exact ⟨e, f, rfl⟩
    · exact absurd h (by simp)
  cases kk with
  | seq =>
    simp only [chkI] at h
    obtain ⟨_, _, h3, _⟩ := ih [e] h
    cases src with
    | nil => simp only [chkEs] at h; cases h
    | cons a as => cases as with
      | cons _ _ => simp only [chkEs, Bool.and_false] at h; exact absurd h Bool.false_ne_true
      | nil => exact i_seq g (h3 a e rfl rfl).1
  | range1 =>
    simp only [chkI] at h
    split at h
    · rename_i x fs q
      obtain ⟨q1, q2, rfl⟩ := callOf_inv q
      obtain ⟨h1, h2, h3⟩ := and3 h
      obtain ⟨e1, rfl⟩ := len1 (of_decide_eq_true h2)
      have hh : (okHead e1 && true) = true := chkEs_head h3
      exact i_range1 g h1 (and2 hh).1 (ih _ h3).1
    · cases h
  | range2 =>
    simp only [chkI] at h
    split at h
    · rename_i x fs q
      obtain ⟨q1, q2, rfl⟩ := callOf_inv q
      obtain ⟨h1, h2, h3⟩ := and3 h
      obtain ⟨e1, e2, rfl⟩ := len2 (of_decide_eq_true h2)
      have hh : (okHead e1 && (okHead e2 && true)) = true := chkEs_head h3
      exact i_range2 g h1 (and2 hh).1 (and2 (and2 hh).2).1 (ih _ h3).1
    · cases h
  | enum =>
    simp only [chkI] at h
    split at h
    · rename_i x fs ts q qt
      obtain ⟨q1, q2, rfl⟩ := callOf_inv q
      obtain ⟨kk, tp, rfl⟩ := tupOf_inv qt
      obtain ⟨h1, h2, h3⟩ := and3 h
      obtain ⟨e1, rfl⟩ := len1 (of_decide_eq_true h2)
      have hh : (okHead e1 && true) = true := chkEs_head h3
      exact i_enum g h1 (and2 hh).1 (ih _ h3).1
    · cases h
  | zip =>
    simp only [chkI] at h
    split at h
    · rename_i x fs ts q qt
      obtain ⟨q1, q2, rfl⟩ := callOf_inv q
      obtain ⟨kk, tp, rfl⟩ := tupOf_inv qt
      obtain ⟨h1, h2, h3⟩ := and3 h
      obtain ⟨e1, e2, rfl⟩ := len2 (of_decide_eq_true h2)
      have hh : (okHead e1 && (okHead e2 && true)) = true := chkEs_head h3
      exact i_zip g h1 (and2 hh).1 (and2 (and2 hh).2).1 (ih _ h3).1
    · cases h
  | _ => simp only [chkI] at h; exact absurd h Bool.false_ne_true
end
/-! ### list comprehensions -/
theorem wipe_in {σ : L2.St} {j : Nat} : ∀ {vs : List Nat}, j ∈ vs → (L2.wipe σ vs)[j]? = if j < σ.length then some none else none
  | [], h => by cases h
  | v :: vs, h => by
    unfold L2.wipe
    by_cases hv : v = j
    · subst hv
      by_cases hl : v < σ.length
      · rw [List.getElem?_set_self (by rw [wipe_length]; exact hl), if_pos hl]
      · rw [List.getElem?_eq_none (by rw [List.length_set, wipe_length]; omega), if_neg hl]
    · rw [List.getElem?_set_ne hv]
      exact wipe_in (by
        rcases List.mem_cons.mp h with h | h
        · exact absurd h.symm hv
        · exact h)
theorem wipe_agr {σ σ' : L2.St} {is vs : List Nat} (a : Agr (L2.wipe σ vs) σ' is) (h : ∀ i ∈ is, i ∈ vs) : L2.wipe σ' vs = L2.wipe σ vs := by
  apply List.ext_getElem?
  intro j
  have hl : σ'.length = σ.length := by rw [a.len, wipe_length]
  by_cases hj : j ∈ vs
  · rw [wipe_in hj, wipe_in hj, hl]
  · rw [wipe_out hj, a.at_ j fun z => hj (h j z)]
theorem ownN_map {N : List Str} : ∀ {own : List Nat} {ow : List (Str × Nat)}, ownN N own = some ow → ow.map (·.2) = own
  | [], ow, h => by
    unfold ownN at h
    simp at h
    subst h; rfl
  | i :: own, ow, h => by
    unfold ownN at h
    rw [List.mapM_cons] at h
    cases q : N[i]? with
    | none => rw [q] at h; cases h
    | some x =>
      rw [q] at h
      cases q2 : ownN N own with
      | none =>
        unfold ownN at q2
        rw [q2] at h; cases h
      | some ow2 =>
        have ih := ownN_map q2
        unfold ownN at q2
        rw [q2] at h
        cases (Option.some.inj h)
        rw [List.map_cons, ih]
/-- the comprehension's block is no end for an exception -/
abbrev W0 : WX := fun _ _ _ _ => False
section
variable {T : Tb} {G : Gx} {c : Cl} {k : Nat} {N : List Str} {sc : Scope} {calm blk : Bool} {W : WX} {X : Cx}
theorem good_blk (g : Good T G c k N sc calm blk W X) {scope : Scope} {s : Shared} {H : Hp} {C : Addr} {cl : List (Str × Addr)} {fp : List Addr} (hcm : calm = true) (hkind : X.env.scope.kind = sc.kind) (hk : scope.kind = .function) : Good T G c k N (relS scope sc) calm true W0 (X.blk s H scope (compEnvC scope cl C X.env) fp) where
  hN := g.hN
  hsc := by
    have e : X.env.scope = sc := g.hsc
    subst e
    rfl
  hcalm := g.hcalm
  nd := g.nd
  hG := g.hG
  room := g.room
  takes := fun u s' x => by
    obtain ⟨_, _, _, _, _, _, _, _, _, _, _, _, _, _, _, _, z⟩ := x
    exact z
  free := g.free
  gls := g.gls
  un := g.un
  ceq := g.ceq
  fns := g.fns
  own := g.own
  exc := g.exc
  stk := fun z => nomatch z
  xc := g.xc
  xn := g.xn
  xs := fun j C n e => by rw [(g.xc hcm).2] at e; cases e
  st := fun x h => by
    have h1 : (locB (relS scope sc) x || false) = true := h
    rw [Bool.or_false] at h1
    have h2 : (relS scope sc).names.lookup x = some .local := of_decide_eq_true h1
    have e : X.env.scope = sc := g.hsc
    have h3 : (relS scope X.env.scope).names.lookup x = some .local := by rw [e]; exact h2
    exact ⟨.inl h3, .inr h3⟩
/-- a turn of the comprehension -/
def stepC (c : Cl) (s : AS) (own : List Nat) (tg : MT) (ifs : MEs) (elt : ME) : AV → AH → R (Option AV) := fun v A => match bindT A tg v (wipeA s own) with
  | none => .stuck
  | some s2 => (evB c s2 true ifs A).bind fun t A => match t with
    | .bl true => (evE c s2 elt A).bind fun y A => .ok (some y) A
    | .bl false => .ok none A
    | _ => .stuck
theorem evE_comp {s : AS} {own : List Nat} {tg : MT} {kk : IK} {src ifs : MEs} {elt : ME} {A : AH} : evE c s (.comp own tg kk src ifs elt) A = (evs c s src A).bind fun vs A => match srcA A kk vs with
    | none => .stuck
    | some sr => match sr.len A with
      | none => .stuck
      | some n => compL (stepC c s own tg ifs elt) sr A.length n 0 (A ++ [.lst []]) := by
  simp only [evE]
  rfl
theorem ifs_pts (g : Good T G c k N sc calm blk W X) {ifs : MEs} {fs : List Expr} (hl : fs.length ≤ 1) (hc : chkEs T N sc calm ifs fs = true) (h : PAs X G c W fs ifs) : PTs X fs (tBt X.K G c W true ifs) := by
  cases ifs with
  | nil =>
    cases fs with
    | cons _ _ => simp only [chkEs] at hc; cases hc
    | nil =>
      refine ⟨fun pins s σ H Q I q => pts_nil.run pins s σ H Q I ?_⟩
      obtain ⟨ρ, s, A, hs, hr, out⟩ := q
      simp only [evB] at out
      obtain ⟨b, e, q⟩ := out
      cases (Option.some.inj e)
      exact q H ρ .refl hr
  | cons a as =>
    cases fs with
    | nil => simp only [chkEs] at hc; exact absurd hc Bool.false_ne_true
    | cons e es =>
      cases es with
      | cons _ _ => exact absurd hl (by simp)
      | nil =>
        simp only [chkEs] at hc
        cases as with
        | cons _ _ => simp only [chkEs, Bool.and_false] at hc; exact absurd hc Bool.false_ne_true
        | nil =>
          have hb := (h.2.2.1 a e rfl rfl).2
          refine ⟨fun pins s σ H Q I q => (pts_one hb).run pins s σ H Q I ?_⟩
          obtain ⟨ρ, s, A, hs, hr, out⟩ := q
          simp only [evB] at out
          exact ⟨ρ, s, A, hs, hr, out⟩
/-- the comprehension's reading is met -/
theorem tLc_of {K : PySem.W.Frag} (hgx : G.x = none) {own : List Nat} {ow : List (Str × Nat)} {tg : MT} {kk : IK} {src ifs : MEs} {elt : ME} {σ : L2.St} {H : Hp} {Q : VK} (hown : ow.map (·.2) = own) (hsl : (slotsT tg).all (fun i => own.contains i) = true)
    (q : tE K G c W (.comp own tg kk src ifs elt) σ H Q) : tLc (tI K G c W kk src) (tG K G tg) (tBt K G c W0 true ifs) (tE K G c W0 elt) (ow.map (·.2)) σ H Q := by
  rw [hown]
  obtain ⟨ρ, s, A, hs, hr, out⟩ := q
  rw [evE_comp] at out
  refine ⟨ρ, s, A, hs, hr, ?_⟩
  cases r : evs c s src A with
  | exc C fs A1 => rw [r] at out; exact out
  | stuck => rw [r] at out; exact out
  | ok vs A1 =>
    rw [r] at out
    have out : Out K G ρ H (wE W σ) Q (match srcA A1 kk vs with
      | none => .stuck
      | some sr => match sr.len A1 with
        | none => .stuck
        | some n => compL (stepC c s own tg ifs elt) sr A1.length n 0 (A1 ++ [.lst []])) := out
    cases e1 : srcA A1 kk vs with
    | none => rw [e1] at out; exact False.elim out
    | some sr =>
      rw [e1] at out
      have out : Out K G ρ H (wE W σ) Q (match sr.len A1 with
        | none => .stuck
        | some n => compL (stepC c s own tg ifs elt) sr A1.length n 0 (A1 ++ [.lst []])) := out
      cases e2 : sr.len A1 with
      | none => rw [e2] at out; exact False.elim out
      | some n =>
        rw [e2] at out
        have out : Out K G ρ H (wE W σ) Q (compL (stepC c s own tg ifs elt) sr A1.length n 0 (A1 ++ [.lst []])) := out
        refine ⟨sr, e1, fun J H1 ρ1 x1 hr1 hJ D hD => ?_⟩
        refine ⟨fun i m H' => ∃ ρ3 A3, Hext K ρ1 H1 ρ3 H' ∧ HRel K G ρ3 H' A3 ∧ ρ3[A1.length]? = some D ∧ Out K G ρ3 H' (wE W σ) Q (compL (stepC c s own tg ifs elt) sr A1.length m i A3), ⟨n, ρ1 ++ [D], A1 ++ [.lst []], Hext.new hD, hr1.new (ao := .lst []) hD ⟨[], upd_same, .nil⟩, lenR hr1, OutG.mono out (x1.trans (Hext.new hD))⟩, fun i m H' w => ?_⟩
        obtain ⟨ρ3, A3, x3, hr3, hD3, o3⟩ := w
        have J3 := hJ i ρ3 H' A3 x3 hr3
        cases m with
        | zero =>
          left
          unfold compL at o3
          split at o3
          · rename_i e4
            exact ⟨J3.2 e4, OutG.at o3 hr3 (.ref hD3)⟩
          · exact False.elim o3
        | succ m =>
          right
          unfold compL at o3
          split at o3
          · rename_i v e4
            obtain ⟨hgo, hy⟩ := J3.1 v e4
            refine ⟨hgo, fun H'' => ∃ ρ3 A3, Hext K ρ1 H1 ρ3 H'' ∧ HRel K G ρ3 H'' A3 ∧ ρ3[A1.length]? = some D ∧ Out K G ρ3 H'' (wE W σ) Q (compL (stepC c s own tg ifs elt) sr A1.length m (i + 1) A3), fun H'' z => ⟨m, Nat.lt_succ_self m, z⟩, fun x H4 hx => ?_⟩
            obtain ⟨x4, hr4, rx⟩ := hy x H4 hx
            have hs4 : SRel K G ρ3 H4 s σ := hs.mono (x1.trans (x3.trans x4))
            have o4 := OutG.mono o3 x4
            cases e5 : bindT A3 tg v (wipeA s own) with
            | none =>
              have z : stepC c s own tg ifs elt v A3 = .stuck := by unfold stepC; rw [e5]
              rw [z] at o4; exact False.elim o4
            | some s2 =>
              have z : stepC c s own tg ifs elt v A3 = ((evB c s2 true ifs A3).bind fun t A => match t with
                | .bl true => (evE c s2 elt A).bind fun y A => .ok (some y) A
                | .bl false => .ok none A
                | _ => .stuck) := by unfold stepC; rw [e5]
              rw [z] at o4
              refine ⟨ρ3, wipeA s own, A3, v, s2, SRel.wipe hgx hs4 own, hr4, rx, e5, fun σ2 hs5 ag => ⟨wipe_agr ag fun j hj => by
                have k := List.all_eq_true.mp hsl j hj
                simpa using k, ρ3, s2, A3, hs5, hr4, ?_⟩⟩
              cases r5 : evB c s2 true ifs A3 with
              | exc C fs A5 => rw [r5] at o4; exact False.elim o4
              | stuck => rw [r5] at o4; exact False.elim o4
              | ok t A5 =>
                rw [r5] at o4
                cases t with
                | bl b =>
                  refine ⟨b, rfl, fun H5 ρ5 x5 hr5 => ?_⟩
                  have o5 := OutG.mono o4 x5
                  have hD5 : ρ5[A1.length]? = some D := x5.pre _ _ hD3
                  have xx : Hext K ρ1 H1 ρ5 H5 := (x3.trans x4).trans x5
                  cases b with
                  | false => exact ⟨ρ5, A5, xx, hr5, hD5, o5⟩
                  | true =>
                    refine ⟨ρ5, s2, A5, hs5.mono x5, hr5, ?_⟩
                    cases r6 : evE c s2 elt A5 with
                    | exc C fs A6 =>
                      have o5 : Out K G ρ5 H5 (wE W σ) Q (match (evE c s2 elt A5).bind fun y A => R.ok (some y) A with
                        | .ok (some y) A' => match lstAt A' A1.length with
                          | some acc => if acc.length < sizeLine then compL (stepC c s own tg ifs elt) sr A1.length m (i + 1) (setL A' A1.length (acc ++ [y])) else .stuck
                          | none => .stuck
                        | .ok none A' => compL (stepC c s own tg ifs elt) sr A1.length m (i + 1) A'
                        | _ => .stuck) := o5
                      rw [r6] at o5; exact False.elim o5
                    | stuck =>
                      have o5 : Out K G ρ5 H5 (wE W σ) Q (match (evE c s2 elt A5).bind fun y A => R.ok (some y) A with
                        | .ok (some y) A' => match lstAt A' A1.length with
                          | some acc => if acc.length < sizeLine then compL (stepC c s own tg ifs elt) sr A1.length m (i + 1) (setL A' A1.length (acc ++ [y])) else .stuck
                          | none => .stuck
                        | .ok none A' => compL (stepC c s own tg ifs elt) sr A1.length m (i + 1) A'
                        | _ => .stuck) := o5
                      rw [r6] at o5; exact False.elim o5
                    | ok y A6 =>
                      have o5 : Out K G ρ5 H5 (wE W σ) Q (match (evE c s2 elt A5).bind fun y A => R.ok (some y) A with
                        | .ok (some y) A' => match lstAt A' A1.length with
                          | some acc => if acc.length < sizeLine then compL (stepC c s own tg ifs elt) sr A1.length m (i + 1) (setL A' A1.length (acc ++ [y])) else .stuck
                          | none => .stuck
                        | .ok none A' => compL (stepC c s own tg ifs elt) sr A1.length m (i + 1) A'
                        | _ => .stuck) := o5
                      rw [r6] at o5
                      have o5 : Out K G ρ5 H5 (wE W σ) Q (match lstAt A6 A1.length with
                          | some acc => if acc.length < sizeLine then compL (stepC c s own tg ifs elt) sr A1.length m (i + 1) (setL A6 A1.length (acc ++ [y])) else .stuck
                          | none => .stuck) := o5
                      intro yv H6 ρ6 x6 hr6 ry
                      cases e7 : lstAt A6 A1.length with
                      | none => rw [e7] at o5; exact False.elim o5
                      | some acc =>
                        rw [e7] at o5
                        have o5 : Out K G ρ5 H5 (wE W σ) Q (if acc.length < sizeLine then compL (stepC c s own tg ifs elt) sr A1.length m (i + 1) (setL A6 A1.length (acc ++ [y])) else .stuck) := o5
                        split at o5
                        · rename_i hlt
                          have hD6 : ρ6[A1.length]? = some D := x6.pre _ _ hD5
                          obtain ⟨Vs, k1, k2⟩ := hr6.lst e7 hD6
                          have mu : Mut (H6 D) := by rw [k1]; exact True.intro
                          refine ⟨Vs, k1, by rw [← k2.length]; exact hlt, ρ6, setL A6 A1.length (acc ++ [y]), (xx.trans x6).trans (Hext.mut mu), ?_, hD6, OutG.mono o5 (x6.trans (Hext.mut mu))⟩
                          exact hr6.set (lstAt_iff.mp e7) rfl rfl hD6 ⟨Vs ++ [yv], upd_same, (k2.append (.cons ry .nil)).mono (Hext.mut mu)⟩
                        · exact False.elim o5
                | _ => exact False.elim o4
          · exact False.elim o3
theorem e_comp (g : Good T G c k N sc calm blk W X) {f te ie : Expr} {ifes : List Expr} {scope : Scope} {p : Pos} {own : List Nat} {ow : List (Str × Nat)} {tg : MT} {kk : IK} {src ifs : MEs} {elt : ME} (hcalm : calm = true) (how : ownN N own = some ow) (hb : blkC N sc scope ow = true)
    (ht : chkT N (relS scope sc) calm true tg te = true) (hi : chkI T sc kk (fun fs => chkEs T N sc calm src fs) te ie = true) (hif : chkEs T N (relS scope sc) calm ifs ifes = true) (hl : ifes.length ≤ 1) (hsl : (slotsT tg).all (fun i => own.contains i) = true) (hie : ∀ x, foldedSetIterable ie X.env x = pure x)
    (i1 : ∀ fs, chkEs T N sc calm src fs = true → PAs X G c W fs src)
    (i2 : ∀ (Y : Cx), Good T G c k N (relS scope sc) calm true W0 Y → PAs Y G c W0 ifes ifs)
    (i3 : ∀ (Y : Cx), Good T G c k N (relS scope sc) calm true W0 Y → PB Y G c W0 f elt) : PB X G c W (.ListComp f [⟨te, ie, ifes, 0⟩] scope p) (.comp own tg kk src ifs elt) := by
  have hc := g.hcalm hcalm
  have ok : BlkOk X.N X.env.scope scope ow := by
    rw [g.hN, g.hsc]
    exact blkOk_by hb
  have gb : ∀ (s : Shared) (H : Hp) (C : Addr) (cl : List (Str × Addr)) (fp : List Addr), Good T G c k N (relS scope sc) calm true W0 (X.blk s H scope (compEnvC scope cl C X.env) fp) := fun s H C cl fp => good_blk g hcalm (by rw [g.hsc]) ok.kind
  refine pb_of (PE.weak (pe_lc (wi := tI X.K G c W kk src) (g := tG X.K G tg) (tt := tBt X.K G c W0 true ifs) (te := tE X.K G c W0 elt) hc (by rw [g.hN]; exact g.nd) (i_all g hi i1) ok (fun s H C cl fp => soundT (gb s H C cl fp) tg te ht)
    (fun s H C cl fp => ifs_pts (gb s H C cl fp) hl hif (i2 _ (gb s H C cl fp))) (fun s H C cl fp => (i3 _ (gb s H C cl fp)).1) hie) fun σ H Q q => tLc_of (g.xc hcalm).1 (ownN_map how) hsl q) rfl
theorem chkI_fold {T : Tb} {kk : IK} {src : MEs} {te ie : Expr} (h : chkI T sc kk (fun fs => chkEs T N sc calm src fs) te ie = true) : okHead ie = true := by
  cases kk with
  | seq =>
    simp only [chkI] at h
    have hh : (okHead ie && true) = true := chkEs_head h
    exact (and2 hh).1
  | range1 =>
    simp only [chkI] at h
    split at h
    · rename_i x fs q
      obtain ⟨q1, q2, rfl⟩ := callOf_inv q
      rfl
    · cases h
  | range2 =>
    simp only [chkI] at h
    split at h
    · rename_i x fs q
      obtain ⟨q1, q2, rfl⟩ := callOf_inv q
      rfl
    · cases h
  | enum =>
    simp only [chkI] at h
    split at h
    · rename_i x fs ts q qt
      obtain ⟨q1, q2, rfl⟩ := callOf_inv q
      rfl
    · cases h
  | zip =>
    simp only [chkI] at h
    split at h
    · rename_i x fs ts q qt
      obtain ⟨q1, q2, rfl⟩ := callOf_inv q
      rfl
    · cases h
  | _ => simp only [chkI] at h; exact absurd h Bool.false_ne_true
end
section
variable {T : Tb} {G : Gx} {c : Cl} {k : Nat} {N : List Str} {calm : Bool}
theorem p_nil (W : WX) (X : Cx) : PAs X G c W [] .nil :=
  ⟨PA.weak pa_nil fun σ H Q q => by
    obtain ⟨ρ, s, A, hs, hr, out⟩ := q
    simp only [evs] at out
    exact OutG.at out hr .nil, fun _ _ h => absurd rfl h, (fun _ _ h => nomatch h), fun ks h => by
    cases ks with
    | cons _ _ => cases h
    | nil => exact ⟨fun pos pins s σ H Q I q => pk_nil.run pos pins s σ H Q I (by
        obtain ⟨ρ, s, A, hs, hr, out⟩ := q
        simp only [evs] at out
        exact OutG.at out hr .nil)⟩⟩
theorem p_cons {sc : Scope} {blk : Bool} {W : WX} {X : Cx} (g : Good T G c k N sc calm blk W X) {a : ME} {as : MEs} {e : Expr} {es : List Expr} (hh : okHead e = true) (hl : chkEs T N sc calm as es = true) (ha : PB X G c W e a) (hs : PAs X G c W es as) : PAs X G c W (e :: es) (.cons a as) := by
  refine ⟨PA.weak (pa_cons ha.1 hs.1 (head_star hh)) fun σ H Q q => ?_, fun kk p _ => ?_, fun a' e' h1 h2 => ?_, fun ks hk => ?_⟩
  · obtain ⟨ρ, s, A, hs, hr, out⟩ := q
    simp only [evs] at out
    exact ⟨ρ, s, A, hs, hr, OutG.bind out fun v A1 y H1 ρ1 e1 hr1 r1 out1 => ⟨ρ1, s, A1, hs.mono e1, hr1, OutG.bind out1 fun vs A2 ys H2 ρ2 e2 hr2 r2 out2 => OutG.at out2 hr2 (.cons (r1.mono e2) r2)⟩⟩
  · cases as with
    | nil =>
      cases es with
      | nil => exact b_one g ha
      | cons _ _ => simp only [chkEs] at hl; cases hl
    | cons b bs =>
      cases es with
      | nil => simp only [chkEs] at hl; exact absurd hl Bool.false_ne_true
      | cons f fs => exact b_more g ha (hs.2.1 kk p (by simp))
  · cases h1
    cases h2
    exact ha
  · cases ks with
    | nil => cases hk
    | cons kw ks =>
      obtain ⟨nm, e', kp⟩ := kw
      obtain ⟨h1, h2⟩ := List.cons.inj hk
      cases h1
      refine ⟨fun pos pins s σ H Q I q => (pk_cons ha.1 (hs.2.2.2 ks h2)).run pos pins s σ H Q I ?_⟩
      obtain ⟨ρ, s, A, hs, hr, out⟩ := q
      simp only [evs] at out
      exact ⟨ρ, s, A, hs, hr, OutG.bind out fun v A1 y H1 ρ1 e1 hr1 r1 out1 => ⟨ρ1, s, A1, hs.mono e1, hr1, OutG.bind out1 fun vs A2 ys H2 ρ2 e2 hr2 r2 out2 => OutG.at out2 hr2 (.cons (r1.mono e2) r2)⟩⟩
theorem po_of {sc : Scope} {W : WX} {X : Cx} {lo : MEs} {l : Option Expr} (h : chkEs T N sc calm lo l.toList = true) (p : PAs X G c W l.toList lo) : PO X l (tO X.K G c W lo) := by
  cases l with
  | none => cases lo with
    | nil => exact o_none
    | cons _ _ => simp only [Option.toList, chkEs] at h; exact absurd h Bool.false_ne_true
  | some e => cases lo with
    | nil => simp only [Option.toList, chkEs] at h; cases h
    | cons a as =>
      cases as with
      | cons _ _ => simp only [Option.toList, chkEs, Bool.and_false] at h; exact absurd h Bool.false_ne_true
      | nil => exact o_some (p.2.2.1 a e rfl rfl).1
mutual
theorem soundE : ∀ (me : ME) {sc : Scope} {blk : Bool} {W : WX} {X : Cx}, Good T G c k N sc calm blk W X → ∀ (e : Expr), chkE T N sc calm me e = true → PB X G c W e me
  | .var i, _, _, _, _, g, e, h => e_var g h
  | .cst v, _, _, _, _, g, e, h => e_cst g h
  | .gl i, _, _, _, _, g, e, h => e_gl g h
  | .bin o a b, _, _, _, _, g, e, h => by
    simp only [chkE] at h
    split at h
    · rename_i q
      obtain ⟨p, rfl⟩ := binOf_inv q
      obtain ⟨h1, h2, h3⟩ := and3 h
      cases (of_decide_eq_true h1)
      exact e_bin g (soundE a g _ h2).1 (soundE b g _ h3).1
    · cases h
  | .neg a, _, _, _, _, g, e, h => by
    simp only [chkE] at h
    split at h
    · rename_i q
      obtain ⟨p, rfl⟩ := unOf_inv q
      obtain ⟨h1, h2⟩ := and2 h
      cases (of_decide_eq_true h1)
      exact e_neg g (soundE a g _ h2).1
    · cases h
  | .not a, _, _, _, _, g, e, h => by
    simp only [chkE] at h
    split at h
    · rename_i q
      obtain ⟨p, rfl⟩ := unOf_inv q
      obtain ⟨h1, h2⟩ := and2 h
      cases (of_decide_eq_true h1)
      exact e_not g (soundE a g _ h2)
    · cases h
  | .cmp o a b, _, _, _, _, g, e, h => by
    simp only [chkE] at h
    split at h
    · rename_i q
      obtain ⟨p, rfl⟩ := cmpOf_inv q
      obtain ⟨h1, h2, h3⟩ := and3 h
      cases (of_decide_eq_true h1)
      exact e_cmp g (soundE a g _ h2).1 (soundE b g _ h3).1 (chkE_head h3)
    · cases h
  | .cmp2 o o2 a b d, _, _, _, _, g, e, h => by
    simp only [chkE] at h
    split at h
    · rename_i q
      obtain ⟨p, rfl⟩ := cmp2Of_inv q
      obtain ⟨h, h5⟩ := and2 h
      obtain ⟨h, h4⟩ := and2 h
      obtain ⟨h1, h2, h3⟩ := and3 h
      cases (of_decide_eq_true h1)
      cases (of_decide_eq_true h2)
      exact e_cmp2 g (soundE a g _ h3).1 (soundE b g _ h4).1 (soundE d g _ h5).1 (chkE_head h5)
    · cases h
  | .bop kk es, _, _, _, _, g, e, h => by
    simp only [chkE] at h
    split at h
    · rename_i q
      obtain ⟨p, rfl⟩ := boolOf_inv q
      obtain ⟨h1, h2, h3⟩ := and3 h
      cases (of_decide_eq_true h1)
      obtain ⟨k1, k2⟩ := (soundEs es g _ h2).2.1 kk p (by
        intro z
        rw [z] at h3
        cases h3)
      refine ⟨PE.weak k1 fun σ H Q q => ?_, ⟨fun pins s σ H Q I q => k2.run _ pins s σ H Q I ?_⟩⟩
      · obtain ⟨ρ, s, A, hs, hr, out⟩ := q
        simp only [evE] at out
        exact ⟨ρ, s, A, hs, hr, out⟩
      · obtain ⟨ρ, s, A, hs, hr, out⟩ := q
        simp only [evE] at out
        exact ⟨ρ, s, A, hs, hr, out⟩
    · cases h
  | .ife d a b, _, _, _, _, g, e, h => by
    simp only [chkE] at h
    split at h
    · rename_i q
      obtain ⟨p, rfl⟩ := ifeOf_inv q
      obtain ⟨h1, h2, h3⟩ := and3 h
      exact e_ife g (soundE d g _ h1) (soundE a g _ h2) (soundE b g _ h3)
    · cases h
  | .tup es, _, _, _, _, g, e, h => by
    simp only [chkE] at h
    split at h
    · rename_i q
      obtain ⟨kk, p, rfl⟩ := tupOf_inv q
      exact e_tup g (soundEs es g _ h).1
    · cases h
  | .lst es, _, _, _, _, g, e, h => by
    simp only [chkE] at h
    split at h
    · rename_i q
      obtain ⟨p, rfl⟩ := lstOf_inv q
      exact e_lst g (soundEs es g _ h).1
    · cases h
  | .idx a b, _, _, _, _, g, e, h => by
    simp only [chkE] at h
    split at h
    · rename_i q
      obtain ⟨p, rfl⟩ := subOf_inv q
      obtain ⟨h1, h2⟩ := and2 h
      exact e_idx g (soundE a g _ h1).1 (soundE b g _ h2).1 (chkE_head h2)
    · cases h
  | .call f es, _, _, _, _, g, e, h => by
    simp only [chkE] at h
    split at h
    · rename_i q
      obtain ⟨p, p2, rfl⟩ := callOf_inv q
      obtain ⟨h, h5⟩ := and2 h
      obtain ⟨h, h4⟩ := and2 h
      obtain ⟨h, h3⟩ := and2 h
      obtain ⟨h0, h1, h2⟩ := and3 h
      exact e_call g h0 h1 h2 h3 (chkEs_head h4) (by simpa using h5) (soundEs es g _ h4).1
    · cases h
  | .blt b es, _, _, _, _, g, e, h => by
    simp only [chkE] at h
    split at h
    · rename_i q
      obtain ⟨p, p2, rfl⟩ := callOf_inv q
      split at h
      · rename_i hb
        obtain ⟨h, h5⟩ := and2 h
        obtain ⟨h1, h2, h3⟩ := and3 h
        exact e_blt g hb h1 h2 (chkEs_head h3) (by simpa using h5) (soundEs es g _ h3).1
      · cases h
    · cases h
  | .bm m o es, _, _, _, _, g, e, h => by
    simp only [chkE] at h
    split at h
    · rename_i q
      obtain ⟨p, p2, rfl, l1, l2⟩ := methOf_inv q
      split at h
      · rename_i hb
        obtain ⟨h, h5⟩ := and2 h
        obtain ⟨h, h4⟩ := and2 h
        obtain ⟨h, h6⟩ := and2 h
        obtain ⟨h1, h2, h3⟩ := and3 h
        exact e_bm g hb (of_decide_eq_true h1) (of_decide_eq_true h2) (by rw [l1, l2]; exact h3) h6 (soundE o g _ h4).1 h5 (soundEs es g _ h5).1
      · cases h
    · cases h
  | .isi a t, _, _, _, _, g, e, h => by
    simp only [chkE] at h
    split at h
    · rename_i q
      obtain ⟨p, p2, rfl⟩ := callOf_inv q
      split at h
      · split at h
        · rename_i q2
          obtain ⟨p3, rfl⟩ := nmOf_inv q2
          obtain ⟨h1, h2, h3⟩ := and3 h
          exact e_isi g h1 h2 (chkE_head h3) (soundE a g _ h3).1
        · cases h
      · cases h
    · cases h
  | .comp own tg kk src ifs elt, _, _, _, _, g, e, h => by
    simp only [chkE] at h
    split at h
    · rename_i q
      obtain ⟨p, rfl⟩ := compOf_inv q
      obtain ⟨hcalm, h⟩ := and2 h
      split at h
      · rename_i how
        obtain ⟨h, h7⟩ := and2 h
        obtain ⟨h, h6⟩ := and2 h
        obtain ⟨h, h5⟩ := and2 h
        obtain ⟨h, h4⟩ := and2 h
        obtain ⟨h1, h2, h3⟩ := and3 h
        exact e_comp g hcalm how h1 h2 h3 h4 (of_decide_eq_true h5) h6 (fun x => head_fold (chkI_fold h3) x) (fun fs hf => soundEs src g fs hf) (fun Y gY => soundEs ifs gY _ h4) (fun Y gY => soundE elt gY _ h7)
      · cases h
    · cases h
  | .slc a lo hi, _, _, _, _, g, e, h => by
    simp only [chkE] at h
    split at h
    · rename_i q
      obtain ⟨p2, p, rfl⟩ := slcOf_inv q
      obtain ⟨h1, h2, h3⟩ := and3 h
      exact e_slc (soundE a g _ h1).1 (po_of h2 (soundEs lo g _ h2)) (po_of h3 (soundEs hi g _ h3))
    · cases h
  | .rev a, _, _, _, _, g, e, h => by
    simp only [chkE] at h
    split at h
    · rename_i q
      obtain ⟨_, _, _, _, _, rfl⟩ := revOf_inv q
      exact e_rev (soundE a g _ h).1
    · cases h
  | .callk f fm es kes, _, _, _, _, g, e, h => by
    simp only [chkE] at h
    split at h
    · rename_i x fs ks q
      obtain ⟨p, p2, rfl⟩ := callkOf_inv q
      split at h
      · rename_i y z m hq
        obtain ⟨h, h7⟩ := and2 h
        obtain ⟨h, h6⟩ := and2 h
        obtain ⟨h, h5⟩ := and2 h
        obtain ⟨h, h4⟩ := and2 h
        obtain ⟨h, h3⟩ := and2 h
        obtain ⟨h, h2⟩ := and2 h
        obtain ⟨h0, h1, h8⟩ := and3 h
        exact e_callk g h0 hq (of_decide_eq_true h1) (of_decide_eq_true h8) h2 h3 (chkEs_head h4) (by simpa using h5) (of_decide_eq_true h6) (soundEs es g _ h4).1 ((soundEs kes g _ h7).2.2.2 ks rfl)
      · cases h
    · cases h
  | .mk C es, _, _, _, _, g, e, h => by
    simp only [chkE] at h
    split at h
    · rename_i q
      obtain ⟨p, p2, rfl⟩ := callOf_inv q
      obtain ⟨h, h7⟩ := and2 h
      obtain ⟨h, h6⟩ := and2 h
      obtain ⟨h, h5⟩ := and2 h
      obtain ⟨h, h4⟩ := and2 h
      obtain ⟨h1, h2, h3⟩ := and3 h
      exact e_mk g h1 h2 h3 h4 h5 (chkEs_head h6) (by simpa using h7) (soundEs es g _ h6).1
    · cases h
  | .mkk C fm es kes, _, _, _, _, g, e, h => by
    simp only [chkE] at h
    split at h
    · rename_i x fs ks q
      obtain ⟨p, p2, rfl⟩ := callkOf_inv q
      obtain ⟨h, h8⟩ := and2 h
      obtain ⟨h, h7⟩ := and2 h
      obtain ⟨h, h6⟩ := and2 h
      obtain ⟨h, h5⟩ := and2 h
      obtain ⟨h, h4⟩ := and2 h
      obtain ⟨h1, h2, h3⟩ := and3 h
      exact e_mkk g h1 h2 h3 h4 h5 (chkEs_head h6) (by simpa using h7) (soundEs es g _ h6).1 ((soundEs kes g _ h8).2.2.2 ks rfl)
    · cases h
  | .meth C m o es, _, _, _, _, g, e, h => by
    simp only [chkE] at h
    split at h
    · rename_i q
      obtain ⟨p, p2, rfl, l1, l2⟩ := methOf_inv q
      obtain ⟨h, h8⟩ := and2 h
      obtain ⟨h, h7⟩ := and2 h
      obtain ⟨h, h6⟩ := and2 h
      obtain ⟨h, h5⟩ := and2 h
      obtain ⟨h, h4⟩ := and2 h
      obtain ⟨h1, h2, h3⟩ := and3 h
      cases (of_decide_eq_true h2)
      exact e_meth g h1 (by rw [l1, l2]; exact h3) (of_decide_eq_true h4) h5 h6 (soundE o g _ h7).1 h8 (soundEs es g _ h8).1
    · cases h
  | .methk _ _ _ _ _ _, _, _, _, _, g, e, h => by simp only [chkE] at h; exact absurd h Bool.false_ne_true
  | .fld o f, _, _, _, _, g, e, h => by
    simp only [chkE] at h
    split at h
    · rename_i q
      obtain ⟨p, rfl⟩ := attOf_inv q
      obtain ⟨h1, h2, h3⟩ := and3 h
      cases (of_decide_eq_true h1)
      exact e_fld g h2 (soundE o g _ h3).1
    · cases h
  | .isc a C, _, _, _, _, g, e, h => by
    simp only [chkE] at h
    split at h
    · rename_i q
      obtain ⟨p, p2, rfl⟩ := callOf_inv q
      split at h
      · split at h
        · rename_i q2
          obtain ⟨p3, rfl⟩ := nmOf_inv q2
          obtain ⟨h, h5⟩ := and2 h
          obtain ⟨h, h4⟩ := and2 h
          obtain ⟨h1, h2, h3⟩ := and3 h
          exact e_isc g h1 h2 h3 h4 (chkE_head h5) (soundE a g _ h5).1
        · cases h
      · cases h
    · cases h
  | .xfld i f, _, _, _, _, g, e, h => by
    simp only [chkE] at h
    split at h
    · rename_i q
      obtain ⟨p, rfl⟩ := attOf_inv q
      obtain ⟨h1, h2, h3⟩ := and3 h
      cases (of_decide_eq_true h1)
      split at h3
      · rename_i q2
        obtain ⟨p3, rfl⟩ := nmOf_inv q2
        obtain ⟨k1, k2, k3⟩ := and3 h3
        exact e_xfld g h2 (of_decide_eq_true k1) k2 k3
      · cases h3
    · cases h
  | .xis i t, _, _, _, _, g, e, h => by
    simp only [chkE] at h
    split at h
    · rename_i q
      obtain ⟨p, p2, rfl⟩ := callOf_inv q
      split at h
      · split at h
        · rename_i q2 q3
          obtain ⟨p3, rfl⟩ := nmOf_inv q2
          obtain ⟨p4, rfl⟩ := nmOf_inv q3
          obtain ⟨h, h5⟩ := and2 h
          obtain ⟨h, h4⟩ := and2 h
          obtain ⟨h1, h2, h3⟩ := and3 h
          exact e_xis g h1 (of_decide_eq_true h2) h3 h4 h5
        · cases h
      · cases h
    · cases h
  | .oeq a b, _, _, _, _, g, e, h => by
    simp only [chkE] at h
    split at h
    · rename_i q
      obtain ⟨p, rfl⟩ := cmpOf_inv q
      obtain ⟨h, h4⟩ := and2 h
      obtain ⟨h1, h2, h3⟩ := and3 h
      cases (of_decide_eq_true h2)
      exact e_oeq g h1 (soundE a g _ h3).1 (soundE b g _ h4).1 (chkE_head h4)
    · cases h
  | .olen a, _, _, _, _, g, e, h => by
    simp only [chkE] at h
    split at h
    · rename_i q
      obtain ⟨p, p2, rfl⟩ := callOf_inv q
      split at h
      · obtain ⟨h1, h2, h3⟩ := and3 h
        obtain ⟨x1, _⟩ := bltB_inv g h2
        cases x1
        exact e_olen g h1 h2 (chkE_head h3) (soundE a g _ h3).1
      · cases h
    · cases h
  | .ostr a, _, _, _, _, g, e, h => by
    simp only [chkE] at h
    split at h
    · rename_i q
      obtain ⟨p, p2, rfl⟩ := callOf_inv q
      split at h
      · obtain ⟨h1, h2, h3⟩ := and3 h
        obtain ⟨x1, _⟩ := bltB_inv g h2
        cases x1
        exact e_ostr g h1 h2 (chkE_head h3) (soundE a g _ h3).1
      · cases h
    · cases h
  | .orep a, _, _, _, _, g, e, h => by
    simp only [chkE] at h
    split at h
    · rename_i q
      obtain ⟨p, p2, rfl⟩ := callOf_inv q
      split at h
      · obtain ⟨h1, h2, h3⟩ := and3 h
        obtain ⟨x1, _⟩ := bltB_inv g h2
        cases x1
        exact e_orep g h1 h2 (chkE_head h3) (soundE a g _ h3).1
      · cases h
    · cases h
  | .ofmt a, _, _, _, _, g, e, h => by
    simp only [chkE] at h
    split at h
    · rename_i q
      obtain ⟨p, rfl⟩ := fmtOf_inv q
      obtain ⟨h1, h2⟩ := and2 h
      exact e_ofmt g h1 (soundE a g _ h2).1
    · cases h
  | .fmt a, _, _, _, _, g, e, h => by
    simp only [chkE] at h
    split at h
    · rename_i q
      obtain ⟨p, rfl⟩ := fmtOf_inv q
      exact e_fmt (soundE a g _ h).1
    · cases h
  | .fstr es, _, _, _, _, g, e, h => by
    simp only [chkE] at h
    split at h
    · rename_i q
      obtain ⟨p, rfl⟩ := jsOf_inv q
      obtain ⟨h1, h2⟩ := and2 h
      obtain ⟨ts, hp⟩ := soundJ es g _ h1
      exact e_fstr hp (by simpa using h2)
    · cases h
theorem soundJ : ∀ (es : MEs) {sc : Scope} {blk : Bool} {W : WX} {X : Cx}, Good T G c k N sc calm blk W X → ∀ (fs : List Expr), chkEs T N sc calm es fs = true → ∃ ts, PEs X G c W es fs ts
  | .nil, _, _, W, X, g, fs, h => by
    simp only [chkEs] at h
    cases fs with
    | nil => exact ⟨_, .nil⟩
    | cons _ _ => cases h
  | .cons a as, _, _, W, X, g, [], h => by simp only [chkEs] at h; exact absurd h Bool.false_ne_true
  | .cons a as, _, _, W, X, g, e :: es, h => by
    simp only [chkEs] at h
    obtain ⟨h1, h2⟩ := and2 h
    obtain ⟨ts, hp⟩ := soundJ as g es h2
    exact ⟨_, .cons (soundE a g e h1).1 hp⟩
theorem soundEs : ∀ (es : MEs) {sc : Scope} {blk : Bool} {W : WX} {X : Cx}, Good T G c k N sc calm blk W X → ∀ (fs : List Expr), chkEs T N sc calm es fs = true → PAs X G c W fs es
  | .nil, _, _, W, X, g, fs, h => by
    simp only [chkEs] at h
    cases fs with
    | nil => exact p_nil W X
    | cons _ _ => cases h
  | .cons a as, _, _, W, X, g, [], h => by simp only [chkEs] at h; exact absurd h Bool.false_ne_true
  | .cons a as, _, _, W, X, g, e :: es, h => by
    simp only [chkEs] at h
    obtain ⟨h1, h2⟩ := and2 h
    exact p_cons g (chkE_head h1) h2 (soundE a g e h1) (soundEs as g es h2)
end
end
end MP

set_option maxRecDepth 100000
set_option autoImplicit false
set_option maxHeartbeats 1000000
/-! MP9: statements. -/
namespace MP
open PySem PySem.Spec PyProof.Rows L2

section
variable {X : Cx} {G : Gx}
def rGetL (K : PySem.W.Frag) (G : Gx) : V → V → Hp → VK → Prop := fun o i H Q => ∃ ρ A av aw z, HRel K G ρ H A ∧ AVr K G ρ H av o ∧ AVr K G ρ H aw i ∧ rcvA A .append av = true ∧ idxA A av aw = some z ∧ ∀ zz, AVr K G ρ H z zz → Q zz H
theorem get_list : PGet X (rGetL X.K G) := by
  intro pins s σ H o i ov iv Q I ro ri h
  obtain ⟨ρ, A, av, aw, z, hr, h1, h2, hrc, e, q⟩ := h
  cases h1 with
  | @ref n a k =>
    cases h2 with
    | int j =>
      have e' : (match A[n]?.bind AO.items? with | some vs => atI vs j | none => none) = some z := e
      cases p : A[n]?.bind AO.items? with
      | none => rw [p] at e'; cases e'
      | some vs =>
        rw [p] at e'
        obtain ⟨Vs, k1, k2⟩ := hr.seq p k
        obtain ⟨zz, k3, k4⟩ := atI_rel k2 e'
        cases ro
        obtain ⟨t, rfl⟩ := ri
        obtain ⟨its, r, pl, hz⟩ := I.list k1
        obtain ⟨m, m1, m2, m3, m4, m5⟩ := atI_get k3
        obtain ⟨w, ew, rw'⟩ := r.get m2
        have hl := r.length
        have hn := line63
        have fin : EP X pins σ Q w s := ⟨zz, H, I, rw', q zz k4⟩
        by_cases h0 : 0 ≤ j
        · have hj : j.toNat = m := by
            rw [seqIndex_of h0 m5] at m1
            exact Option.some.inj m1
          exact wpAny_getItem_list pl.isList h0 (by omega) (by rw [hj]; simpa using ew) fin
        · have hj : (j + (its.toArray.size : Int)).toNat = m := by
            rw [seqIndex_neg (by omega) m4] at m1
            rw [List.size_toArray, ← hl]
            exact Option.some.inj m1
          exact wpAny_getItem_list_neg pl.isList (by omega) (by rw [List.size_toArray, ← hl]; exact m4) (by omega) (by rw [hj]; simpa using ew) fin
    | _ => cases e
  | _ => cases hrc
def rIp (K : PySem.W.Frag) (G : Gx) (o : BO) : TIp := fun x y H Q => ∃ ρ A av aw E, augB o av = true ∧ HRel K G ρ H A ∧ AVr K G ρ H av x ∧ AVr K G ρ H aw y ∧ Out K G ρ H E Q (opA A o av aw)
theorem opB_p (o : BO) : PIp X o.op (rIp X.K G o) := by
  intro pins s σ H x y v u Q I rx ry h
  obtain ⟨ρ, A, av, aw, E, hb, hr, h1, h2, out⟩ := h
  have h0 : (o = .add ∨ o = .sub ∨ o = .mul) ∧ ((∃ i, av = .int i) ∨ ∃ x, av = .str x) := by
    cases o <;> cases av <;> first
      | exact ⟨.inl rfl, .inl ⟨_, rfl⟩⟩
      | exact ⟨.inl rfl, .inr ⟨_, rfl⟩⟩
      | exact ⟨.inr (.inl rfl), .inl ⟨_, rfl⟩⟩
      | exact ⟨.inr (.inr rfl), .inl ⟨_, rfl⟩⟩
      | cases hb
  exact opB_in (G := G) o h0.1 hb h0.2 pins s σ H x y v u Q I rx ry ⟨ρ, A, E, hr, h1, h2, out⟩
def rSt (K : PySem.W.Frag) (G : Gx) : TSet := fun o i v H Q => ∃ ρ A av aw az A', HRel K G ρ H A ∧ AVr K G ρ H av o ∧ AVr K G ρ H aw i ∧ AVr K G ρ H az v ∧ setSubA A av aw az = some A' ∧ ∀ H', Hext K ρ H ρ H' → HRel K G ρ H' A' → Q H'
theorem set_ok : PSet X (rSt X.K G) := by
  intro pins s σ H o i v ov iv u Q I ro ri rv h
  obtain ⟨ρ, A, av, aw, az, A', hr, h1, h2, h3, e, q⟩ := h
  cases h1 with
  | @ref n a k =>
    cases h2 with
    | int j =>
      have e' : (match lstAt A n with | some vs => (ixN vs.length j).map fun m => setL A n (vs.set m az) | none => none) = some A' := e
      cases p : lstAt A n with
      | none => rw [p] at e'; cases e'
      | some vs =>
        rw [p] at e'
        have e' : (ixN vs.length j).map (fun m => setL A n (vs.set m az)) = some A' := e'
        cases p2 : ixN vs.length j with
        | none => rw [p2] at e'; cases e'
        | some m =>
          rw [p2] at e'
          cases (Option.some.inj e')
          obtain ⟨Vs, k1, k2⟩ := hr.lst p k
          have mu : Mut (H a) := by rw [k1]; exact True.intro
          exact set_list pins s σ H _ _ v ov iv u Q I ro ri rv ⟨a, Vs, j, m, rfl, rfl, k1, by rw [← k2.length]; exact p2, q _ (Hext.mut mu) (hr.set (lstAt_iff.mp p) rfl rfl k ⟨Vs.set m v, upd_same, (AVrs.set h3 m k2).mono (Hext.mut mu)⟩)⟩
    | _ => cases e
  | _ => cases h2 <;> cases e
end
/-! ### shapes -/
theorem exprSt_inv {st : Stmt} {e : Expr} (h : exprSt st = some e) : ∃ p, st = .Expr e p := by
  cases st with
  | Expr a p => cases (Option.some.inj h); exact ⟨p, rfl⟩
  | _ => cases h
theorem asgSt_inv {st : Stmt} {te e : Expr} (h : asgSt st = some (te, e)) : ∃ p, st = .Assign [te] e p := by
  cases st with
  | Assign ts a p =>
    rcases ts with _ | ⟨t, _ | ⟨_, _⟩⟩
    · cases h
    · cases (Option.some.inj h); exact ⟨p, rfl⟩
    · cases h
  | _ => cases h
theorem augSt_inv {st : Stmt} {te e : Expr} {o : Operator} (h : augSt st = some (te, o, e)) : ∃ p, st = .AugAssign te o e p := by
  cases st with
  | AugAssign t o a p => cases (Option.some.inj h); exact ⟨p, rfl⟩
  | _ => cases h
theorem iffSt_inv {st : Stmt} {e : Expr} {a b : List Stmt} (h : iffSt st = some (e, a, b)) : ∃ p, st = .If e a b p := by
  cases st with
  | If t o a p => cases (Option.some.inj h); exact ⟨p, rfl⟩
  | _ => cases h
theorem whlSt_inv {st : Stmt} {e : Expr} {a : List Stmt} (h : whlSt st = some (e, a)) : ∃ p, st = .While e a [] p := by
  cases st with
  | While t o a p => cases a with
    | nil => cases (Option.some.inj h); exact ⟨p, rfl⟩
    | cons _ _ => cases h
  | _ => cases h
theorem forSt_inv {st : Stmt} {te e : Expr} {a : List Stmt} (h : forSt st = some (te, e, a)) : ∃ p, st = .For te e a [] p := by
  cases st with
  | For t i o a p => cases a with
    | nil => cases (Option.some.inj h); exact ⟨p, rfl⟩
    | cons _ _ => cases h
  | _ => cases h
theorem retSt_inv {st : Stmt} {e : Option Expr} (h : retSt st = some e) : ∃ p, st = .Return e p := by
  cases st with
  | Return t p => cases (Option.some.inj h); exact ⟨p, rfl⟩
  | _ => cases h
theorem nmPos_inv {e : Expr} {x : Str} {l : Nat} (h : nmPos e = some (x, l)) : ∃ p, e = .Name x p ∧ p.line = l := by
  cases e with
  | Name y p => cases (Option.some.inj h); exact ⟨p, rfl, rfl⟩
  | _ => cases h
theorem blockF {env : Env} (h : env.scope.kind = .function) : (env.blockKind != .function) = false := by
  unfold Env.blockKind
  rw [h]
  rfl
theorem not_star {e : Expr} (h : okHead e = true) : (match e with | .Starred .. => true | _ => false) = false := by
  cases e <;> first | rfl | cases h
theorem swap2 {x y : Str} {px py : Pos} {kt : Nat} {pt : Pos} {a b : Expr} {k2 : Nat} {pt2 : Pos} {env : Env} (hk : env.scope.kind = .function) (hx : env.kindOf x = some .local) (hy : env.kindOf y = some .local) (hl : py.line = px.line) (hne : x ≠ y) (ha : okHead a = true) (hb : okHead b = true)
    (hf : [a, b].all (foldedForSure 8) = false) (hc : [a, b].all (constantsAlone 8) = false) : swappedStores [.Tuple [.Name x px, .Name y py] kt pt] (.Tuple [a, b] k2 pt2) env = pure (some [x, y]) := by
  have e1 : [a, b].any (fun e => match e with | .Starred .. => true | _ => false) = false := by
    have key : ∀ {e : Expr}, okHead e = true → (fun e : Expr => match e with | .Starred .. => true | _ => false) e = false := fun {e} h => by cases e <;> first | rfl | cases h
    exact congr (congrArg or (key ha)) (congr (congrArg or (key hb)) (rfl : false = false))
  have e2 : [x, y].eraseDups = [x, y] := by
    have : (y == x) = false := by simpa using fun z => hne z.symm
    simp [List.eraseDups_cons, this]
  have e3 : (List.filterMap (fun e => match e with
      | .Name id pos => if env.kindOf id == some .local && pos.line == (([Expr.Name x px, Expr.Name y py].head?.map (·.pos.line)).getD 0) then some id else none
      | _ => none) [Expr.Name x px, Expr.Name y py]) = [x, y] := by
    have l1 : (([Expr.Name x px, Expr.Name y py].head?.map (·.pos.line)).getD 0) = px.line := rfl
    rw [l1]
    simp [hx, hy, hl]
  show (do
    if !(([Expr.Name x px, Expr.Name y py] : List Expr).length == 2 || ([Expr.Name x px, Expr.Name y py] : List Expr).length == 3) || ([a, b] : List Expr).length != ([Expr.Name x px, Expr.Name y py] : List Expr).length || env.blockKind != .function then return none
    if [a, b].any (fun e => match e with | .Starred .. => true | _ => false) then return none
    let names := (List.filterMap (fun e => match e with
      | .Name id pos => if env.kindOf id == some .local && pos.line == (([Expr.Name x px, Expr.Name y py].head?.map (·.pos.line)).getD 0) then some id else none
      | _ => none) [Expr.Name x px, Expr.Name y py])
    if names.length != ([Expr.Name x px, Expr.Name y py] : List Expr).length || names.eraseDups.length != names.length then return none
    if [a, b].all (foldedForSure 8) then return none
    if [a, b].all (constantsAlone 8) then unsupported "assign.tuple-of-constant-expressions:order-of-the-stores"
    return some names : Sem (Option (List Str))) = _
  rw [e3, e1, hf, hc, blockF hk]
  dsimp only
  rw [e2]
  rfl
theorem swap3 {x y z : Str} {px py pz : Pos} {kt : Nat} {pt : Pos} {a b c : Expr} {k2 : Nat} {pt2 : Pos} {env : Env} (hk : env.scope.kind = .function) (hx : env.kindOf x = some .local) (hy : env.kindOf y = some .local) (hz : env.kindOf z = some .local) (hl : py.line = px.line) (hm : pz.line = px.line) (hne : x ≠ y) (hne2 : x ≠ z) (hne3 : y ≠ z)
    (ha : okHead a = true) (hb : okHead b = true) (hd : okHead c = true)
    (hf : [a, b, c].all (foldedForSure 8) = false) (hc : [a, b, c].all (constantsAlone 8) = false) : swappedStores [.Tuple [.Name x px, .Name y py, .Name z pz] kt pt] (.Tuple [a, b, c] k2 pt2) env = pure (some [x, y, z]) := by
  have e1 : [a, b, c].any (fun e => match e with | .Starred .. => true | _ => false) = false := by
    have key : ∀ {e : Expr}, okHead e = true → (fun e : Expr => match e with | .Starred .. => true | _ => false) e = false := fun {e} h => by cases e <;> first | rfl | cases h
    exact congr (congrArg or (key ha)) (congr (congrArg or (key hb)) (congr (congrArg or (key hd)) (rfl : false = false)))
  have e2 : [x, y, z].eraseDups = [x, y, z] := by
    have h1 : (y == x) = false := by simpa using fun q => hne q.symm
    have h2 : (z == x) = false := by simpa using fun q => hne2 q.symm
    have h3 : (z == y) = false := by simpa using fun q => hne3 q.symm
    simp [List.eraseDups_cons, h1, h2, h3]
  have e3 : (List.filterMap (fun e => match e with
      | .Name id pos => if env.kindOf id == some .local && pos.line == (([Expr.Name x px, Expr.Name y py, Expr.Name z pz].head?.map (·.pos.line)).getD 0) then some id else none
      | _ => none) [Expr.Name x px, Expr.Name y py, Expr.Name z pz]) = [x, y, z] := by
    have l1 : (([Expr.Name x px, Expr.Name y py, Expr.Name z pz].head?.map (·.pos.line)).getD 0) = px.line := rfl
    rw [l1]
    simp [hx, hy, hz, hl, hm]
  show (do
    if !(([Expr.Name x px, Expr.Name y py, Expr.Name z pz] : List Expr).length == 2 || ([Expr.Name x px, Expr.Name y py, Expr.Name z pz] : List Expr).length == 3) || ([a, b, c] : List Expr).length != ([Expr.Name x px, Expr.Name y py, Expr.Name z pz] : List Expr).length || env.blockKind != .function then return none
    if [a, b, c].any (fun e => match e with | .Starred .. => true | _ => false) then return none
    let names := (List.filterMap (fun e => match e with
      | .Name id pos => if env.kindOf id == some .local && pos.line == (([Expr.Name x px, Expr.Name y py, Expr.Name z pz].head?.map (·.pos.line)).getD 0) then some id else none
      | _ => none) [Expr.Name x px, Expr.Name y py, Expr.Name z pz])
    if names.length != ([Expr.Name x px, Expr.Name y py, Expr.Name z pz] : List Expr).length || names.eraseDups.length != names.length then return none
    if [a, b, c].all (foldedForSure 8) then return none
    if [a, b, c].all (constantsAlone 8) then unsupported "assign.tuple-of-constant-expressions:order-of-the-stores"
    return some names : Sem (Option (List Str))) = _
  rw [e3, e1, hf, hc, blockF hk]
  dsimp only
  rw [e2]
  rfl
def noList : Expr → Bool
  | .List _ _ => false
  | _ => true
theorem swap_no {te e : Expr} {env : Env} (hk : kindF env.scope = true) (h : noSwap te e = true) (ht : noList te = true) : swappedStores [te] e env = pure none := by
  cases te with
  | Tuple ts kt pt =>
    cases e with
    | Tuple vs kv pv =>
      have h : vs.all (foldedForSure 8) = true := h
      unfold swappedStores
      dsimp only
      rw [h]
      simp only [if_true]
      split
      · rfl
      · split
        · rfl
        · split <;> rfl
    | _ => rfl
  | List _ _ => cases ht
  | _ => cases e <;> rfl
theorem swapsSole {te e : Expr} {env : Env} {l : Nat} (h : swV env.scope te e = false) (hk : kindF env.scope = true) (hc : compOf e ≠ none ∨ isComp e = false) (ho : okHead e = true) : swapsWithSole [te] e l env = pure false := by
  cases hi : isComp e with
  | false => exact head_swap ho hi (some te) l
  | true =>
    rcases hc with hc | hc
    · cases q : compOf e with
      | none => exact absurd q hc
      | some y =>
        obtain ⟨f, t1, i1, fs1, scope⟩ := y
        unfold swV at h
        rw [q] at h
        obtain ⟨p, rfl⟩ := compOf_inv q
        cases te with
        | Name t pt =>
          have h : (kindF env.scope && locB env.scope t && decide (pt.line = p.line) && !(scope.names.any fun (n, k) => n == t && (k == .local || k == .cell))) = false := h
          show (do return env.blockKind == .function && env.kindOf t == some .local && pt.line == p.line && !(scope.names.any fun (n, k) => n == t && (k == .local || k == .cell)) : Sem Bool) = pure false
          have hb : (env.blockKind == .function) = true := by
            unfold Env.blockKind
            rw [kindF_inv hk]
            rfl
          have hl : (env.kindOf t == some .local) = locB env.scope t := by
            unfold locB Env.kindOf
            cases hq : env.scope.names.lookup t with
            | none => rfl
            | some kd => cases kd <;> rfl
          have hd : (pt.line == p.line) = decide (pt.line = p.line) := by
            by_cases hh : pt.line = p.line
            · simp [hh]
            · simp [hh]
          rw [hb, hl, hd, Bool.true_and]
          rw [hk, Bool.true_and] at h
          rw [h]
        | _ => rfl
    · rw [hi] at hc; cases hc
theorem swapsYes {t : Str} {pt p : Pos} {f : Expr} {gs : List Comprehension} {scope : Scope} {env : Env} {l : Nat} (hk : kindF env.scope = true) (hl : locB env.scope t = true) (hp : pt.line = p.line) (hn : (scope.names.any fun (n, k) => n == t && (k == .local || k == .cell)) = false) :
    swapsWith (.ListComp f gs scope p) (some (.Name t pt)) l env = pure true := by
  show (do return env.blockKind == .function && env.kindOf t == some .local && pt.line == p.line && !(scope.names.any fun (n, k) => n == t && (k == .local || k == .cell)) : Sem Bool) = pure true
  have hb : (env.blockKind == .function) = true := by
    unfold Env.blockKind
    rw [kindF_inv hk]
    rfl
  have h2 : (env.kindOf t == some .local) = true := by
    have z : env.scope.names.lookup t = some .local := of_decide_eq_true hl
    show (env.scope.names.lookup t == some .local) = true
    rw [z]; rfl
  rw [hb, h2, hp, hn]
  simp
/-! ### statements -/
section
variable (K : PySem.W.Frag) (G : Gx) (c : Cl) (W : WX)
def tS (ms : MS) : TS := fun D σ H => ∃ ρ s A, SRel K G ρ H s σ ∧ HRel K G ρ H A ∧ OutF K G ρ H W D (exS c s ms A)
def tSs (ms : MSs) : TS := fun D σ H => ∃ ρ s A, SRel K G ρ H s σ ∧ HRel K G ρ H A ∧ OutF K G ρ H W D (exSs c s ms A)
end
section
variable {K : PySem.W.Frag} {G : Gx} {ρ ρ' : List Addr} {H H' : Hp} {A A' : AH} {W : WX} {D : Ends}
/-- a test ahead of what follows -/
theorem OutF.flB {s : AS} {σ : L2.St} {Q' : Bool → Hp → Prop} {r : R AV} {f : Bool → AH → F} (h : OutF K G ρ H W D (r.fl s fun v A => match truA A v with
    | some b => f b A
    | none => .stuck)) (hs : SRel K G ρ H s σ)
    (k : ∀ b A' H' ρ', Hext K ρ H ρ' H' → HRel K G ρ' H' A' → OutF K G ρ' H' W D (f b A') → Q' b H') : OutB K G ρ H (wE W σ) Q' r := by
  cases r with
  | ok a A =>
    have h : OutF K G ρ H W D (match truA A a with | some b => f b A | none => .stuck) := h
    split at h
    · rename_i b e
      exact ⟨b, e, fun H2 ρ2 e2 hr => k b A H2 ρ2 e2 hr (OutF.mono h e2)⟩
    · exact False.elim h
  | exc C fs A => exact fun cls d H2 ρ2 e2 hr x => h cls d σ H2 ρ2 e2 hr (hs.mono e2) x
  | stuck => exact h
theorem OutF.nxt {s : AS} {σ : L2.St} (h : OutF K G ρ H W D (.nx s A)) (hr : HRel K G ρ H A) (hs : SRel K G ρ H s σ) : D.nx σ H := h σ H ρ .refl hr hs
end
section
variable {T : Tb} {G : Gx} {c : Cl} {k : Nat} {N : List Str} {sc : Scope} {calm blk : Bool} {W : WX} {X : Cx}
theorem chkT_form {t : MT} {e : Expr} (h : chkT N sc calm blk t e = true) : noList e = true := by
  cases e <;> first
    | rfl
    | (cases t <;> (simp only [chkT, nmOf, tupOf] at h; exact absurd h Bool.false_ne_true))
theorem chkE_comp {me : ME} {e : Expr} (h : chkE T N sc calm me e = true) : compOf e ≠ none ∨ isComp e = false := by
  cases hh : isComp e with
  | false => exact .inr rfl
  | true =>
    left
    intro z
    cases e <;> first
      | exact absurd hh Bool.false_ne_true
      | (cases me <;> first
        | (simp only [chkE, nmOf, cstOf, binOf, unOf, cmpOf, cmp2Of, boolOf, ifeOf, tupOf, lstOf, subOf, callOf, callkOf, methOf, attOf, slcOf, revOf, fmtOf, jsOf] at h; exact absurd h Bool.false_ne_true)
        | (simp only [chkE, z] at h; exact absurd h Bool.false_ne_true))
end
end MP

set_option maxRecDepth 100000
set_option autoImplicit false
set_option maxHeartbeats 1000000
/-! MP10: every statement. -/
namespace MP
open PySem PySem.Spec PyProof.Rows L2

section
variable {T : Tb} {G : Gx} {c : Cl} {k : Nat} {N : List Str} {sc : Scope} {calm : Bool} {W : WX} {X : Cx}
theorem s_expr {e : Expr} {a : ME} {p : Pos} (ha : PE X e (tE X.K G c W a)) (ho : okHead e = true) (hc : isComp e = false) : PS X (.Expr e p) (tS X.K G c W (.expr a)) := by
  refine PS.weak (ps_expr ha (head_swap ho hc none _)) fun D σ H q => ?_
  obtain ⟨ρ, s, A, hs, hr, out⟩ := q
  simp only [exS] at out
  exact ⟨ρ, s, A, hs, hr, OutF.fl out hs fun v A1 y H1 ρ1 e1 hr1 r1 out1 => OutF.nxt out1 hr1 (hs.mono e1)⟩
theorem tAsg_of {t : MT} {a : ME} {D : Ends} {σ : L2.St} {H : Hp} (q : tS X.K G c W (.asg t a) D σ H) : tE X.K G c W a σ H fun x H1 => tG X.K G t x σ H1 D.nx := by
  obtain ⟨ρ, s, A, hs, hr, out⟩ := q
  simp only [exS] at out
  refine ⟨ρ, s, A, hs, hr, OutF.fl out hs fun v A1 y H1 ρ1 e1 hr1 r1 out1 => ?_⟩
  split at out1
  · rename_i s' e2
    exact ⟨ρ1, s, A1, v, s', hs.mono e1, hr1, r1, e2, fun σ' hs' _ => OutF.nxt out1 hr1 hs'⟩
  · exact False.elim out1
theorem s_asg (g : Good T G c k N sc calm false W X) {te e : Expr} {t : MT} {a : ME} {p : Pos} (hcalm : (calm || isNm t) = true) (hk : kindF sc = true) (hn : noSwap te e = true) (ht : chkT N sc calm false t te = true) (ha : chkE T N sc calm a e = true) (hsw : swV sc te e = false) : PS X (.Assign [te] e p) (tS X.K G c W (.asg t a)) := by
  have hk' : kindF X.env.scope = true := by rw [g.hsc]; exact hk
  refine PS.weak (ps_asg (soundE a g e ha).1 (soundT g t te ht) (swapsSole (by rw [g.hsc]; exact hsw) hk' (chkE_comp ha) (chkE_head ha)) (swap_no hk' hn (chkT_form ht)) (by rw [chkT_each ht]; rfl)) fun D σ H q => tAsg_of q
theorem chkE_lc {me : ME} {f te ie : Expr} {ifes : List Expr} {scope : Scope} {p : Pos} (h : chkE T N sc calm me (.ListComp f [⟨te, ie, ifes, 0⟩] scope p) = true) : ∃ own tg kk src ifs elt ow, me = .comp own tg kk src ifs elt ∧ calm = true ∧ ownN N own = some ow ∧ blkC N sc scope ow = true ∧
    chkT N (relS scope sc) calm true tg te = true ∧ chkI T sc kk (fun fs => chkEs T N sc calm src fs) te ie = true ∧ chkEs T N (relS scope sc) calm ifs ifes = true ∧ ifes.length ≤ 1 ∧ (slotsT tg).all (fun i => own.contains i) = true ∧ chkE T N (relS scope sc) calm elt f = true := by
  cases me <;> first
    | (simp only [chkE, nmOf, cstOf, binOf, unOf, cmpOf, cmp2Of, boolOf, ifeOf, tupOf, lstOf, subOf, callOf, callkOf, methOf] at h; exact absurd h Bool.false_ne_true)
    | skip
  rename_i own tg kk src ifs elt
  simp only [chkE, compOf] at h
  obtain ⟨hcalm, h⟩ := and2 h
  split at h
  · rename_i ow how
    obtain ⟨h, h7⟩ := and2 h
    obtain ⟨h, h6⟩ := and2 h
    obtain ⟨h, h5⟩ := and2 h
    obtain ⟨h, h4⟩ := and2 h
    obtain ⟨h1, h2, h3⟩ := and3 h
    exact ⟨own, tg, kk, src, ifs, elt, ow, rfl, hcalm, how, h1, h2, h3, h4, of_decide_eq_true h5, h6, h7⟩
  · cases h
theorem s_setLc (g : Good T G c k N sc calm false W X) {te e : Expr} {t : MT} {a : ME} {p : Pos} (hk : kindF sc = true) (ht : chkT N sc calm false t te = true) (ha : chkE T N sc calm a e = true) (hsw : swV sc te e = true) : PS X (.Assign [te] e p) (tS X.K G c W (.asg t a)) := by
  unfold swV at hsw
  split at hsw
  · rename_i f te' ie ifes scope qc
    obtain ⟨pc, rfl⟩ := compOf_inv qc
    obtain ⟨own, tg, kk, src, ifs, elt, ow, rfl, hcalm, how, hb, ht', hi, hif, hl, hsl, hel⟩ := chkE_lc ha
    split at hsw
    · rename_i x px
      obtain ⟨hsw, w4⟩ := and2 hsw
      obtain ⟨w1, w2, w3⟩ := and3 hsw
      have hc := g.hcalm hcalm
      have hk' : kindF X.env.scope = true := by rw [g.hsc]; exact hk
      have hloc : locB X.env.scope x = true := by rw [g.hsc]; exact w2
      have ok : BlkOk X.N X.env.scope scope ow := by
        rw [g.hN, g.hsc]
        exact blkOk_by hb
      have gb : ∀ (s : Shared) (H : Hp) (C : Addr) (cl : List (Str × Addr)) (fp : List Addr), Good T G c k N (relS scope sc) calm true W0 (X.blk s H scope (compEnvC scope cl C X.env) fp) := fun s H C cl fp => good_blk g hcalm (by rw [g.hsc]) ok.kind
      cases t with
      | tp _ => simp only [chkT, tupOf] at ht; exact absurd ht Bool.false_ne_true
      | nm i =>
        simp only [chkT, nmOf] at ht
        have hne := stB_ne g ht
        unfold stB at ht
        obtain ⟨t1, t2, _⟩ := and3 ht
        refine PS.weak (ps_setLc (i := i) (wi := tI X.K G c W kk src) (g := tG X.K G tg) (tt := tBt X.K G c W0 true ifs) (te := tE X.K G c W0 elt) hc (by rw [g.hN]; exact g.nd) (by rw [g.hN]; exact of_decide_eq_true t1) (of_decide_eq_true hloc) (swapsYes hk' hloc (of_decide_eq_true w3) (by simpa using w4))
          (i_all g hi fun fs hf => soundEs src g fs hf) ok (fun s H C cl fp => soundT (gb s H C cl fp) tg te' ht') (fun s H C cl fp => ifs_pts (gb s H C cl fp) hl hif (soundEs ifs (gb s H C cl fp) _ hif)) (fun s H C cl fp => (soundE elt (gb s H C cl fp) _ hel).1) fun x => head_fold (chkI_fold hi) x) fun D σ H q => ?_
        have q1 := tAsg_of q
        refine tLc_of (g.xc hcalm).1 (ownN_map how) hsl ?_
        obtain ⟨ρ, s, A, hs, hr, out⟩ := q1
        refine ⟨ρ, s, A, hs, hr, OutG.q out fun y H1 q2 => ?_⟩
        obtain ⟨ρ2, s2, A2, v, s', hs2, hr2, r2, e2, fin⟩ := q2
        simp only [bindT] at e2
        cases (Option.some.inj e2)
        refine fin _ (hs2.set hne r2) ⟨by rw [List.length_set], fun j hj => ?_⟩
        rw [List.getElem?_set_ne]
        intro z
        exact hj (by rw [z]; exact List.mem_singleton.mpr rfl)
    · cases hsw
  · cases hsw
theorem head_set {o i : Expr} {p : Pos} {env : Env} (h : okHead i = true) (v : Value) : assign (.Subscript o i p) env v = (do
      let ov ← holding [v] (eval o env)
      let iv ← holding [v, ov] (eval i env)
      standAt p
      holding [v, ov, iv] (setItem ov iv v)
      release [v, ov, iv] []) := by
  cases i <;> first | rfl | exact absurd h Bool.false_ne_true
theorem head_aug {i : Expr} (h : okHead i = true) (ov iv new : Value) : augStore i ov iv new = (do holding [new, ov, iv] (setItem ov iv new); release [new, ov, iv] []; pure .next) := by
  cases i <;> first | rfl | exact absurd h Bool.false_ne_true
theorem swapsSub {o i e : Expr} {p : Pos} {env : Env} {l : Nat} : swapsWithSole [.Subscript o i p] e l env = pure false := by
  cases e <;> rfl
theorem s_setSub (g : Good T G c k N sc calm false W X) {oe ie e : Expr} {o i a : ME} {p p2 : Pos} (ha : PE X e (tE X.K G c W a)) (ho : PE X oe (tE X.K G c W o)) (hi : PE X ie (tE X.K G c W i)) (hh : okHead ie = true) : PS X (.Assign [.Subscript oe ie p2] e p) (tS X.K G c W (.setSub o i a)) := by
  refine PS.weak (ps_asg ha (pg_sub ho hi (set_ok (G := G)) fun v => head_set hh v) swapsSub (by cases e <;> rfl) rfl) fun D σ H q => ?_
  obtain ⟨ρ, s, A, hs, hr, out⟩ := q
  simp only [exS] at out
  refine ⟨ρ, s, A, hs, hr, OutF.fl out hs fun v A1 y H1 ρ1 e1 hr1 r1 out1 => ⟨ρ1, s, A1, hs.mono e1, hr1, OutF.fl out1 (hs.mono e1) fun x A2 xo H2 ρ2 e2 hr2 r2 out2 => ⟨ρ2, s, A2, (hs.mono e1).mono e2, hr2, OutF.fl out2 ((hs.mono e1).mono e2) fun z A3 zi H3 ρ3 e3 hr3 r3 out3 => ?_⟩⟩⟩
  split at out3
  · rename_i A4 e4
    exact ⟨ρ3, A3, x, z, v, A4, hr3, r2.mono e3, r3, (r1.mono e2).mono e3, e4, fun H' x4 hr4 => OutF.nxt (OutF.mono out3 x4) hr4 ((((hs.mono e1).mono e2).mono e3).mono x4)⟩
  · exact False.elim out3
theorem s_aug (g : Good T G c k N sc calm false W X) {x : Str} {e : Expr} {i : Nat} {o : BO} {a : ME} {p p2 : Pos} (hs : stB N sc calm false i x = true) (ha : PE X e (tE X.K G c W a)) : PS X (.AugAssign (.Name x p2) o.op e p) (tS X.K G c W (.aug i o a)) := by
  have hne := stB_ne g hs
  unfold stB at hs
  obtain ⟨t1, t2, _⟩ := and3 hs
  obtain ⟨l1, l2⟩ := g.st x t2
  refine PS.weak (ps_aug (by rw [g.hN]; exact g.nd) (by rw [g.hN]; exact of_decide_eq_true t1) l1 ha (opB_p (G := G) o) l2) fun D σ H q => ?_
  obtain ⟨ρ, s, A, hs, hr, out⟩ := q
  simp only [exS] at out
  split at out
  · rename_i v e1
    split at out
    · rename_i hb
      obtain ⟨y, k1, k2⟩ := hs.at_ i v e1
      refine ⟨y, k1, ρ, s, A, hs, hr, OutF.fl out hs fun w A1 z H1 ρ1 x1 hr1 r1 out1 => ⟨ρ1, A1, v, w, wE W σ, hb, hr1, k2.mono x1, r1, OutF.fl out1 (hs.mono x1) fun u A2 uz H2 ρ2 x2 hr2 r2 out2 => OutF.nxt out2 hr2 (((hs.mono x1).mono x2).set hne r2)⟩⟩
    · exact False.elim out
  · exact False.elim out
theorem s_augSub (g : Good T G c k N sc calm false W X) {oe ie e : Expr} {o i : ME} {op : BO} {a : ME} {p p2 : Pos} (ho : PE X oe (tE X.K G c W o)) (hi : PE X ie (tE X.K G c W i)) (hh : okHead ie = true) (ha : PE X e (tE X.K G c W a)) : PS X (.AugAssign (.Subscript oe ie p2) op.op e p) (tS X.K G c W (.augSub o i op a)) := by
  refine PS.weak (ps_augS ho hi (get_list (G := G)) ha (opB_p (G := G) op) (set_ok (G := G)) fun ov iv new => head_aug hh ov iv new) fun D σ H q => ?_
  obtain ⟨ρ, s, A, hs, hr, out⟩ := q
  simp only [exS] at out
  refine ⟨ρ, s, A, hs, hr, OutF.fl out hs fun x A1 xo H1 ρ1 e1 hr1 r1 out1 => ⟨ρ1, s, A1, hs.mono e1, hr1, OutF.fl out1 (hs.mono e1) fun y A2 yi H2 ρ2 e2 hr2 r2 out2 => ?_⟩⟩
  split at out2
  · exact False.elim out2
  · rename_i v ev
    split at out2
    · rename_i hb
      obtain ⟨b1, b2⟩ := and2 hb
      refine ⟨ρ2, A2, x, y, v, hr2, r1.mono e2, r2, b2, ev, fun vz rv => ?_⟩
      refine ⟨ρ2, s, A2, (hs.mono e1).mono e2, hr2, OutF.fl out2 ((hs.mono e1).mono e2) fun w A3 wz H3 ρ3 e3 hr3 r3 out3 => ?_⟩
      refine ⟨ρ3, A3, v, w, wE W σ, b1, hr3, rv.mono e3, r3, OutF.fl out3 (((hs.mono e1).mono e2).mono e3) fun z A4 zz H4 ρ4 e4 hr4 r4 out4 => ?_⟩
      split at out4
      · rename_i A5 e5
        exact ⟨ρ4, A4, x, y, z, A5, hr4, ((r1.mono e2).mono e3).mono e4, (r2.mono e3).mono e4, r4, e5, fun H' x4 hr5 => OutF.nxt (OutF.mono out4 x4) hr5 (((((hs.mono e1).mono e2).mono e3).mono e4).mono x4)⟩
      · exact False.elim out4
    · exact False.elim out2
theorem parIn_inv {is : List Nat} {ts vs : List Expr} (h4 : parIn N sc is ts vs = true) :
    (∃ i j x y px py a b, is = [i, j] ∧ ts = [.Name x px, .Name y py] ∧ vs = [a, b] ∧ N[i]? = some x ∧ N[j]? = some y ∧ locB sc x = true ∧ locB sc y = true ∧ i ≠ j ∧ x ≠ y ∧ py.line = px.line) ∨
    (∃ i j k x y z px py pz a b d, is = [i, j, k] ∧ ts = [.Name x px, .Name y py, .Name z pz] ∧ vs = [a, b, d] ∧ N[i]? = some x ∧ N[j]? = some y ∧ N[k]? = some z ∧ locB sc x = true ∧ locB sc y = true ∧ locB sc z = true ∧ i ≠ j ∧ i ≠ k ∧ j ≠ k ∧ x ≠ y ∧ x ≠ z ∧ y ≠ z ∧ py.line = px.line ∧ pz.line = px.line) := by
  unfold parIn at h4
  split at h4
  · rename_i i j t u a b
    split at h4
    · rename_i x l y m q1 q2
      obtain ⟨px, rfl, rfl⟩ := nmPos_inv q1
      obtain ⟨py, rfl, rfl⟩ := nmPos_inv q2
      simp only [Bool.and_eq_true, decide_eq_true_eq] at h4
      obtain ⟨⟨⟨⟨⟨⟨n1, n2⟩, l1⟩, l2⟩, d1⟩, d2⟩, d3⟩ := h4
      exact .inl ⟨i, j, x, y, px, py, a, b, rfl, rfl, rfl, n1, n2, l1, l2, d1, d2, d3⟩
    · cases h4
  · rename_i i j kk t u v a b d
    split at h4
    · rename_i x l y m z n q1 q2 q3
      obtain ⟨px, rfl, rfl⟩ := nmPos_inv q1
      obtain ⟨py, rfl, rfl⟩ := nmPos_inv q2
      obtain ⟨pz, rfl, rfl⟩ := nmPos_inv q3
      simp only [Bool.and_eq_true, decide_eq_true_eq] at h4
      obtain ⟨⟨⟨⟨⟨⟨⟨⟨⟨⟨⟨⟨⟨n1, n2⟩, n3⟩, l1⟩, l2⟩, l3⟩, d1⟩, d2⟩, d3⟩, d4⟩, d5⟩, d6⟩, d7⟩, d8⟩ := h4
      exact .inr ⟨i, j, kk, x, y, z, px, py, pz, a, b, d, rfl, rfl, rfl, n1, n2, n3, l1, l2, l3, d1, d2, d3, d4, d5, d6, d7, d8⟩
    · cases h4
  · cases h4
theorem locB_inv (g : Good T G c k N sc calm false W X) {x : Str} (h : locB sc x = true) : X.env.scope.names.lookup x = some .local := by
  rw [g.hsc]
  exact of_decide_eq_true h
theorem s_par (g : Good T G c k N sc calm false W X) {ts vs : List Expr} {is : List Nat} {es : MEs} {k1 k2 : Nat} {p1 p2 p : Pos} (hcalm : calm = true) (hb : parB N sc is ts vs = true) (hh : allHead vs = true) (ha : PA X vs (tEs X.K G c W es)) : PS X (.Assign [.Tuple ts k1 p1] (.Tuple vs k2 p2) p) (tS X.K G c W (.par is es)) := by
  unfold parB at hb
  obtain ⟨hb, h4⟩ := and2 hb
  obtain ⟨h1, h2, h3⟩ := and3 hb
  have h2 : vs.all (foldedForSure 8) = false := by simpa using h2
  have h3 : vs.all (constantsAlone 8) = false := by simpa using h3
  have hk : X.env.scope.kind = .function := by rw [g.hsc]; exact kindF_inv h1
  have hc := g.hcalm hcalm
  have nx : ∀ {i : Nat}, ∀ x, G.x = some x → x.i ≠ i := fun x e => by rw [(g.xc hcalm).1] at e; cases e
  rcases parIn_inv h4 with ⟨i, j, x, y, px, py, a, b, rfl, rfl, rfl, n1, n2, l1, l2, d1, d2, d3⟩ | ⟨i, j, kk, x, y, z, px, py, pz, a, b, d, rfl, rfl, rfl, n1, n2, n3, l1, l2, l3, d1, d2, d3, d4, d5, d6, d7, d8⟩
  · have hh : (okHead a && (okHead b && true)) = true := hh
    refine PS.weak (ps_par (i := i) (j := j) hc (by rw [g.hN]; exact g.nd) (by rw [g.hN]; exact n1) (by rw [g.hN]; exact n2) d1 (locB_inv g l1) (locB_inv g l2) ha (swap2 hk (locB_inv g l1) (locB_inv g l2) d3 d2 (and2 hh).1 (and2 (and2 hh).2).1 h2 h3) rfl) fun D σ H q => ?_
    obtain ⟨ρ, s, A, hs, hr, out⟩ := q
    simp only [exS] at out
    refine ⟨ρ, s, A, hs, hr, OutF.fl out hs fun ws A1 ys H1 ρ1 e1 hr1 r1 out1 => ?_⟩
    split at out1
    · rename_i hl
      rcases ws with _ | ⟨w1, _ | ⟨w2, _ | ⟨_, _⟩⟩⟩
      · cases hl
      · cases hl
      · obtain ⟨y1, y2, rfl, r2, r3⟩ := args2 r1 rfl
        exact ⟨y1, y2, rfl, OutF.nxt out1 hr1 (((hs.mono e1).set nx r2).set nx r3)⟩
      · exact absurd hl (by simp)
    · exact False.elim out1
  · have hh : (okHead a && (okHead b && (okHead d && true))) = true := hh
    refine PS.weak (ps_par3 (i := i) (j := j) (l := kk) hc (by rw [g.hN]; exact g.nd) (by rw [g.hN]; exact n1) (by rw [g.hN]; exact n2) (by rw [g.hN]; exact n3) d1 d2 d3 (locB_inv g l1) (locB_inv g l2) (locB_inv g l3) ha
      (swap3 hk (locB_inv g l1) (locB_inv g l2) (locB_inv g l3) d7 d8 d4 d5 d6 (and2 hh).1 (and2 (and2 hh).2).1 (and2 (and2 (and2 hh).2).2).1 h2 h3) rfl) fun D σ H q => ?_
    obtain ⟨ρ, s, A, hs, hr, out⟩ := q
    simp only [exS] at out
    refine ⟨ρ, s, A, hs, hr, OutF.fl out hs fun ws A1 ys H1 ρ1 e1 hr1 r1 out1 => ?_⟩
    split at out1
    · rename_i hl
      rcases ws with _ | ⟨w1, _ | ⟨w2, _ | ⟨w3, _ | ⟨_, _⟩⟩⟩⟩
      · cases hl
      · cases hl
      · cases hl
      · cases r1 with
        | cons r2 r1 => cases r1 with
          | cons r3 r1 => cases r1 with
            | cons r4 r1 =>
              cases r1
              exact ⟨_, _, _, rfl, OutF.nxt out1 hr1 ((((hs.mono e1).set nx r2).set nx r3).set nx r4)⟩
      · exact absurd hl (by simp)
    · exact False.elim out1
theorem s_if {e : Expr} {ss ts : List Stmt} {d : ME} {a b : MSs} {p : Pos} (hd : PB X G c W e d) (ha : PSs X ss (tSs X.K G c W a)) (hb : PSs X ts (tSs X.K G c W b)) : PS X (.If e ss ts p) (tS X.K G c W (.iff d a b)) := by
  refine PS.weak (ps_if hd.2 ha hb) fun D σ H q => ?_
  obtain ⟨ρ, s, A, hs, hr, out⟩ := q
  have ev : exS c s (.iff d a b) A = (evE c s d A).fl s fun v A => match truA A v with
    | some t => (match t with
      | true => exSs c s a A
      | false => exSs c s b A)
    | none => .stuck := by
    simp only [exS]
    congr
    funext v A
    cases truA A v with
    | none => rfl
    | some t => cases t <;> rfl
  rw [ev] at out
  refine ⟨ρ, s, A, hs, hr, OutF.flB (f := fun t A => match t with | true => exSs c s a A | false => exSs c s b A) out hs fun t A1 H1 ρ1 e1 hr1 out1 => ?_⟩
  cases t with
  | true => exact ⟨ρ1, s, A1, hs.mono e1, hr1, out1⟩
  | false => exact ⟨ρ1, s, A1, hs.mono e1, hr1, out1⟩
theorem s_whl (hp : PassesOwn (model X.prog X.w) X.A X.env X.xe) {e : Expr} {ss : List Stmt} {d : ME} {b : MSs} {p : Pos} (hd : PB X G c W e d) (hb : PSs X ss (tSs X.K G c W b)) : PS X (.While e ss [] p) (tS X.K G c W (.whl d b)) := by
  refine PS.weak (ps_while hp hd.2 hb) fun D σ H q => ?_
  obtain ⟨ρ, s, A, hs, hr, out⟩ := q
  simp only [exS] at out
  unfold whlW at out
  split at out
  case isFalse => exact False.elim out
  rename_i hw
  refine ⟨fun m σ H => ∃ ρ s A, SRel X.K G ρ H s σ ∧ HRel X.K G ρ H A ∧ OutF X.K G ρ H W D (whlL (fun s A => evE c s d A) (fun s A => exSs c s b A) m s A), ⟨hw.choose, ρ, s, A, hs, hr, out⟩, fun m σ H w => ?_⟩
  obtain ⟨ρ, s, A, hs, hr, out⟩ := w
  cases m with
  | zero => exact False.elim out
  | succ m =>
    have ev : whlL (fun s A => evE c s d A) (fun s A => exSs c s b A) (m + 1) s A = (evE c s d A).fl s fun v A => match truA A v with
      | some t => (match t with
        | true => (match exSs c s b A with
          | .nx s' A' => whlL (fun s A => evE c s d A) (fun s A => exSs c s b A) m s' A'
          | .ct s' A' => whlL (fun s A => evE c s d A) (fun s A => exSs c s b A) m s' A'
          | .bk s' A' => .nx s' A'
          | r => r)
        | false => .nx s A)
      | none => .stuck := by
      show (evE c s d A).fl s _ = _
      congr
      funext v A
      cases truA A v with
      | none => rfl
      | some t => cases t <;> rfl
    rw [ev] at out
    refine ⟨ρ, s, A, hs, hr, OutF.flB (f := fun t A => match t with
        | true => (match exSs c s b A with
          | .nx s' A' => whlL (fun s A => evE c s d A) (fun s A => exSs c s b A) m s' A'
          | .ct s' A' => whlL (fun s A => evE c s d A) (fun s A => exSs c s b A) m s' A'
          | .bk s' A' => .nx s' A'
          | r => r)
        | false => .nx s A) out hs fun t A1 H1 ρ1 e1 hr1 out1 => ?_⟩
    cases t with
    | false => exact OutF.nxt out1 hr1 (hs.mono e1)
    | true =>
      refine ⟨fun σ H => ∃ ρ s A, SRel X.K G ρ H s σ ∧ HRel X.K G ρ H A ∧ OutF X.K G ρ H W D (whlL (fun s A => evE c s d A) (fun s A => exSs c s b A) m s A), fun σ' H' z => ⟨m, Nat.lt_succ_self m, z⟩, ρ1, s, A1, hs.mono e1, hr1, ?_⟩
      have out1 : OutF X.K G ρ1 H1 W D (match exSs c s b A1 with
          | .nx s' A' => whlL (fun s A => evE c s d A) (fun s A => exSs c s b A) m s' A'
          | .ct s' A' => whlL (fun s A => evE c s d A) (fun s A => exSs c s b A) m s' A'
          | .bk s' A' => .nx s' A'
          | r => r) := out1
      cases r : exSs c s b A1 with
      | nx s' A' => rw [r] at out1; exact fun σ' H' ρ' x hr' hs' => ⟨ρ', s', A', hs', hr', OutF.mono out1 x⟩
      | ct s' A' => rw [r] at out1; exact fun σ' H' ρ' x hr' hs' => ⟨ρ', s', A', hs', hr', OutF.mono out1 x⟩
      | bk s' A' => rw [r] at out1; exact out1
      | rt v s' A' => rw [r] at out1; exact out1
      | exc C fs s' A' => rw [r] at out1; exact out1
      | stuck => rw [r] at out1; exact out1
theorem s_for (g : Good T G c k N sc calm false W X) (hp : PassesOwn (model X.prog X.w) X.A X.env X.xe) {te ie : Expr} {ss : List Stmt} {t : MT} {kk : IK} {src : MEs} {b : MSs} {p : Pos} (hcalm : calm = true) (ht : chkT N sc calm false t te = true) (hi : chkI T sc kk (fun fs => chkEs T N sc calm src fs) te ie = true)
    (hb : PSs X ss (tSs X.K G c W b)) : PS X (.For te ie ss [] p) (tS X.K G c W (.forr t kk src b)) := by
  have hc := g.hcalm hcalm
  refine PS.weak (ps_for hp hc (i_all g hi fun fs hf => soundEs src g fs hf) (soundT g t te ht) hb fun x => head_fold (chkI_fold hi) x) fun D σ H q => ?_
  obtain ⟨ρ, s, A, hs, hr, out⟩ := q
  simp only [exS] at out
  refine ⟨ρ, s, A, hs, hr, ?_⟩
  cases r : evs c s src A with
  | exc C fs A1 => rw [r] at out; exact fun cls d H' ρ' x hr' ex => out cls d σ H' ρ' x hr' (hs.mono x) ex
  | stuck => rw [r] at out; exact out
  | ok vs A1 =>
    rw [r] at out
    have out : OutF X.K G ρ H W D (match srcA A1 kk vs with
      | none => .stuck
      | some sr => match sr.len A1 with
        | none => .stuck
        | some n => forL t (fun s A => exSs c s b A) sr n 0 s A1) := out
    cases e1 : srcA A1 kk vs with
    | none => rw [e1] at out; exact False.elim out
    | some sr =>
      rw [e1] at out
      have out : OutF X.K G ρ H W D (match sr.len A1 with
        | none => .stuck
        | some n => forL t (fun s A => exSs c s b A) sr n 0 s A1) := out
      cases e2 : sr.len A1 with
      | none => rw [e2] at out; exact False.elim out
      | some n =>
        rw [e2] at out
        have out : OutF X.K G ρ H W D (forL t (fun s A => exSs c s b A) sr n 0 s A1) := out
        refine ⟨sr, e1, fun J H1 ρ1 x1 hr1 hJ => ?_⟩
        refine ⟨fun i m σ' H' => ∃ ρ3 s3 A3, Hext X.K ρ1 H1 ρ3 H' ∧ HRel X.K G ρ3 H' A3 ∧ SRel X.K G ρ3 H' s3 σ' ∧ OutF X.K G ρ3 H' W D (forL t (fun s A => exSs c s b A) sr m i s3 A3), ⟨n, ρ1, s, A1, .refl, hr1, hs.mono x1, OutF.mono out x1⟩, fun i m σ' H' w => ?_⟩
        obtain ⟨ρ3, s3, A3, x3, hr3, hs3, o3⟩ := w
        have J3 := hJ i ρ3 H' A3 x3 hr3
        cases m with
        | zero =>
          left
          unfold forL at o3
          split at o3
          · rename_i e4
            exact ⟨J3.2 e4, OutF.nxt o3 hr3 hs3⟩
          · exact False.elim o3
        | succ m =>
          right
          unfold forL at o3
          split at o3
          · rename_i v e4
            obtain ⟨hgo, hy⟩ := J3.1 v e4
            refine ⟨hgo, fun σ' H' => ∃ ρ3 s3 A3, Hext X.K ρ1 H1 ρ3 H' ∧ HRel X.K G ρ3 H' A3 ∧ SRel X.K G ρ3 H' s3 σ' ∧ OutF X.K G ρ3 H' W D (forL t (fun s A => exSs c s b A) sr m (i + 1) s3 A3), fun σ' H'' z => ⟨m, Nat.lt_succ_self m, z⟩, fun x H4 hx => ?_⟩
            obtain ⟨x4, hr4, rx⟩ := hy x H4 hx
            have o4 := OutF.mono o3 x4
            cases e5 : bindT A3 t v s3 with
            | none => rw [e5] at o4; exact False.elim o4
            | some s2 =>
              rw [e5] at o4
              have o4 : OutF X.K G ρ3 H4 W D (match exSs c s2 b A3 with
                | .nx s' A' => forL t (fun s A => exSs c s b A) sr m (i + 1) s' A'
                | .ct s' A' => forL t (fun s A => exSs c s b A) sr m (i + 1) s' A'
                | .bk s' A' => .nx s' A'
                | r => r) := o4
              refine ⟨ρ3, s3, A3, v, s2, hs3.mono x4, hr4, rx, e5, fun σ5 hs5 _ => ⟨ρ3, s2, A3, hs5, hr4, ?_⟩⟩
              have xx : Hext X.K ρ1 H1 ρ3 H4 := x3.trans x4
              cases r5 : exSs c s2 b A3 with
              | nx s' A' => rw [r5] at o4; exact fun σ' H' ρ' x hr' hs' => ⟨ρ', s', A', xx.trans x, hr', hs', OutF.mono o4 x⟩
              | ct s' A' => rw [r5] at o4; exact fun σ' H' ρ' x hr' hs' => ⟨ρ', s', A', xx.trans x, hr', hs', OutF.mono o4 x⟩
              | bk s' A' => rw [r5] at o4; exact o4
              | rt v s' A' => rw [r5] at o4; exact o4
              | exc C fs s' A' => rw [r5] at o4; exact o4
              | stuck => rw [r5] at o4; exact o4
          · exact False.elim o3
theorem s_ret {e : Expr} {a : ME} {p : Pos} (ha : PE X e (tE X.K G c W a)) : PS X (.Return (some e) p) (tS X.K G c W (.ret a)) := by
  refine PS.weak (ps_ret ha) fun D σ H q => ?_
  obtain ⟨ρ, s, A, hs, hr, out⟩ := q
  simp only [exS] at out
  exact ⟨ρ, s, A, hs, hr, OutF.fl out hs fun v A1 y H1 ρ1 e1 hr1 r1 out1 => out1 y H1 ρ1 .refl hr1 r1⟩
theorem ss_cons {st : Stmt} {ss : List Stmt} {x : MS} {xs : MSs} (h1 : PS X st (tS X.K G c W x)) (h2 : PSs X ss (tSs X.K G c W xs)) : PSs X (st :: ss) (tSs X.K G c W (.cons x xs)) := by
  refine PSs.weak (pss_cons h1 h2) fun D σ H q => ?_
  obtain ⟨ρ, s, A, hs, hr, out⟩ := q
  simp only [exSs] at out
  refine ⟨ρ, s, A, hs, hr, ?_⟩
  have out : OutF X.K G ρ H W D (match exS c s x A with
    | .nx s A => exSs c s xs A
    | r => r) := out
  cases r : exS c s x A with
  | nx s' A' => rw [r] at out; exact fun σ' H' ρ' x hr' hs' => ⟨ρ', s', A', hs', hr', OutF.mono out x⟩
  | ct s' A' => rw [r] at out; exact out
  | bk s' A' => rw [r] at out; exact out
  | rt v s' A' => rw [r] at out; exact out
  | exc C fs s' A' => rw [r] at out; exact out
  | stuck => rw [r] at out; exact out
/-! ### fields, exceptions -/
theorem s_setFld (g : Good T G c k N sc calm false W X) {oe e : Expr} {f : Str} {o a : ME} {p p2 : Pos} (ha : PE X e (tE X.K G c W a)) (ho : PE X oe (tE X.K G c W o)) : PS X (.Assign [.Attribute oe f p2] e p) (tS X.K G c W (.setFld o f a)) := by
  refine PS.weak (ps_fld ho ha swapsAtt) fun D σ H q => ?_
  obtain ⟨ρ, s, A, hs, hr, out⟩ := q
  simp only [exS] at out
  refine ⟨ρ, s, A, hs, hr, OutF.fl out hs fun v A1 y H1 ρ1 e1 hr1 r1 out1 => ⟨ρ1, s, A1, hs.mono e1, hr1, OutF.fl out1 (hs.mono e1) fun x A2 xo H2 ρ2 e2 hr2 r2 out2 => ?_⟩⟩
  split at out2
  · rename_i A3 q1
    cases r2 with
    | @ref n a' kk =>
      have q1 : (match A2[n]? with
        | some (.ins C fs) => if c.fldB C f && decide (fs.length < 1000) then some (A2.set n (.ins C (MP.putF f v fs))) else none
        | _ => none) = some A3 := q1
      split at q1
      · rename_i C fs hn
        split at q1
        · rename_i hb
          obtain ⟨hb, hlen⟩ := and2 hb
          cases (Option.some.inj q1)
          rw [g.fldN] at hb
          obtain ⟨nm, i, ms, fl, h1, h2⟩ := fldN_own hb
          obtain ⟨Ca, dx, Fs, w1, w2, w3⟩ := hr2.obj n _ a' hn kk
          have w1 : G.fn C = some (.ref Ca) := w1
          obtain ⟨Ca', g1, _, g3, g4, _⟩ := (g.own C nm i ms fl h1).ex
          have g1 : G.fn C = some (.ref Ca') := g1
          rw [w1] at g1
          cases g1
          have mu : Mut (H2 a') := by rw [w2]; exact True.intro
          have x4 : Hext X.K ρ2 H2 ρ2 (upd H2 a' (.ins Ca dx (L2.putF f y Fs))) := Hext.mut mu
          exact ⟨a', Ca, dx, Fs, rfl, w2, g3.cl, g4 f h2, by rw [← w3.length]; exact of_decide_eq_true hlen,
            OutF.nxt (OutF.mono out2 x4) (hr2.set hn rfl rfl kk ⟨Ca, dx, _, w1, upd_same, (FldR.put (r1.mono e2) w3).mono x4⟩) (((hs.mono e1).mono e2).mono x4)⟩
        · cases q1
      · cases q1
    | _ => cases q1
  · exact False.elim out2
theorem upd_exo {H H2 : Hp} {a d : Addr} {u : HO} (ha : H a = none) (rest : ∀ b, b ≠ a → b ≠ d → H2 b = upd H a u b) : upd (del H2 a) d = upd H d := by
  funext o b
  by_cases h : b = d
  · rw [h, upd_same, upd_same]
  · rw [upd_ne h, upd_ne h]
    by_cases h2 : b = a
    · rw [h2, del_same, ha]
    · rw [del_ne h2, rest b h2 h, upd_ne h2]
theorem s_raise (g : Good T G c k N sc calm false W X) {x : Str} {fs : List Expr} {C : Nat} {es : MEs} {p1 p2 p : Pos} (hc : calm = true) (hC : excB T C x = true) (h2 : glB sc x = true) (h3 : plainN x = true) (hch : chkEs T N sc calm es fs = true) (ha : PA X fs (tEs X.K G c W es)) :
    PS X (.Raise (some (.Call (.Name x p1) fs [] p2)) none p) (tS X.K G c W (.raise C es)) := by
  obtain ⟨b, ps, up, xs, d, hC⟩ := excB_inv hC
  obtain ⟨Ca, fI, fd, F, Fn, hb, hps⟩ := g.exc C x b ps up xs d hC
  have hh := chkEs_head hch
  have gC : G.fn C = some (.ref Ca) := F.g
  refine PS.weak (ps_raise (g.hcalm hc) g.takes (pmk_oexS F.oe F.it F.ty Fn (g.room hc).2 hb passF (glB_inv g h2) F.m ha (fun e σ H Q q => ?_) (plainN_inv h3).1 (fun e es' e1 => ?_) fun e es' e1 => ?_)) fun D σ H q => ?_
  · subst e
    cases es with
    | cons _ _ => simp only [chkEs] at hch; exact absurd hch Bool.false_ne_true
    | nil =>
      obtain ⟨ρ, s, A, hs, hr, out⟩ := q
      simp only [evs] at out
      exact OutG.at out hr .nil
  · subst e1
    exact head_star (and2 (show (okHead e && allHead es') = true from hh)).1
  · subst e1
    exact star_plain (and2 (show (okHead e && allHead es') = true from hh)).2
  · obtain ⟨ρ, s, A, hs, hr, out⟩ := q
    simp only [exS] at out
    refine ⟨ρ, s, A, hs, hr, OutF.fl out hs fun vs A1 ys H1 ρ1 e1 hr1 r1 out1 => ?_⟩
    split at out1
    · rename_i fs' q1
      rw [g.xfC] at q1
      have hl : vs.length ≤ 1000 := by
        have q2 := q1
        unfold xfN at q2
        rw [hC] at q2
        have q2 : (if vs.length = ps.length then _ else none) = some fs' := q2
        split at q2
        · omega
        · cases q2
      refine ⟨by rw [← r1.length]; exact hl, fun a hna => ?_⟩
      have e2 : Hext X.K ρ1 H1 ρ1 (upd H1 a (exo a Ca none)) := Hext.new0 hna
      rw [List.append_nil]
      refine ⟨a, Ca, ys, ρ1, vs, fs', rfl, r1.mono e2, F.oe, F.no, upd_same, q1, fun dd Fs H2 hd hda hf g1 g2 rest => ⟨rfl, dd, Fs, g1, g2, ?_, ?_⟩⟩
      · rw [upd_ne hda] at hd; exact hd
      · have hd' : H1 dd = none := by rw [upd_ne hda] at hd; exact hd
        rw [upd_exo hna rest]
        have e3 : Hext X.K ρ1 H1 ρ1 (upd H1 dd (.xd Fs)) := Hext.new0 hd'
        have e4 : Hext X.K ρ1 (upd H1 a (exo a Ca none)) ρ1 (upd H1 dd (.xd Fs)) := ⟨fun _ _ h => h, fun b xs' h => by
          have back : SqT X.K H1 b xs' := by
            rcases h with (h | ⟨u, h⟩) | h
            · by_cases hb : b = a
              · subst hb; rw [upd_same] at h; exact absurd (Option.some.inj h) exo_tup
              · rw [upd_ne hb] at h; exact .inl (.inl h)
            · by_cases hb : b = a
              · subst hb; rw [upd_same] at h; exact absurd (Option.some.inj h) exo_frz
              · rw [upd_ne hb] at h; exact .inl (.inr ⟨u, h⟩)
            · exact .inr h
          exact e3.tup b xs' back⟩
        exact out1 _ _ σ _ ρ1 e3 (hr1.same hd') ((hs.mono e1).mono e3) ⟨Ca, dd, gC, rfl, rfl, Fs, upd_same, hf.mono e4⟩
    · exact False.elim out1
end
/-! ### try -/
section
variable {T : Tb} {G : Gx} {c : Cl} {k : Nat} {N : List Str} {sc : Scope} {calm : Bool} {W : WX} {X : Cx}
theorem good_tr (g : Good T G c k N sc calm false W X) (hcm : calm = true) {W' : WX} {pn : List (Addr × Obj)} {xe : Value → Shared → Prop} (tk : Takes (X.tr pn xe) W') : Good T G c k N sc calm false W' (X.tr pn xe) where
  hN := g.hN
  hsc := g.hsc
  hcalm := g.hcalm
  nd := g.nd
  hG := g.hG
  room := g.room
  un := g.un
  takes := tk
  free := g.free
  gls := g.gls
  ceq := g.ceq
  fns := g.fns
  own := g.own
  exc := g.exc
  st := g.st
  stk := g.stk
  xc := g.xc
  xn := g.xn
  xs := fun j C n e => by rw [(g.xc hcm).2] at e; cases e
/-- the handled exception within a suite -/
def suX (io : Option Nat) (a : Addr) (n : Nat) (dd : Addr) : Option Xs := io.map fun i => ⟨i, a, n, dd⟩
/-- a suite's reading: the exception's class is one of the text's, its dict at dd -/
def tSu (K : PySem.W.Frag) (G : Gx) (c : Cl) (T : Tb) (io : Option Nat) (b : MSs) (a : Addr) (cls : Value) (d : Option Addr) : TS := fun D σ H => ∃ (C n : Nat) (dd Ca : Addr) (nm : Str) (b0 : Option Nat) (ps : List Str) (up : List XE) (fs : List (Str × XE)) (dd0 : FnT), T.cls[C]? = some (.exc nm b0 ps up fs dd0) ∧ G.fn C = some (.ref Ca) ∧ cls = .ref Ca ∧ d = some dd ∧
  tSs K ⟨G.fn, suX io a n dd⟩ (inX c io C n) W0 b D σ H
theorem good_su (g : Good T G c k N sc calm false W X) {io : Option Nat} {a : Addr} {oe : Obj} {pn : List (Addr × Obj)} {C n : Nat} {dd Ca : Addr} {nm : Str} {b0 : Option Nat} {ps : List Str} {up : List XE} {fs : List (Str × XE)} {dd0 : FnT} (hC : T.cls[C]? = some (.exc nm b0 ps up fs dd0)) (gC : G.fn C = some (.ref Ca)) (hz : Zc (.ref Ca) (some dd) oe) (hf : ∃ vs, oe.data = .fields vs)
    (hio : ∀ i, io = some i → ∃ y, N[i]? = some y ∧ excN y = true) : Good T ⟨G.fn, suX io a n dd⟩ (inX c io C n) k N sc false false W0 (X.suite a ((a, oe) :: pn)) where
  hN := g.hN
  hsc := g.hsc
  hcalm := fun z => nomatch z
  nd := g.nd
  hG := g.hG
  room := fun z => nomatch z
  un := g.un
  takes := fun u s' x => by
    obtain ⟨_, _, _, _, _, _, _, _, _, _, _, _, _, _, _, _, z⟩ := x
    exact z
  free := g.free
  gls := g.gls
  ceq := congrArg (fun z : Cl => { z with ex := io.map fun i => (i, C, n) }) g.ceq
  fns := g.fns
  own := g.own
  exc := g.exc
  st := g.st
  stk := g.stk
  xc := fun z => nomatch z
  xn := fun x e => by
    cases io with
    | none => cases e
    | some i =>
      cases (Option.some.inj e)
      obtain ⟨y, y1, y2⟩ := hio i rfl
      exact ⟨rfl, y, y1, y2⟩
  xs := fun j C' n' e => by
    cases io with
    | none => cases e
    | some i =>
      obtain ⟨rfl, rfl, rfl⟩ : i = j ∧ C = C' ∧ n = n' := by
        have z : (i, C, n) = (j, C', n') := Option.some.inj e
        exact ⟨congrArg (·.1) z, congrArg (·.2.1) z, congrArg (·.2.2) z⟩
      obtain ⟨Ca', fI, fd, F, _⟩ := g.exc C nm b0 ps up fs dd0 hC
      have gC' : G.fn C = some (.ref Ca') := F.g
      rw [gC] at gC'
      cases gC'
      refine ⟨⟨i, a, n, dd⟩, Ca, rfl, rfl, rfl, fun e te f pos h1 h2 h3 => pe_xf F.xf (F.no f h1) hz hf h3 (base_of h2), fun t b ht => ?_⟩
      obtain ⟨u, u1, _, u3⟩ := F.sb t b ht
      refine ⟨u, u1, fun pins s σ H ys us Q I r h => ?_⟩
      obtain ⟨cv, Fs, rfl, w1, w2, q⟩ := h
      exact call_isEd F.ec hz hf pins s σ H _ us Q I r ⟨cv, u, b, Fs, rfl, w1, w2, u3, q⟩
def hdT (K : PySem.W.Frag) (G : Gx) (c : Cl) (T : Tb) : MHs → List HdT
  | .nil => []
  | .cons t i b r => ((xnV G t).getD .none, i, tSu K G c T i b) :: hdT K G c T r
end
section
variable {T : Tb} {G : Gx} {c : Cl} {k : Nat} {N : List Str} {sc : Scope} {calm : Bool} {W : WX} {X : Cx}
theorem names_ok (g : Good T G c k N sc calm false W X) {t : XN} {x : Str} (h : xnB T sc t x = true) : Names X x ((xnV G t).getD .none) := by
  cases t with
  | own D =>
    unfold xnB at h
    obtain ⟨t1, t2, t3⟩ := and3 h
    obtain ⟨b', ps', up', fs', d', hD⟩ := excB_inv t1
    obtain ⟨Da, fI, fd, F, _⟩ := g.exc D x b' ps' up' fs' d' hD
    have hg : G.fn D = some (.ref Da) := F.g
    have e : xnV G.fn (.own D) = some (.ref Da) := by
      show (match G.fn D with | some (.ref a) => some (Value.ref a) | _ => none) = _
      rw [hg]
    rw [e]
    exact ⟨glB_inv g t2, (plainN_inv t3).1, .inl F.m⟩
  | ve =>
    obtain ⟨rfl, m2, m3, m4, m5⟩ := bltB_inv g h
    exact ⟨m2, m4, .inr ⟨m3, (show bootBuiltins (Str.ofString "ValueError") = some (.type "ValueError") by decide +kernel), m5⟩⟩
theorem hd_cons (g : Good T G c k N sc calm false W X) (hc : calm = true) {t : XN} {i : Option Nat} {b : MSs} {r : MHs} {x : Str} {no : Option Str} {ss : List Stmt} {p1 p : Pos} {hds : List ExceptHandler} (h1 : xnB T sc t x = true) (h2 : ss ≠ [])
    (h3 : (match i, no with
        | some i, some y => decide (N[i]? = some y) && locB sc y && excN y
        | none, none => true
        | _, _ => false) = true)
    (ih : ∀ (G' : Gx) (c' : Cl) (X' : Cx), Good T G' c' k N sc false false W0 X' → PassesOwn (model X'.prog X'.w) X'.A X'.env X'.xe → ∀ ss, chkSs T N sc false b ss = true → PSs X' ss (tSs X'.K G' c' W0 b)) (h4 : chkSs T N sc false b ss = true) (hr : HdsA X hds (hdT X.K G c T r)) :
    HdsA X (.ExceptHandler (some (.Name x p1)) no ss p :: hds) (hdT X.K G c T (.cons t i b r)) := by
  cases ss with
  | nil => exact absurd rfl h2
  | cons b0 suite =>
    have hio : ∀ j, i = some j → ∃ y, no = some y ∧ N[j]? = some y ∧ locB sc y = true ∧ excN y = true := fun j e => by
      subst e
      cases no with
      | none => cases h3
      | some y =>
        obtain ⟨k1, k2, k3⟩ := and3 h3
        exact ⟨y, rfl, of_decide_eq_true k1, k2, k3⟩
    refine .cons (names_ok g h1) (fun j e => ?_) (fun e => ?_) (fun a oe cls d pn hz hf => ?_) hr
    · obtain ⟨y, y1, y2, y3, _⟩ := hio j e
      refine ⟨y, y1, by rw [g.hN]; exact y2, ?_⟩
      have z : sc.names.lookup y = some .local := of_decide_eq_true y3
      show X.env.scope.names.lookup y = some .local
      rw [g.hsc]
      exact z
    · subst e
      cases no with
      | none => rfl
      | some _ => cases h3
    · refine ⟨fun pins s σ H D I q => ?_⟩
      obtain ⟨C, n, dd, Ca, nm, b0', ps, up, fs, dd0, hC, gC, rfl, rfl, q⟩ := q
      exact (ih _ _ _ (good_su g hC gC hz hf fun j e => by obtain ⟨y, _, y2, _, y4⟩ := hio j e; exact ⟨y, y2, y4⟩) PassesOwn.never _ h4).run pins s σ H D I q
/-- the clauses meet an exception -/
theorem hd_of (g : Good T G c k N sc calm false W X) (hc : calm = true) {C : Nat} {fs : List (Str × AV)} {s : AS} {A : AH} {D : Ends} {cls : Value} {d : Option Addr} {σ : L2.St} {H : Hp} {ρ : List Addr} (hs : SRel X.K G ρ H s σ) (hr : HRel X.K G ρ H A) (hx : ExR X.K G ρ H C fs cls d) :
    ∀ (hds : MHs), OutF X.K G ρ H W D (exHs c C fs s A hds) → wManyA X.K W D (hdT X.K G c T hds) cls d σ H
  | .nil, out => out cls d σ H ρ .refl hr hs hx
  | .cons t i b r, out => by
    simp only [exHs] at out
    rw [g.subC] at out
    have out : OutF X.K G ρ H W D (match subT T.cls C t with
      | some true => if inS i s then unxF i (exSs (inX c i C A.length) (i.elim s fun i => s.set i none) b (A ++ [.xd fs])) else .stuck
      | some false => exHs c C fs s A r
      | none => .stuck) := out
    obtain ⟨Ca, dd, gC, rfl, rfl, Fs, hd, hf⟩ := hx
    have gC : G.fn C = some (.ref Ca) := gC
    cases q : subT T.cls C t with
    | none => rw [q] at out; exact False.elim out
    | some b' =>
      rw [q] at out
      have hexc : ∃ nm b0 ps up xs dd0, T.cls[C]? = some (.exc nm b0 ps up xs dd0) := by
        unfold subT at q
        split at q
        · exact ⟨_, _, _, _, _, _, by assumption⟩
        · exact ⟨_, _, _, _, _, _, by assumption⟩
        · cases q
      obtain ⟨nm, b0, ps, up, xs, dd0, hC⟩ := hexc
      obtain ⟨Ca', fI, fd, F, _⟩ := g.exc C nm b0 ps up xs dd0 hC
      have gC' : G.fn C = some (.ref Ca') := F.g
      rw [gC] at gC'
      cases gC'
      obtain ⟨u, u1, u2, _⟩ := F.sb t b' q
      refine ⟨b', by rw [u1]; exact u2, fun e a na => ?_, fun e => ?_⟩
      · subst e
        have out : OutF X.K G ρ H W D (if inS i s then unxF i (exSs (inX c i C A.length) (i.elim s fun i => s.set i none) b (A ++ [.xd fs])) else .stuck) := out
        split at out
        · rename_i hin
          obtain ⟨hr2, ex2⟩ := hr.addX hd hf
          have key : ∀ {s2 : AS} {σ2 : L2.St} {D2 : Ends}, SRel X.K ⟨G.fn, suX i a A.length dd⟩ (ρ ++ [dd]) H s2 σ2 → OutF X.K ⟨G.fn, suX i a A.length dd⟩ (ρ ++ [dd]) H W0 D2 (exSs (inX c i C A.length) s2 b (A ++ [.xd fs])) → tSu X.K G c T i b a (.ref Ca) (some dd) D2 σ2 H := fun {s2 σ2 D2} h1 h2 =>
            ⟨C, A.length, dd, Ca, nm, b0, ps, up, xs, dd0, hC, gC, rfl, rfl, ρ ++ [dd], s2, A ++ [.xd fs], h1, hr2, h2⟩
          cases i with
          | none =>
            have hs2 : SRel X.K ⟨G.fn, suX none a A.length dd⟩ (ρ ++ [dd]) H s σ := ⟨hs.len, fun j v hj => let ⟨y, h1, h2⟩ := hs.at_ j v hj; ⟨y, h1, h2.mono ex2⟩, fun x e => nomatch e⟩
            refine key hs2 ?_
            have out : OutF X.K G ρ H W D (unxF none (exSs (inX c none C A.length) s b (A ++ [.xd fs]))) := out
            have back : ∀ {ρ2 : List Addr} {H2 : Hp} {s2 : AS} {σ2 : L2.St}, SRel X.K ⟨G.fn, suX none a A.length dd⟩ ρ2 H2 s2 σ2 → SRel X.K G ρ2 H2 s2 σ2 := fun h => ⟨h.len, h.at_, fun x e => by rw [(g.xc hc).1] at e; cases e⟩
            cases z : exSs (inX c none C A.length) s b (A ++ [.xd fs]) with
            | nx s2 A2 => rw [z] at out; exact fun σ2 H2 ρ2 x h1 h2 => out σ2 H2 ρ2 (ex2.trans x) h1 (back h2)
            | bk s2 A2 => rw [z] at out; exact fun σ2 H2 ρ2 x h1 h2 => out σ2 H2 ρ2 (ex2.trans x) h1 (back h2)
            | ct s2 A2 => rw [z] at out; exact fun σ2 H2 ρ2 x h1 h2 => out σ2 H2 ρ2 (ex2.trans x) h1 (back h2)
            | rt v s2 A2 => rw [z] at out; exact fun y H2 ρ2 x h1 h2 => out y H2 ρ2 (ex2.trans x) h1 h2
            | exc C2 fs2 s2 A2 => rw [z] at out; exact False.elim out
            | stuck => rw [z] at out; exact False.elim out
          | some i =>
            have hi : i < s.length := of_decide_eq_true hin
            have hs2 : SRel X.K ⟨G.fn, suX (some i) a A.length dd⟩ (ρ ++ [dd]) H (s.set i none) (σ.set i (some (.ref a))) := by
              refine ⟨by rw [List.length_set, List.length_set]; exact hs.len, fun j v hj => ?_, fun x e => ?_⟩
              · by_cases e : i = j
                · subst e
                  rw [List.getElem?_set_self hi] at hj
                  cases hj
                · rw [List.getElem?_set_ne e] at hj ⊢
                  obtain ⟨y, h1, h2⟩ := hs.at_ j v hj
                  exact ⟨y, h1, h2.mono ex2⟩
              · cases (Option.some.inj e)
                exact ⟨List.getElem?_set_self (by rw [← hs.len]; exact hi), by show (ρ ++ [dd])[A.length]? = some dd; exact lenR hr⟩
            refine key hs2 ?_
            have out : OutF X.K G ρ H W D (unxF (some i) (exSs (inX c (some i) C A.length) (s.set i none) b (A ++ [.xd fs]))) := out
            have back : ∀ {ρ2 : List Addr} {H2 : Hp} {s2 : AS} {σ2 : L2.St}, SRel X.K ⟨G.fn, suX (some i) a A.length dd⟩ ρ2 H2 s2 σ2 → SRel X.K G ρ2 H2 (s2.set i none) (σ2.set i none) := fun {ρ2 H2 s2 σ2} h =>
              ⟨by rw [List.length_set, List.length_set]; exact h.len, fun j v hj => by
                by_cases e : i = j
                · subst e
                  have hl : i < s2.length := by
                    have := (List.getElem?_eq_some_iff.mp hj).1
                    simpa using this
                  rw [List.getElem?_set_self hl] at hj
                  cases hj
                · rw [List.getElem?_set_ne e] at hj ⊢
                  exact h.at_ j v hj, fun x e => by rw [(g.xc hc).1] at e; cases e⟩
            cases z : exSs (inX c (some i) C A.length) (s.set i none) b (A ++ [.xd fs]) with
            | nx s2 A2 => rw [z] at out; exact fun σ2 H2 ρ2 x h1 h2 => out _ H2 ρ2 (ex2.trans x) h1 (back h2)
            | bk s2 A2 => rw [z] at out; exact fun σ2 H2 ρ2 x h1 h2 => out _ H2 ρ2 (ex2.trans x) h1 (back h2)
            | ct s2 A2 => rw [z] at out; exact fun σ2 H2 ρ2 x h1 h2 => out _ H2 ρ2 (ex2.trans x) h1 (back h2)
            | rt v s2 A2 => rw [z] at out; exact fun y H2 ρ2 x h1 h2 => out y H2 ρ2 (ex2.trans x) h1 h2
            | exc C2 fs2 s2 A2 => rw [z] at out; exact False.elim out
            | stuck => rw [z] at out; exact False.elim out
        · exact False.elim out
      · subst e
        exact hd_of g hc hs hr ⟨Ca, dd, gC, rfl, rfl, Fs, hd, hf⟩ r out
theorem s_try (g : Good T G c k N sc calm false W X) (hc : calm = true) {b : MSs} {hs : MHs} {ss : List Stmt} {hds : List ExceptHandler} {p : Pos} (hn : hds ≠ [])
    (hb : ∀ (W : WX) (pn : List (Addr × Obj)) (xe : Value → Shared → Prop), Takes (X.tr pn xe) W → PassesOwn (model X.prog X.w) X.A X.env xe → PSs (X.tr pn xe) ss (tSs X.K G c W b)) (hh : HdsA X hds (hdT X.K G c T hs)) :
    PS X (.Try ss hds [] [] p) (tS X.K G c W (.tryAs b hs)) := by
  cases hds with
  | nil => exact absurd rfl hn
  | cons h0 hds =>
    obtain ⟨k1, k2⟩ := g.stk rfl
    refine PS.weak (ps_try_manyA (by rw [g.hN]; exact g.nd) k1 k2 g.takes hb hh) fun D σ H q => ?_
    obtain ⟨ρ, s, A, hs0, hr, out⟩ := q
    simp only [exS] at out
    refine ⟨ρ, s, A, hs0, hr, ?_⟩
    cases z : exSs c s b A with
    | nx s2 A2 => rw [z] at out; exact out
    | bk s2 A2 => rw [z] at out; exact out
    | ct s2 A2 => rw [z] at out; exact out
    | rt v s2 A2 => rw [z] at out; exact out
    | stuck => rw [z] at out; exact out
    | exc C fs s2 A2 =>
      rw [z] at out
      exact fun cls d σ2 H2 ρ2 x h1 h2 hx => hd_of g hc h2 h1 hx hs (OutF.mono out x)
end
section
variable {T : Tb} {k : Nat} {N : List Str} {sc : Scope}
mutual
theorem soundS : ∀ (ms : MS) {G : Gx} {c : Cl} {calm : Bool} {W : WX} {X : Cx}, Good T G c k N sc calm false W X → PassesOwn (model X.prog X.w) X.A X.env X.xe → ∀ (st : Stmt), chkS T N sc calm ms st = true → PS X st (tS X.K G c W ms)
  | .expr a, _, _, _, _, _, g, hp, st, h => by
    simp only [chkS] at h
    split at h
    · rename_i q
      obtain ⟨p, rfl⟩ := exprSt_inv q
      obtain ⟨h1, h2⟩ := and2 h
      refine s_expr (soundE a g _ h2).1 (chkE_head h2) ?_
      rcases chkE_comp h2 with z | z
      · exact absurd (Option.isNone_iff_eq_none.mp h1) z
      · exact z
    · cases h
  | .asg t a, _, _, _, _, _, g, hp, st, h => by
    simp only [chkS] at h
    split at h
    · rename_i te e q
      obtain ⟨p, rfl⟩ := asgSt_inv q
      obtain ⟨h, h5⟩ := and2 h
      obtain ⟨h, h4⟩ := and2 h
      obtain ⟨h1, h2, h3⟩ := and3 h
      cases hsw : swV sc te e with
      | true => exact s_setLc g h2 h4 h5 hsw
      | false => exact s_asg g h3 h2 h1 h4 h5 hsw
    · cases h
  | .setSub o i a, _, _, _, _, _, g, hp, st, h => by
    simp only [chkS] at h
    split at h
    · rename_i te e q
      obtain ⟨p, rfl⟩ := asgSt_inv q
      split at h
      · rename_i q2
        obtain ⟨p2, rfl⟩ := subOf_inv q2
        obtain ⟨h1, h2, h3⟩ := and3 h
        exact s_setSub g (soundE a g _ h1).1 (soundE o g _ h2).1 (soundE i g _ h3).1 (chkE_head h3)
      · cases h
    · cases h
  | .aug i o a, _, _, _, _, _, g, hp, st, h => by
    simp only [chkS] at h
    split at h
    · rename_i q
      obtain ⟨p, rfl⟩ := augSt_inv q
      split at h
      · rename_i q2
        obtain ⟨p2, rfl⟩ := nmOf_inv q2
        obtain ⟨h1, h2, h3⟩ := and3 h
        cases (of_decide_eq_true h1)
        exact s_aug g h2 (soundE a g _ h3).1
      · cases h
    · cases h
  | .augSub o i op a, _, _, _, _, _, g, hp, st, h => by
    simp only [chkS] at h
    split at h
    · rename_i q
      obtain ⟨p, rfl⟩ := augSt_inv q
      split at h
      · rename_i q2
        obtain ⟨p2, rfl⟩ := subOf_inv q2
        obtain ⟨h, h4⟩ := and2 h
        obtain ⟨h1, h2, h3⟩ := and3 h
        cases (of_decide_eq_true h1)
        exact s_augSub g (soundE o g _ h2).1 (soundE i g _ h3).1 (chkE_head h3) (soundE a g _ h4).1
      · cases h
    · cases h
  | .par is es, _, _, _, _, _, g, hp, st, h => by
    simp only [chkS] at h
    split at h
    · rename_i q
      obtain ⟨p, rfl⟩ := asgSt_inv q
      split at h
      · rename_i q1 q2
        obtain ⟨k1, p1, rfl⟩ := tupOf_inv q1
        obtain ⟨k2, p2, rfl⟩ := tupOf_inv q2
        obtain ⟨h1, h2, h3⟩ := and3 h
        exact s_par g h1 h2 (chkEs_head h3) (soundEs es g _ h3).1
      · cases h
    · cases h
  | .iff d a b, _, _, _, _, _, g, hp, st, h => by
    simp only [chkS] at h
    split at h
    · rename_i q
      obtain ⟨p, rfl⟩ := iffSt_inv q
      obtain ⟨h1, h2, h3⟩ := and3 h
      exact s_if (soundE d g _ h1) (soundSs a g hp _ h2) (soundSs b g hp _ h3)
    · cases h
  | .whl d b, _, _, _, _, _, g, hp, st, h => by
    simp only [chkS] at h
    split at h
    · rename_i q
      obtain ⟨p, rfl⟩ := whlSt_inv q
      obtain ⟨h1, h2⟩ := and2 h
      exact s_whl hp (soundE d g _ h1) (soundSs b g hp _ h2)
    · cases h
  | .forr t kk src b, _, _, _, _, _, g, hp, st, h => by
    simp only [chkS] at h
    split at h
    · rename_i q
      obtain ⟨p, rfl⟩ := forSt_inv q
      obtain ⟨h, h4⟩ := and2 h
      obtain ⟨h1, h2, h3⟩ := and3 h
      exact s_for g hp h1 h2 h3 (soundSs b g hp _ h4)
    · cases h
  | .ret a, _, _, _, _, _, g, hp, st, h => by
    simp only [chkS] at h
    split at h
    · rename_i q
      obtain ⟨p, rfl⟩ := retSt_inv q
      exact s_ret (soundE a g _ h).1
    · cases h
  | .retN, _, _, _, _, _, g, hp, st, h => by
    simp only [chkS] at h
    split at h
    · rename_i q
      obtain ⟨p, rfl⟩ := retSt_inv q
      refine PS.weak ps_retN fun D σ H q => ?_
      obtain ⟨ρ, s, A, hs, hr, out⟩ := q
      simp only [exS] at out
      exact out .non H ρ .refl hr .non
    · cases h
  | .pass, _, _, _, _, _, g, hp, st, h => by
    simp only [chkS] at h
    split at h
    · refine PS.weak ps_pass fun D σ H q => ?_
      obtain ⟨ρ, s, A, hs, hr, out⟩ := q
      simp only [exS] at out
      exact OutF.nxt out hr hs
    · cases h
  | .brk, _, _, _, _, _, g, hp, st, h => by
    simp only [chkS] at h
    split at h
    · refine PS.weak ps_break fun D σ H q => ?_
      obtain ⟨ρ, s, A, hs, hr, out⟩ := q
      simp only [exS] at out
      exact out σ H ρ .refl hr hs
    · cases h
  | .cnt, _, _, _, _, _, g, hp, st, h => by
    simp only [chkS] at h
    split at h
    · refine PS.weak ps_continue fun D σ H q => ?_
      obtain ⟨ρ, s, A, hs, hr, out⟩ := q
      simp only [exS] at out
      exact out σ H ρ .refl hr hs
    · cases h
  | .setFld o f a, _, _, _, _, _, g, hp, st, h => by
    simp only [chkS] at h
    split at h
    · rename_i q
      obtain ⟨p, rfl⟩ := asgSt_inv q
      split at h
      · rename_i q2
        obtain ⟨p2, rfl⟩ := attOf_inv q2
        obtain ⟨h1, h2, h3⟩ := and3 h
        cases (of_decide_eq_true h1)
        exact s_setFld g (soundE a g _ h2).1 (soundE o g _ h3).1
      · cases h
    · cases h
  | .augFld _ _ _ _, _, _, _, _, _, g, hp, st, h => by simp only [chkS] at h; exact absurd h Bool.false_ne_true
  | .raise C es, _, _, _, _, _, g, hp, st, h => by
    simp only [chkS] at h
    split at h
    · rename_i q
      obtain ⟨p1, p2, p, rfl⟩ := raiseSt_inv q
      obtain ⟨h, h5⟩ := and2 h
      obtain ⟨h, h4⟩ := and2 h
      obtain ⟨h1, h2, h3⟩ := and3 h
      exact s_raise g h1 h2 h3 h4 h5 (soundEs es g _ h5).1
    · cases h
  | .tryAs b hs, G, c, _, W, X, g, hp, st, h => by
    simp only [chkS] at h
    split at h
    · rename_i q
      obtain ⟨p, rfl⟩ := trySt_inv q
      obtain ⟨h, h5⟩ := and2 h
      obtain ⟨h, h4⟩ := and2 h
      obtain ⟨h1, h2, h3⟩ := and3 h
      exact s_try g h1 (by simpa using h5) (fun W' pn xe tk hp' => soundSs b (good_tr g h1 tk) hp' _ h3) (soundHs hs g h1 _ h4)
    · cases h
/-- except clauses -/
theorem soundHs : ∀ (hs : MHs) {G : Gx} {c : Cl} {calm : Bool} {W : WX} {X : Cx}, Good T G c k N sc calm false W X → calm = true → ∀ (hds : List ExceptHandler), chkHs T N sc hs hds = true → HdsA X hds (hdT X.K G c T hs)
  | .nil, _, _, _, W, X, g, hc, hds, h => by
    simp only [chkHs] at h
    cases hds with
    | nil => exact .nil
    | cons _ _ => cases h
  | .cons t i b r, _, _, _, W, X, g, hc, [], h => by simp only [chkHs] at h; exact absurd h Bool.false_ne_true
  | .cons t i b r, G, c, _, W, X, g, hc, hd :: hds, h => by
    simp only [chkHs] at h
    split at h
    · rename_i q
      obtain ⟨p1, p, rfl⟩ := hdOf_inv q
      obtain ⟨h, h5⟩ := and2 h
      obtain ⟨h, h4⟩ := and2 h
      obtain ⟨h1, h2, h3⟩ := and3 h
      exact hd_cons g hc h1 (by simpa using h2) h3 (fun G' c' X' g' hp' ss hss => soundSs b g' hp' ss hss) h4 (soundHs r g hc hds h5)
    · cases h
theorem soundSs : ∀ (ms : MSs) {G : Gx} {c : Cl} {calm : Bool} {W : WX} {X : Cx}, Good T G c k N sc calm false W X → PassesOwn (model X.prog X.w) X.A X.env X.xe → ∀ (ss : List Stmt), chkSs T N sc calm ms ss = true → PSs X ss (tSs X.K G c W ms)
  | .nil, _, _, _, W, X, g, hp, ss, h => by
    simp only [chkSs] at h
    cases ss with
    | cons _ _ => cases h
    | nil =>
      refine PSs.weak pss_nil fun D σ H q => ?_
      obtain ⟨ρ, s, A, hs, hr, out⟩ := q
      simp only [exSs] at out
      exact OutF.nxt out hr hs
  | .cons x xs, _, _, _, W, X, g, hp, [], h => by simp only [chkSs] at h; exact absurd h Bool.false_ne_true
  | .cons x xs, _, _, _, W, X, g, hp, st :: ss, h => by
    simp only [chkSs] at h
    obtain ⟨h1, h2⟩ := and2 h
    exact ss_cons (soundS x g hp st h1) (soundSs xs g hp ss h2)
end
end
end MP

set_option maxRecDepth 100000
set_option autoImplicit false
set_option maxHeartbeats 1000000
/-! MP11: defs, the head's facts, the end. -/
namespace MP
open PySem PySem.Spec PyProof.Rows L2

/-! ### a def -/
/-- the def is the text's own -/
def fnB (T : Tb) (d : FnT) : Bool := scopeB d.N d.ps d.sc && chkSs T d.N d.sc true d.body d.src
section
variable {P : Program} {w : World} {K : PySem.W.Frag} {mg : Str → Option Value} {base : Heap} {T : Tb} {G : Gx} 
theorem startA_rel (hx : G.x = none) {ρ : List Addr} {H : Hp} {vs : List AV} {ys : List V} (h : AVrs K G ρ H vs ys) (n : Nat) (N : List Str) (hn : N.length = n) : SRel K G ρ H (startA n vs) (L2.start N ys) := by
  subst hn
  unfold startA L2.start
  have key : ∀ {vs : List AV} {ys : List V} (m : Nat), AVrs K G ρ H vs ys → SRel K G ρ H (vs.map some ++ List.replicate m none) (ys.map some ++ List.replicate m none) := fun {vs ys} m h => by
    refine ⟨by simp [h.length], fun i v q => ?_, fun x z => by rw [hx] at z; cases z⟩
    by_cases hi : i < vs.length
    · rw [List.getElem?_append_left (by simpa using hi), List.getElem?_map] at q
      cases q2 : vs[i]? with
      | none => rw [q2] at q; cases q
      | some v' =>
        rw [q2] at q
        cases (Option.some.inj (Option.some.inj q))
        obtain ⟨y, e, r⟩ := h.get q2
        refine ⟨y, ?_, r⟩
        rw [List.getElem?_append_left (by rw [List.length_map, ← h.length]; exact hi), List.getElem?_map, e]
        rfl
    · rw [List.getElem?_append_right (by simpa using Nat.le_of_not_lt hi)] at q
      have k := List.mem_of_getElem? q
      rw [List.mem_replicate] at k
      cases k.2
  rw [h.length]
  exact key _ h
/-- the exception classes' __init__ -/
def Tb.xds (T : Tb) : List FnT := T.cls.filterMap fun
  | .exc _ _ _ _ _ d => some d
  | _ => none
/-- what is given of the table -/
structure TbOk (T : Tb) (K : PySem.W.Frag) (mg : Str → Option Value) (G : Gx) : Prop where
  hG : GOk G
  gx : G.x = none
  free : ∀ x, T.free.contains x = true → mg x = none
  gls : ∀ (g : Nat) x v, T.gls[g]? = some (x, v) → ∃ u y, mg x = some u ∧ RelV y u ∧ ∀ ρ H, AVr K G ρ H v y
  fns : ∀ (f : Nat) d, T.fns[f]? = some d → FnG T K mg G (fun a fd _ => ∃ dvs kws, FunD K d.name d.qual d.params d.src d.sc dvs kws a fd) f d fun _ _ => .stuck
  own : ∀ (f : Nat) d, T.fns[f]? = some d → fnB T d = true
  cls : ∀ (C : Nat) nm i ms fl, T.cls[C]? = some (.own nm i ms fl) → OwnF T K mg G C nm ms fl
  exc : ∀ (C : Nat) nm b ps up fs d, T.cls[C]? = some (.exc nm b ps up fs d) → ∃ Ca fI fd, ExcT T K mg G C nm b ps up fs d Ca fI fd
  ve : ∀ (C : Nat) nm b ps up fs d, T.cls[C]? = some (CT.exc nm b ps up fs d) → mg "ValueError" = none ∧ PySem.W.findCls K (.type "ValueError") (.type "type") "__init__" = some (.val (.builtin "ValueError.__init__"))
/-- how deep the calls of a def may go -/
def lv (k : Nat) : Nat := 3 * k + 20
theorem callN_len {k f : Nat} {d : FnT} {vs : List AV} {A : AH} (hd : T.fns[f]? = some d) (h : callN T k f vs A ≠ .stuck) : vs.length = d.ps.length := by
  cases k with
  | zero => exact absurd rfl h
  | succ k =>
    by_cases hl : vs.length = d.ps.length
    · exact hl
    · refine absurd ?_ h
      show (match T.fns[f]? with | none => R.stuck | some d => if vs.length = d.ps.length then retA (exSs (clOf T (callN T k)) (startA d.N.length vs) d.body A) else .stuck) = .stuck
      rw [hd]
      exact if_neg hl
theorem spA_len {k f : Nat} {d : FnT} {ys : List V} {H : Hp} {Q : VK} {E : XK} (hd : T.fns[f]? = some d) (h : spA K G (callN T k f) ys H Q E) : ys.length = d.ps.length := by
  obtain ⟨ρ, A, vs, hr, hv, out⟩ := h
  rw [← hv.length]
  exact callN_len hd fun z => by rw [z] at out; exact out
/-- a def by its body, the calls one deeper -/
theorem fn_step (ok : TbOk T K mg G) {k f : Nat} {d : FnT} (hd : T.fns[f]? = some d) {a : Addr} {fd : FuncData} {dv : List V} {kw : List (Str × V)} (F : FunD K d.name d.qual d.params d.src d.sc dv kw a fd)
    (ih : ∀ (f : Nat) d, T.fns[f]? = some d → FnG T K mg G (fun a fd sp => FnOk P w K mg base (L2.CX P w) (lv k) a fd d.ps sp) f d (callN T k f)) : FnOk P w K mg base (L2.CX P w) (lv (k + 1)) a fd d.ps (spA K G (callN T (k + 1) f)) := by
  have el : lv (k + 1) = (lv k + 2) + 1 := by unfold lv; omega
  rw [el]
  obtain ⟨b1, b2⟩ := and2 (ok.own f d hd)
  have S := scopeB_ok b1
  refine F.ok S (fun vs H Q E h => spA_len hd h) fun cdv A outer s H vs Q E hr hsp => ⟨tSs K G (clOf T (callN T k)) (fun cls d _ H => E cls d H) d.body, ?_, ?_⟩
  · refine soundSs (T := T) (k := lv k) (calm := true) (sc := d.sc) (N := d.N) d.body ?_ (passes_of (K := fun e s'' => L2.CX P w outer H s E e s'') rfl) d.src b2
    exact {
      hN := rfl, hsc := rfl, hcalm := fun _ => rfl, nd := S.nd, hG := ok.hG, room := fun _ => ⟨hr, hr.mono (by unfold lv; omega)⟩
      un := by
        have h1 := hr.un
        show (A.deeper (envOfC d.qual d.sc s.heap.objs.size a cdv)).units + 65 < cLine
        unfold lv at h1
        omega
      takes := takes_of rfl rfl rfl rfl
      free := ok.free, gls := ok.gls, ceq := rfl
      fns := ih
      own := ok.cls
      exc := fun C nm b ps up fs d2 hC => by
        obtain ⟨Ca, fI, fd2, t⟩ := ok.exc C nm b ps up fs d2 hC
        obtain ⟨v1, v2⟩ := ok.ve C nm b ps up fs d2 hC
        have hl : ps.length ≤ 100 := by
          have := t.ck
          cases b with
          | none => have := (chkXI_inv this.1).2.2.1; omega
          | some B => obtain ⟨_, _, _, _, _, _, _, z⟩ := this; have := (chkXI_inv z).2.2.1; omega
        exact ⟨Ca, fI, fd2, t.f, init_ok (P := P) (w := w) (base := base) v1 v2 ok.exc 8 (by omega) C nm b ps up fs d2 hC Ca fI fd2 t, t.bd, hl⟩
      stk := fun _ => ⟨rfl, rfl⟩
      xc := fun _ => ⟨ok.gx, rfl⟩
      xn := fun x h => by
        have h : G.x = some x := h
        rw [ok.gx] at h
        cases h
      xs := fun j C n h => nomatch h
      st := fun x h => ⟨by
        have h : (locB d.sc x || decide (d.sc.names.lookup x = some .cell)) = true := h
        rcases Bool.or_eq_true_iff.mp h with z | z
        · exact .inl (of_decide_eq_true z)
        · exact .inr (of_decide_eq_true z), .inl rfl⟩ }
  · obtain ⟨ρ, A, as, hr, hv, out⟩ := hsp
    have hl : as.length = d.ps.length := callN_len hd fun z => by rw [z] at out; exact out
    have out : Out K G ρ H E Q (match T.fns[f]? with | none => R.stuck | some d => if as.length = d.ps.length then retA (exSs (clOf T (callN T k)) (startA d.N.length as) d.body A) else .stuck) := out
    rw [hd] at out
    have out : Out K G ρ H E Q (if as.length = d.ps.length then retA (exSs (clOf T (callN T k)) (startA d.N.length as) d.body A) else .stuck) := out
    rw [if_pos hl] at out
    refine ⟨ρ, startA d.N.length as, A, startA_rel ok.gx hv _ _ rfl, hr, ?_⟩
    cases r : exSs (clOf T (callN T k)) (startA d.N.length as) d.body A with
    | nx s' A' => rw [r] at out; exact fun σ H' ρ' x hr' _ => out .non H' ρ' x hr' .non
    | rt v s' A' => rw [r] at out; exact out
    | exc C fs s' A' => rw [r] at out; exact fun cls d σ H' ρ' x hr' _ ex => out cls d H' ρ' x hr' ex
    | bk s' A' => rw [r] at out; exact False.elim out
    | ct s' A' => rw [r] at out; exact False.elim out
    | stuck => rw [r] at out; exact False.elim out
/-- every def keeps its promise, at every depth -/
theorem fn_all (ok : TbOk T K mg G) : ∀ (k f : Nat) d, T.fns[f]? = some d → FnG T K mg G (fun a fd sp => FnOk P w K mg base (L2.CX P w) (lv k) a fd d.ps sp) f d (callN T k f)
  | 0, f, d, hd => by
    obtain ⟨a, fd, dvs, kvs, k1, k2, k3, k4, k5⟩ := (ok.fns f d hd).ex
    refine ⟨a, fd, dvs, kvs, k1, k2, k3, ⟨fun vs H Q E h => spA_len hd h, fun A outer s H args us vs Q E hr e0 hb r hsp => ?_⟩, k5⟩
    obtain ⟨ρ, A, vs, hr, hv, out⟩ := hsp
    exact False.elim out
  | k + 1, f, d, hd => by
    obtain ⟨a, fd, dvs, kvs, k1, k2, k3, ⟨dv, kw, F⟩, k5⟩ := (ok.fns f d hd).ex
    exact ⟨a, fd, dvs, kvs, k1, k2, k3, fn_step ok hd F fun f d hd => fn_all ok k f d hd, k5⟩
theorem fn_law (ok : TbOk T K mg G) {k f : Nat} {d : FnT} (hd : T.fns[f]? = some d) {a : Addr} {fd : FuncData} {dv : List V} {kw : List (Str × V)} (F : FunD K d.name d.qual d.params d.src d.sc dv kw a fd) : FnOk P w K mg base (L2.CX P w) (lv (k + 1)) a fd d.ps (spA K G (callN T (k + 1) f)) :=
  fn_step ok hd F (fn_all ok k)
/-- the script handed in -/
theorem sp_script {k f : Nat} {a : Addr} {ns : List Int} {H : Hp} (hO : Only H) (hS : SqL K H a (ns.map V.int)) (h : ∃ A', callN T k f [.ref 0] [.ro (ns.map AV.int)] = .ok (.bl true) A') : spA K G (callN T k f) [.ref a] H (fun v _ => v = .bl true) fun _ _ _ => False := by
  obtain ⟨A', e⟩ := h
  refine ⟨[a], [.ro (ns.map AV.int)], [.ref 0], ⟨rfl, fun n o b e1 e2 => ?_, fun n m o o' b e1 e2 m1 m2 _ _ => ?_⟩, .cons (.ref rfl) .nil, ?_⟩
  · have hn : n < 1 := (List.getElem?_eq_some_iff.mp e1).1
    obtain rfl : n = 0 := by omega
    cases e1
    cases e2
    refine ⟨ns.map V.int, ?_, ?_⟩
    · have : ∀ l : List Int, AVrs K G [a] H (l.map AV.int) (l.map V.int) := fun l => by
        induction l with
        | nil => exact .nil
        | cons x xs ih => exact .cons (.int x) ih
      exact this ns
    · rcases hS with (h | h) | h
      · rcases hO a with z | ⟨o, xs, z⟩ <;> rw [z] at h <;> cases h
      · exact .inl h
      · exact .inr h
  · have hn : n < 1 := (List.getElem?_eq_some_iff.mp e1).1
    obtain rfl : n = 0 := by omega
    cases e1
    cases m1
  · rw [e]
    intro y H' ρ' x hr r
    cases r
    rfl
end
/-! ### constants of the module -/
def toV : Value → Option V
  | .none => some .non
  | .bool b => some (.bl b)
  | .int i _ => some (.int i)
  | .str x _ => some (.str x)
  | .ref a => some (.ref a)
  | _ => none
theorem toV_rel {u : Value} {y : V} (h : toV u = some y) : RelV y u := by
  cases u <;> first
    | cases h
    | skip
  · rfl
  · rfl
  · exact ⟨_, rfl⟩
  · exact ⟨_, rfl⟩
  · rfl
mutual
def avV (K : PySem.W.Frag) : AV → V → Bool
  | .non, y => (match y with | .non => true | _ => false)
  | .bl b, y => (match y with | .bl c => b == c | _ => false)
  | .int i, y => (match y with | .int j => decide (i = j) | _ => false)
  | .str x, y => (match y with | .str z => decide (x = z) | _ => false)
  | .tup vs, y => (match y with
    | .ref a => (match K.lookup a with
      | some ⟨.type c, _, .seq its _, _⟩ => decide (c = "tuple") && decide (its.size ≤ sizeLine) && avVs K vs its.toList
      | _ => false)
    | _ => false)
  | _, _ => false
def avVs (K : PySem.W.Frag) : List AV → List Value → Bool
  | [], us => us.isEmpty
  | v :: vs, us => (match us with
    | u :: us => (match toV u with | some y => avV K v y | none => false) && avVs K vs us
    | [] => false)
end
section
variable {K : PySem.W.Frag} {G : Gx}
mutual
theorem avV_ok : ∀ {v : AV} {y : V}, avV K v y = true → ∀ ρ H, AVr K G ρ H v y
  | .non, y, h, ρ, H => by
    simp only [avV] at h
    split at h
    · exact .non
    · cases h
  | .bl b, y, h, ρ, H => by
    simp only [avV] at h
    split at h
    · cases (eq_of_beq h); exact .bl b
    · cases h
  | .int i, y, h, ρ, H => by
    simp only [avV] at h
    split at h
    · cases (of_decide_eq_true h); exact .int i
    · cases h
  | .str x, y, h, ρ, H => by
    simp only [avV] at h
    split at h
    · cases (of_decide_eq_true h); exact .str x
    · cases h
  | .tup vs, y, h, ρ, H => by
    simp only [avV] at h
    split at h
    · rename_i a
      split at h
      · rename_i c od its n sl lk
        obtain ⟨h1, h2, h3⟩ := and3 h
        obtain ⟨ys, k1, k2⟩ := avVs_ok h3
        exact .tup (.inr ⟨_, its, n, lk, congrArg Value.type (of_decide_eq_true h1), rfl, of_decide_eq_true h2, k1⟩) (k2 ρ H)
      · cases h
    · cases h
  | .ref _, y, h, _, _ => by simp only [avV] at h; exact absurd h Bool.false_ne_true
  | .fn _, y, h, _, _ => by simp only [avV] at h; exact absurd h Bool.false_ne_true
theorem avVs_ok : ∀ {vs : List AV} {us : List Value}, avVs K vs us = true → ∃ ys, Vals ys us ∧ ∀ ρ H, AVrs K G ρ H vs ys
  | [], us, h => by
    simp only [avVs] at h
    cases us with
    | nil => exact ⟨[], .nil, fun _ _ => .nil⟩
    | cons _ _ => cases h
  | v :: vs, [], h => by simp only [avVs] at h; exact absurd h Bool.false_ne_true
  | v :: vs, u :: us, h => by
    simp only [avVs] at h
    obtain ⟨h1, h2⟩ := and2 h
    split at h1
    · rename_i y e
      obtain ⟨ys, k1, k2⟩ := avVs_ok h2
      exact ⟨y :: ys, .cons (toV_rel e) k1, fun ρ H => .cons (avV_ok h1 ρ H) (k2 ρ H)⟩
    · cases h1
end
theorem avV_all : ∀ {l : List (He.Dv × AV)}, (l.all fun q => avV K q.2 (q.1.v K)) = true → ∀ ρ H, AVrs K G ρ H (l.map (·.2)) (l.map fun q => q.1.v K)
  | [], _, _, _ => .nil
  | q :: l, h, ρ, H => by
    rw [List.all_cons] at h
    obtain ⟨h1, h2⟩ := and2 h
    exact .cons (avV_ok h1 ρ H) (avV_all h2 ρ H)
end
/-! ### the head's facts of the table -/
def FnT.dd (d : FnT) : He.DefD := ⟨d.at_, d.name, d.qual, d.params, d.src, d.sc, d.dfl.map (·.1), d.kwd.map fun q => (q.1, q.2.1)⟩
def gcB (K : PySem.W.Frag) (q : Str × AV) : Bool := match PySem.W.nsIn K mainGlobals q.1 with
  | some (some u) => (match toV u with
    | some y => avV K q.2 y
    | none => false)
  | _ => false
/-- what stands for a class number -/
def gnT (T : Tb) (K : PySem.W.Frag) : Gx := ⟨fun C => (T.cls[C]?).map fun t => V.ref (He.ga K t.name), none⟩
def insB (K : PySem.W.Frag) (C : Addr) : Bool := PySem.W.plainGet K C Str.empty && (PySem.W.hasDictIn K C && (PySem.W.plainOver K C && (decide (PySem.W.findIn K (.ref C) "__setattr__" = some (some (.builtin "object.__setattr__"))) &&
  (decide (PySem.W.findIn K (.ref C) "__class__" = some (some (.builtin "object.__class__"))) && (decide (PySem.W.specialIn K (.builtin "object.__class__") "__get__" = some (some (.builtin "getset_descriptor.__get__"))) && (decide (PySem.W.takesIn K (.builtin "object.__class__") = some true) &&
  (decide (PySem.W.mroIn K C (.type "object") = some true) && decide (PySem.W.kitOne K (.ref C) (.ref C) = some true))))))))
def oexB (K : PySem.W.Frag) (C : Addr) : Bool := (match K.lookup C with
    | some ⟨.type t, _, .cls cd, sl⟩ => decide (t = "type") && (match cd.mro, sl.toList with
      | .ref C' :: bm, [_, _, _, _, some (.builtin n), _] => decide (C' = C) && (decide (n = "ValueError.__new__") && (cd.hasDict && (!cd.hasDel && PySem.HandSPX.refsVE bm)))
      | _, _ => false)
    | _ => false) && (decide (PySem.W.findIn K (.ref C) "__setattr__" = some (some (.builtin "object.__setattr__"))) && (decide (PySem.W.subIn K (.ref C) (.type "BaseException") = some true) && (decide (PySem.W.typeIn K (.ref C) = some (.type "type")) && PySem.W.keepIn K (.ref C))))
def ecB (K : PySem.W.Frag) (D : Addr) : Bool := decide (PySem.W.findIn K (.ref D) "__getattribute__" = some (some (.builtin "BaseException.__getattribute__"))) && (decide (PySem.W.findIn K (.ref D) "__getattr__" = some none) && (decide (PySem.W.subIn K (.ref D) (.type "BaseException") = some true) && (PySem.W.hasDictIn K D &&
  (decide (PySem.W.findIn K (.ref D) "__class__" = some (some (.builtin "object.__class__"))) && (decide (PySem.W.specialIn K (.builtin "object.__class__") "__get__" = some (some (.builtin "getset_descriptor.__get__"))) && (decide (PySem.W.takesIn K (.builtin "object.__class__") = some true) && decide (PySem.W.mroIn K D (.type "object") = some true)))))))
def foundB (a : Addr) : Option PySem.W.CFound → Bool
  | some (.val (.ref b)) => decide (b = a)
  | _ => false
def foundV : Option PySem.W.CFound → Bool
  | some (.val (.builtin n)) => decide (n = "ValueError.__init__")
  | _ => false
def ciB (K : PySem.W.Frag) (C f : Addr) : Bool := PySem.W.readsIn K C (.type "type") && (decide (PySem.W.specialIn K (.ref C) "__getattribute__" = some (some (.builtin "type.__getattribute__"))) && (foundB f (PySem.W.findCls K (.ref C) (.type "type") "__init__") && (PySem.W.handedIn (.ref f) && PySem.W.keepIn K (.ref f))))
section
variable {K : PySem.W.Frag} {C f : Addr}
theorem insB_ok (h : insB K C = true) : C8.InsC K C := by
  obtain ⟨h1, h⟩ := and2 h
  obtain ⟨h2, h⟩ := and2 h
  obtain ⟨h3, h⟩ := and2 h
  obtain ⟨h4, h⟩ := and2 h
  obtain ⟨h5, h⟩ := and2 h
  obtain ⟨h6, h⟩ := and2 h
  obtain ⟨h7, h⟩ := and2 h
  obtain ⟨h8, h9⟩ := and2 h
  exact ⟨⟨h1, h2, h3, of_decide_eq_true h4⟩, of_decide_eq_true h5, of_decide_eq_true h6, of_decide_eq_true h7, of_decide_eq_true h8, of_decide_eq_true h9⟩
theorem oexB_ok (h : oexB K C = true) : OexC K C := by
  obtain ⟨h1, h⟩ := and2 h
  obtain ⟨h2, h⟩ := and2 h
  obtain ⟨h3, h⟩ := and2 h
  obtain ⟨h4, h5⟩ := and2 h
  refine ⟨?_, of_decide_eq_true h2, of_decide_eq_true h3, of_decide_eq_true h4, h5⟩
  split at h1
  · rename_i t dd cd sl ho
    obtain ⟨h0, h1⟩ := and2 h1
    cases (of_decide_eq_true h0)
    split at h1
    · rename_i C' bm k0 k1 k2 k3 n k5 hm hs
      simp only [Bool.and_eq_true, decide_eq_true_eq, Bool.not_eq_true'] at h1
      obtain ⟨-, rfl, rfl, e3, e4, e5⟩ := h1
      obtain ⟨nm, bs, mro, ns, qn, hd, sn, sub, ab, col, del⟩ := cd
      dsimp only at hm e3 e4
      subst hm e3 e4
      have hsl : sl = #[k0, k1, k2, k3, some (.builtin "ValueError.__new__"), k5] := by
        obtain ⟨l⟩ := sl
        simp only at hs
        rw [hs]
      subst hsl
      exact ⟨nm, qn, ns, bs, bm, sn, sub, ab, col, dd, k0, k1, k2, k3, k5, ho, e5⟩
    · cases h1
  · cases h1
theorem ecB_ok (h : ecB K C = true) : ExcC K C := by
  obtain ⟨h1, h⟩ := and2 h
  obtain ⟨h2, h⟩ := and2 h
  obtain ⟨h3, h⟩ := and2 h
  obtain ⟨h4, h⟩ := and2 h
  obtain ⟨h5, h⟩ := and2 h
  obtain ⟨h6, h⟩ := and2 h
  obtain ⟨h7, h8⟩ := and2 h
  exact ⟨of_decide_eq_true h1, of_decide_eq_true h2, of_decide_eq_true h3, h4, of_decide_eq_true h5, of_decide_eq_true h6, of_decide_eq_true h7, of_decide_eq_true h8⟩
theorem foundB_ok {o : Option PySem.W.CFound} (h : foundB f o = true) : o = some (.val (.ref f)) := by
  unfold foundB at h
  split at h
  · cases (of_decide_eq_true h); rfl
  · cases h
theorem foundV_ok {o : Option PySem.W.CFound} (h : foundV o = true) : o = some (.val (.builtin "ValueError.__init__")) := by
  unfold foundV at h
  split at h
  · cases (of_decide_eq_true h); rfl
  · cases h
theorem ciB_ok (h : ciB K C f = true) : CIni K C f := by
  obtain ⟨h1, h⟩ := and2 h
  obtain ⟨h2, h⟩ := and2 h
  obtain ⟨h3, h⟩ := and2 h
  obtain ⟨h4, h5⟩ := and2 h
  exact ⟨h1, of_decide_eq_true h2, foundB_ok h3, h4, h5⟩
end
def tyNms : List String := ["NoneType", "bool", "int", "str", "tuple", "list"]
/-- an own class's facts -/
def ownKB (T : Tb) (K : PySem.W.Frag) (C : Nat) (nm : Str) (fl : List Str) : Bool := (He.Fa.glo nm).ok K && (insB K (He.ga K nm) && ((fl.all fun f => decide (PySem.W.findIn K (.ref (He.ga K nm)) f = some none)) && ((T.cls.zipIdx.all fun q => match q.1 with
    | .own nm2 _ _ _ => decide (PySem.W.kitOne K (.ref (He.ga K nm)) (.ref (He.ga K nm2)) = some (decide (C = q.2))) && PySem.W.notFirst K (He.ga K nm) (.ref (He.ga K nm2))
    | _ => true) && ((tyNms.all fun t => decide (PySem.W.kitOne K (.type t) (.ref (He.ga K nm)) = some false) && PySem.W.notFirst K (He.ga K nm) (.type t)) && decide (PySem.W.findIn K (.ref (He.ga K nm)) "__format__" = some (some (.builtin "object.__format__")))))))
def mkB (T : Tb) (K : PySem.W.Frag) (nm : Str) (i : Nat) (ms : List (Str × Nat)) : Bool := (match T.fns[i]? with
    | some d => PySem.W.makesIn K (He.ga K nm) && (decide (PySem.W.findIn K (.ref (He.ga K nm)) "__init__" = some (some (.ref (He.fAd K d.at_)))) && (PySem.W.isFn K (.ref (He.fAd K d.at_)) && PySem.W.keepIn K (.ref (He.ga K nm))))
    | none => true) && ms.all fun q => match T.fns[q.2]? with
    | some d => decide (PySem.W.findIn K (.ref (He.ga K nm)) q.1 = some (some (.ref (He.fAd K d.at_)))) && (PySem.W.isFn K (.ref (He.fAd K d.at_)) && PySem.W.keepIn K (.ref (He.fAd K d.at_)))
    | none => true
def sbB (T : Tb) (K : PySem.W.Frag) (C : Nat) (Ca : Addr) (t : XN) : Bool := match subT T.cls C t with
  | none => true
  | some b => (match xnV (gnT T K) t with
    | some u => decide (PySem.W.exmOne K (.ref Ca) u = some b) && decide (PySem.W.kitOne K (.ref Ca) u = some b)
    | none => false)
def excKB (T : Tb) (K : PySem.W.Frag) (C : Nat) (nm : Str) (b : Option Nat) (ps : List Str) (up : List XE) (fs : List (Str × XE)) (d : FnT) : Bool := (He.Fa.glo nm).ok K && (oexB K (He.ga K nm) && (L2.xfB K (He.ga K nm) && (ecB K (He.ga K nm) && (decide (PySem.W.findIn K (.ref (He.ga K nm)) "__init__" = some (some (.ref (He.fAd K d.at_)))) &&
  (decide (PySem.W.typeIn K (.ref (He.fAd K d.at_)) = some (.type "function")) && (ciB K (He.ga K nm) (He.fAd K d.at_) && ((T.xfl.all fun f => decide (PySem.W.findIn K (.ref (He.ga K nm)) f = some none)) && (sbB T K C (He.ga K nm) .ve && (List.range T.cls.length).all fun D => sbB T K C (He.ga K nm) (.own D)))))))))
def ctKB (T : Tb) (K : PySem.W.Frag) (C : Nat) : CT → Bool
  | .own nm i ms fl => ownKB T K C nm fl && mkB T K nm i ms
  | .exc nm b ps up fs d => excKB T K C nm b ps up fs d && foundV (PySem.W.findCls K (.type "ValueError") (.type "type") "__init__")
/-- the text alone: exceptions' __init__ -/
def ctB (T : Tb) : CT → Bool
  | .own _ _ _ _ => true
  | .exc _ b ps up fs d => scopeB d.N d.ps d.sc && (T.free.contains "ValueError" && (match b with
    | none => chkXI "ValueError" ps up fs d && !fs.isEmpty
    | some B => (match T.cls[B]? with
      | some (.exc nm2 _ _ _ _ _) => chkXI nm2 ps up fs d
      | _ => false)))
/-- the rest of the head's facts -/
def exB (T : Tb) (K : PySem.W.Frag) : Bool := (T.gls.all fun q => gcB K q) && ((T.fns.all fun d => (d.dfl.all fun q => avV K q.2 (q.1.v K)) && (d.kwd.all fun q => avV K q.2.2 (q.2.1.v K))) && T.cls.zipIdx.all fun q => ctKB T K q.2 q.1)
def Tb.fa (T : Tb) : List He.Fa := (T.fns.filter fun d => d.at_.2.isNone).map (fun d => He.Fa.glo d.at_.1) ++ T.free.map He.Fa.free
def Tb.dd (T : Tb) : List He.DefD := (T.fns ++ T.xds).map FnT.dd
/-- the part of the heap that is looked at -/
def asK (n : Nat) (g : Addr → Option Obj) : PySem.W.Frag := He.frG g (cStatics :: He.asD g n)
def hookM (n : Nat) (T : Tb) : PySem.W.Hook where
  α := He.AlD × Bool
  obs := fun s => (He.obsD T.fa T.dd (asK n s.heap.get?), exB T (asK n s.heap.get?))
  val := fun _ => (He.valD T.dd, true)
  says := fun _ h => ∃ K : PySem.W.Frag, K.In h ∧ He.SaysD T.fa T.dd K ∧ exB T K = true
  of := fun _ _ e => ⟨_, He.frG_in, congrArg (fun z : He.AlD × Bool => z.1) e, congrArg (fun z : He.AlD × Bool => z.2) e⟩
  keeps := fun _ _ _ ⟨K, hK, c⟩ k => ⟨K, PySem.W.Frag.In.keeps hK k, c⟩
def obM (n : Nat) (T : Tb) (s : PySem.W.SharedT) : He.AlD × Bool := (He.obsD T.fa T.dd (asK n (HandSHeadRun.getT s)), exB T (asK n (HandSHeadRun.getT s)))
theorem obM_eq (n : Nat) (T : Tb) (s : PySem.W.SharedT) : obM n T s = (hookM n T).obs s.abs := by
  have e : HandSHeadRun.getT s = s.abs.heap.get? := funext (HandSHeadRun.getT_eq s)
  unfold obM
  rw [e]
  rfl
/-- what calls bind -/
def BindOk (d : FnT) : Prop := ∀ (K : PySem.W.Frag) (a : Addr) (fd : FuncData), FunD K d.name d.qual d.params d.src d.sc (d.dd.dvs K) (d.dd.kws K) a fd →
  (d.plain = true → Binds K fd d.ps []) ∧ ∀ m ∈ d.forms, ∃ g, KBn K fd d.ps m.n m.ks g fun ys zs => arrG m.arr ys (d.dd.dvs K) (m.ms.filterMap (((d.dd.kws K).map (·.2))[·]?)) zs
theorem zipIdx_all {α : Type} {l : List α} {p : α × Nat → Bool} (h : (l.zipIdx.all p) = true) {i : Nat} {x : α} (e : l[i]? = some x) : p (x, i) = true := by
  refine List.all_eq_true.mp h (x, i) ?_
  rw [List.mem_zipIdx_iff_getElem?]
  exact e
section
variable {T : Tb} {K : PySem.W.Frag} {mg : Str → Option Value} {h : Heap}
theorem gn_at {C : Nat} {t : CT} (e : T.cls[C]? = some t) : (gnT T K).fn C = some (.ref (He.ga K t.name)) := by
  show (T.cls[C]?).map _ = _
  rw [e]; rfl
theorem own_facts (X : K.In h) (G : h.Ns mainGlobals mg) {C : Nat} {nm : Str} {i : Nat} {ms : List (Str × Nat)} {fl : List Str} (hC : T.cls[C]? = some (.own nm i ms fl)) (h : ownKB T K C nm fl = true) : OwnF T K mg (gnT T K) C nm ms fl := by
  obtain ⟨h1, h⟩ := and2 h
  obtain ⟨h2, h⟩ := and2 h
  obtain ⟨h3, h⟩ := and2 h
  obtain ⟨h4, h⟩ := and2 h
  obtain ⟨h5, h6⟩ := and2 h
  have g : (gnT T K).fn C = some (.ref (He.ga K nm)) := gn_at hC
  have key : ∀ (D : Nat) nm2 i2 ms2 fl2, T.cls[D]? = some (.own nm2 i2 ms2 fl2) → (gnT T K).fn D = some (.ref (He.ga K nm2)) ∧ PySem.W.kitOne K (.ref (He.ga K nm)) (.ref (He.ga K nm2)) = some (decide (C = D)) ∧ PySem.W.notFirst K (He.ga K nm) (.ref (He.ga K nm2)) = true := fun D nm2 i2 ms2 fl2 hD => by
    obtain ⟨k1, k2⟩ := and2 (zipIdx_all h4 hD)
    exact ⟨gn_at hD, of_decide_eq_true k1, k2⟩
  refine ⟨⟨_, g, He.glo_ok X G h1, insB_ok h2, fun f hf => (show PySem.W.findIn K (.ref (He.ga K nm)) f = some none from of_decide_eq_true (List.all_eq_true.mp h3 f hf)), fun D nm2 i2 ms2 fl2 hD => ⟨_, (key D _ _ _ _ hD).1, (key D _ _ _ _ hD).2.1⟩⟩,
    ⟨_, g, fun t ht => ?_, fun D nm2 i2 ms2 fl2 hD => ⟨_, (key D _ _ _ _ hD).1, (key D _ _ _ _ hD).2.2⟩, of_decide_eq_true h6⟩⟩
  obtain ⟨k1, k2⟩ := and2 (List.all_eq_true.mp h5 t ht)
  exact ⟨of_decide_eq_true k1, k2⟩
theorem exc_facts (X : K.In h) (G : h.Ns mainGlobals mg) {C : Nat} {nm : Str} {b : Option Nat} {ps : List Str} {up : List XE} {fs : List (Str × XE)} {d : FnT} (hC : T.cls[C]? = some (.exc nm b ps up fs d)) (h : excKB T K C nm b ps up fs d = true) : ExcF T K mg (gnT T K) C nm (He.ga K nm) (He.fAd K d.at_) := by
  obtain ⟨h1, h⟩ := and2 h
  obtain ⟨h2, h⟩ := and2 h
  obtain ⟨h3, h⟩ := and2 h
  obtain ⟨h4, h⟩ := and2 h
  obtain ⟨h5, h⟩ := and2 h
  obtain ⟨h6, h⟩ := and2 h
  obtain ⟨h7, h⟩ := and2 h
  obtain ⟨h8, h⟩ := and2 h
  obtain ⟨h9, h10⟩ := and2 h
  refine ⟨gn_at hC, He.glo_ok X G h1, oexB_ok h2, xfB_ok h3, ecB_ok h4, of_decide_eq_true h5, of_decide_eq_true h6, ciB_ok h7, fun f hf => of_decide_eq_true (List.all_eq_true.mp h8 f hf), fun t b2 ht => ?_⟩
  have fin : sbB T K C (He.ga K nm) t = true → ∃ u, xnV (gnT T K) t = some u ∧ PySem.W.exmOne K (.ref (He.ga K nm)) u = some b2 ∧ PySem.W.kitOne K (.ref (He.ga K nm)) u = some b2 := fun hs => by
    unfold sbB at hs
    rw [ht] at hs
    have hs : (match xnV (gnT T K) t with
      | some u => decide (PySem.W.exmOne K (.ref (He.ga K nm)) u = some b2) && decide (PySem.W.kitOne K (.ref (He.ga K nm)) u = some b2)
      | none => false) = true := hs
    split at hs
    · rename_i u eu
      obtain ⟨k1, k2⟩ := and2 hs
      exact ⟨u, eu, of_decide_eq_true k1, of_decide_eq_true k2⟩
    · cases hs
  cases t with
  | ve => exact fin h9
  | own D =>
    refine fin (List.all_eq_true.mp h10 D (List.mem_range.mpr ?_))
    have : ∃ t2, T.cls[D]? = some t2 := by
      cases q : T.cls[D]? with
      | some t2 => exact ⟨t2, rfl⟩
      | none =>
        unfold subT at ht
        rw [hC] at ht
        simp only [q] at ht
        cases ht
    obtain ⟨t2, e⟩ := this
    exact (List.getElem?_eq_some_iff.mp e).1
end
/-- names and places of the table -/
def atB (T : Tb) : Bool := T.cls.all fun t => ctB T t
theorem xds_mem {T : Tb} {C : Nat} {nm : Str} {b : Option Nat} {ps : List Str} {up : List XE} {fs : List (Str × XE)} {d : FnT} (hC : T.cls[C]? = some (.exc nm b ps up fs d)) : d ∈ T.xds := by
  unfold Tb.xds
  exact List.mem_filterMap.mpr ⟨_, List.mem_of_getElem? hC, rfl⟩
theorem tb_ok {T : Tb} {K : PySem.W.Frag} {mg : Str → Option Value} {h : Heap} (X : K.In h) (G : h.Ns mainGlobals mg) (c : He.SaysD T.fa T.dd K) (ex : exB T K = true) (hat : atB T = true) (hb : ∀ d ∈ T.fns ++ T.xds, BindOk d) (hown : (T.fns.all fun d => fnB T d) = true) : TbOk T K mg (gnT T K) where
  hG := fun g z e => by
    have e : (T.cls[g]?).map (fun t => V.ref (He.ga K t.name)) = some z := e
    cases q : T.cls[g]? with
    | none => rw [q] at e; cases e
    | some t => rw [q] at e; cases e; exact ⟨_, rfl⟩
  gx := rfl
  free := fun x hx => He.free_ok X G (c.facts (List.mem_append_right _ (List.mem_map.mpr ⟨x, by simpa using hx, rfl⟩)))
  gls := fun g x v e => by
    obtain ⟨ex1, ex2⟩ := and2 ex
    have k := List.all_eq_true.mp ex1 (x, v) (List.mem_of_getElem? e)
    unfold gcB at k
    split at k
    · rename_i u e1
      split at k
      · rename_i y e2
        exact ⟨u, y, PySem.W.mg_of X G e1, toV_rel e2, fun ρ H => avV_ok k ρ H⟩
      · cases k
    · cases k
  fns := fun f d hd => by
    have hm : d ∈ T.fns := List.mem_of_getElem? hd
    obtain ⟨fd, F⟩ := c.defs (d := d.dd) (List.mem_map.mpr ⟨d, List.mem_append_left _ hm, rfl⟩)
    have F : FunD K d.name d.qual d.params d.src d.sc (d.dd.dvs K) (d.dd.kws K) (He.fAd K d.at_) fd := F
    obtain ⟨ex1, ex2, ex3⟩ : (T.gls.all fun q => gcB K q) = true ∧ (T.fns.all fun d => (d.dfl.all fun q => avV K q.2 (q.1.v K)) && (d.kwd.all fun q => avV K q.2.2 (q.2.1.v K))) = true ∧ (T.cls.zipIdx.all fun q => ctKB T K q.2 q.1) = true := by
      obtain ⟨a1, a2⟩ := and2 ex
      exact ⟨a1, and2 a2⟩
    obtain ⟨e1, e2⟩ := and2 (List.all_eq_true.mp ex2 d hm)
    obtain ⟨b1, b2⟩ := hb d (List.mem_append_left _ hm) K _ fd F
    refine ⟨He.fAd K d.at_, fd, d.dd.dvs K, (d.dd.kws K).map (·.2), fun hz => ?_, F.kp, b1, ⟨_, _, F⟩, ?_, ?_, b2, fun C hC => ?_, fun C m hC => ?_⟩
    · have h1 : He.fAd K d.at_ = He.ga K d.name := by rw [hz]; rfl
      rw [h1]
      exact He.glo_ok X G (c.facts (List.mem_append_left _ (List.mem_map.mpr ⟨d, List.mem_filter.mpr ⟨hm, by rw [hz]; rfl⟩, by rw [hz]⟩)))
    · have : d.dd.dvs K = d.dfl.map fun q => q.1.v K := by
        show (d.dfl.map (·.1)).map (He.Dv.v K) = _
        rw [List.map_map]; rfl
      rw [this]
      exact avV_all e1
    · have h1 : (d.dd.kws K).map (·.2) = (d.kwd.map fun q => (q.2.1, q.2.2)).map fun q => q.1.v K := by
        show ((d.kwd.map fun q => (q.1, q.2.1)).map fun q => (q.1, q.2.v K)).map (·.2) = _
        rw [List.map_map, List.map_map, List.map_map]; rfl
      have h2 : d.kvs = (d.kwd.map fun q => (q.2.1, q.2.2)).map (·.2) := by
        show d.kwd.map (·.2.2) = _
        rw [List.map_map]; rfl
      rw [h1, h2]
      exact avV_all (by rw [List.all_map]; exact e2)
    · unfold Tb.initN at hC
      split at hC
      · rename_i nm i ms fl q
        cases hC
        have k : ctKB T K C (.own nm f ms fl) = true := zipIdx_all ex3 q
        obtain ⟨_, k⟩ := and2 k
        obtain ⟨k, _⟩ := and2 k
        rw [hd] at k
        obtain ⟨k1, k⟩ := and2 k
        obtain ⟨k2, k⟩ := and2 k
        obtain ⟨k3, k4⟩ := and2 k
        exact ⟨_, gn_at q, k1, of_decide_eq_true k2, k3, k4⟩
      · cases hC
    · unfold Tb.methN at hC
      split at hC
      · rename_i nm i ms fl q
        have k : ctKB T K C (.own nm i ms fl) = true := zipIdx_all ex3 q
        obtain ⟨_, k⟩ := and2 k
        obtain ⟨_, k⟩ := and2 k
        have k := List.all_eq_true.mp k (m, f) (List.lookup_eq_some_iff.mp hC |> fun ⟨l1, l2, e, _⟩ => by rw [e]; simp)
        rw [hd] at k
        obtain ⟨k1, k⟩ := and2 k
        obtain ⟨k2, k3⟩ := and2 k
        exact ⟨_, gn_at q, of_decide_eq_true k1, k2, k3⟩
      · cases hC
  own := fun f d hd => List.all_eq_true.mp hown d (List.mem_of_getElem? hd)
  cls := fun C nm i ms fl hC => by
    have k : ctKB T K C (.own nm i ms fl) = true := zipIdx_all (and2 (and2 ex).2).2 hC
    exact own_facts X G hC (and2 k).1
  exc := fun C nm b ps up fs d hC => by
    have k : ctKB T K C (.exc nm b ps up fs d) = true := zipIdx_all (and2 (and2 ex).2).2 hC
    have hm : d ∈ T.xds := xds_mem hC
    obtain ⟨fd, F⟩ := c.defs (d := d.dd) (List.mem_map.mpr ⟨d, List.mem_append_right _ hm, rfl⟩)
    have F : FunD K d.name d.qual d.params d.src d.sc (d.dd.dvs K) (d.dd.kws K) (He.fAd K d.at_) fd := F
    have t := List.all_eq_true.mp hat _ (List.mem_of_getElem? hC)
    obtain ⟨t1, t⟩ := and2 t
    obtain ⟨t2, t3⟩ := and2 t
    have pl : d.plain = true := by
      have : ∀ {bn : Str}, chkXI bn ps up fs d = true → d.plain = true := fun {bn} z => by
        unfold chkXI at z
        obtain ⟨z, _⟩ := and2 z
        obtain ⟨z, _⟩ := and2 z
        obtain ⟨z, _⟩ := and2 z
        obtain ⟨z, _⟩ := and2 z
        obtain ⟨z, _⟩ := and2 z
        obtain ⟨z, _⟩ := and2 z
        exact (and2 z).2
      cases b with
      | none => exact this (and2 t3).1
      | some B =>
        have t3 : (match T.cls[B]? with
          | some (.exc nm2 _ _ _ _ _) => chkXI nm2 ps up fs d
          | _ => false) = true := t3
        split at t3
        · exact this t3
        · cases t3
    refine ⟨_, _, fd, exc_facts X G hC (and2 k).1, ⟨_, _, F⟩, (hb d (List.mem_append_right _ hm) K _ fd F).1 pl, t1, ?_, fun f hf => ?_⟩
    · cases b with
      | none => exact ⟨(and2 t3).1, by have := (and2 t3).2; simpa using this⟩
      | some B =>
        have t3 : (match T.cls[B]? with
          | some (.exc nm2 _ _ _ _ _) => chkXI nm2 ps up fs d
          | _ => false) = true := t3
        split at t3
        · rename_i nm2 b2 ps2 up2 fs2 d2 q
          exact ⟨nm2, b2, ps2, up2, fs2, d2, q, t3⟩
        · cases t3
    · unfold Tb.xfl
      exact List.mem_flatMap.mpr ⟨_, List.mem_of_getElem? hC, hf⟩
  ve := fun C nm b ps up fs d hC => by
    have k : ctKB T K C (.exc nm b ps up fs d) = true := zipIdx_all (and2 (and2 ex).2).2 hC
    have t := List.all_eq_true.mp hat _ (List.mem_of_getElem? hC)
    obtain ⟨t1, t⟩ := and2 t
    obtain ⟨t2, t3⟩ := and2 t
    exact ⟨He.free_ok X G (c.facts (List.mem_append_right _ (List.mem_map.mpr ⟨_, by simpa using t2, rfl⟩))), foundV_ok (and2 k).2⟩
/-- a def without defaults, called by place -/
theorem bind_plain {d : FnT} (h1 : d.dfl = []) (h3 : d.forms = []) (h : ∀ (kV doc pm : Value) (an : Option Addr) (cdv ct : Value) (us : List Value), us.length = d.ps.length → bindArgs (PySem.W.fnOf d.name d.qual d.params d.src d.sc .none kV doc pm an cdv ct) ⟨us, []⟩ = pure (d.ps.zip us)) : BindOk d := fun K a fd F => by
  have e : d.dd.dvs K = [] := by
    show (d.dfl.map (·.1)).map (He.Dv.v K) = []
    rw [h1]; rfl
  rw [e] at F
  exact ⟨fun _ => F.bindsN h, fun m hm => by rw [h3] at hm; cases hm⟩
theorem pick_map {α β : Type} (f : α → β) (xs : List α) : ∀ l : List Nat, (l.filterMap (xs[·]?)).map f = l.filterMap ((xs.map f)[·]?)
  | [] => rfl
  | i :: l => by
    rw [List.filterMap_cons, List.filterMap_cons, List.getElem?_map]
    have ih := pick_map f xs l
    cases q : xs[i]? with
    | none => simpa using ih
    | some v => simpa using ih
theorem arrV {vs ds ms ws : List V} {us its mv zs : List Value} (h1 : Vals vs us) (h2 : Vals ds its) (h3 : Vals ms mv) (h4 : Vals ws zs) : ∀ arr : List Ar, Vals (arrG arr vs ds ms ws) (arrG arr us its mv zs)
  | [] => .nil
  | a :: arr => by
    have ih := arrV h1 h2 h3 h4 arr
    have key : ∀ {xs : List V} {ys : List Value} (i : Nat), Vals xs ys → (∃ v y, xs[i]? = some v ∧ ys[i]? = some y ∧ RelV v y) ∨ (xs[i]? = none ∧ ys[i]? = none) := fun {xs ys} i hx => by
      cases q : xs[i]? with
      | some v =>
        obtain ⟨y, e, r⟩ := hx.get q
        exact .inl ⟨v, y, rfl, e, r⟩
      | none => exact .inr ⟨rfl, hx.none_of q⟩
    unfold arrG at ih ⊢
    rw [List.filterMap_cons, List.filterMap_cons]
    cases a with
    | pos i =>
      rcases key i h1 with ⟨v, y, e1, e2, r⟩ | ⟨e1, e2⟩
      · simp only [e1, e2]; exact .cons r ih
      · simp only [e1, e2]; exact ih
    | kw i =>
      rcases key i h4 with ⟨v, y, e1, e2, r⟩ | ⟨e1, e2⟩
      · simp only [e1, e2]; exact .cons r ih
      · simp only [e1, e2]; exact ih
    | dfl i =>
      rcases key i h2 with ⟨v, y, e1, e2, r⟩ | ⟨e1, e2⟩
      · simp only [e1, e2]; exact .cons r ih
      · simp only [e1, e2]; exact ih
    | kwd i =>
      rcases key i h3 with ⟨v, y, e1, e2, r⟩ | ⟨e1, e2⟩
      · simp only [e1, e2]; exact .cons r ih
      · simp only [e1, e2]; exact ih
/-- keyword-only defaults, no others -/
theorem bind_kw0 {d : FnT} (h1 : d.dfl = []) (hp : d.plain = false) (hk : d.kwd ≠ []) (h : ∀ m ∈ d.forms, ∀ (D : Addr) (doc pm : Value) (an : Option Addr) (cdv ct : Value) (us mv ws : List Value), us.length = m.n → mv.length = (m.ms.filterMap (d.kwd[·]?)).length → ws.length = m.ks.length →
    KwChain D ((m.ms.filterMap ((d.kwd.map (·.1))[·]?)).zip mv) (bindArgs (PySem.W.fnOf d.name d.qual d.params d.src d.sc .none (.ref D) doc pm an cdv ct) ⟨us, m.ks.zip ws⟩) (d.ps.zip (arrG m.arr us [] mv ws))) : BindOk d := fun K a fd F => by
  have e : d.dd.dvs K = [] := by
    show (d.dfl.map (·.1)).map (He.Dv.v K) = []
    rw [h1]; rfl
  have ek : d.dd.kws K = d.kwd.map fun q => (q.1, q.2.1.v K) := by
    show (d.kwd.map fun q => (q.1, q.2.1)).map (fun q => (q.1, q.2.v K)) = _
    rw [List.map_map]; rfl
  rw [e] at F
  refine ⟨fun z => (by rw [hp] at z; cases z), fun m hm => ?_⟩
  have nm : (m.ms.filterMap ((d.dd.kws K)[·]?)).map (·.1) = m.ms.filterMap ((d.kwd.map (·.1))[·]?) := by
    rw [pick_map, ek, List.map_map]; rfl
  have ln : (m.ms.filterMap ((d.dd.kws K)[·]?)).length = (m.ms.filterMap (d.kwd[·]?)).length := by
    rw [ek, ← pick_map, List.length_map]
  obtain ⟨mv, hk⟩ := FunD.kbinds0 (ps := d.ps) F m.n m.ks (m.ms.filterMap ((d.dd.kws K)[·]?)) (fun {α} us mv ws => arrG m.arr us [] mv ws) (by rw [ek]; intro z; exact hk (List.map_eq_nil_iff.mp z))
    (fun q hq => by
      obtain ⟨i, _, e⟩ := List.mem_filterMap.mp hq
      exact List.mem_of_getElem? e) (fun r1 r2 r3 => arrV r1 .nil r2 r3 m.arr) fun D doc pm an cdv ct us mv ws l1 l2 l3 => by
      rw [nm]
      exact h m hm D doc pm an cdv ct us mv ws l1 (by rw [l2, ln]) l3
  refine ⟨fun us ws => arrG m.arr us [] mv ws, ?_⟩
  rw [e, ← pick_map (·.2) (d.dd.kws K) m.ms]
  exact hk
/-- THE END: a law whose walk is the evaluator's -/
theorem law_walk {l : PySem.W.OpenLaw} {n : Nat} {q : Program} {loose : List Str} {d : DefRec} {T : Tb} {dl : FnT} {f k : Nat} {kn : Nat} {x : Str} (hn : l.most = some n) (hn2 : n ≤ sizeLine) (hdf : d.params.defaults = []) (hr : Room (lv (k + 1)) callerA)
    (hd : T.fns[f]? = some dl) (hdn : d.name = dl.name) (hps : dl.ps = [x]) (hdfl : dl.dfl = []) (hz : dl.at_ = (dl.name, none))
    (hb1 : ∀ (kV doc pm : Value) (an : Option Addr) (cdv ct : Value) (us : List Value), us.length = dl.ps.length → bindArgs (PySem.W.fnOf dl.name dl.qual dl.params dl.src dl.sc .none kV doc pm an cdv ct) ⟨us, []⟩ = pure (dl.ps.zip us))
    (hat : atB T = true) (hb : ∀ d ∈ T.fns ++ T.xds, BindOk d) (hown : (T.fns.all fun d => fnB T d) = true)
    (law : ∀ ns : List Int, ns.length ≤ n → ∃ A', callN T (k + 1) f [.ref 0] [.ro (ns.map AV.int)] = .ok (.bl true) A') :
    PySem.W.WalkO q loose (PySem.W.XL q []) (hookM kn T).says l.row.toRowW d [] (fun f vs => PySem.call f vs) := by
  refine L2.walk_ofE (l := l) (n := n) (k := lv (k + 1)) (x := x) (CX := fun outer H s E e s' => ∃ w, L2.CX l.prog w outer H s E e s') hn hn2 hdf hr (fun w mg fa h Y G hmg0 => ?_) (fun H s e s' z => ?_)
  · obtain ⟨K, KX, c, ex⟩ := Y
    have ok := tb_ok KX G c ex hat hb hown
    have hm : dl ∈ T.fns := List.mem_of_getElem? hd
    obtain ⟨fd, F⟩ := c.defs (d := dl.dd) (List.mem_map.mpr ⟨dl, List.mem_append_left _ hm, rfl⟩)
    have F : FunD K dl.name dl.qual dl.params dl.src dl.sc (dl.dd.dvs K) (dl.dd.kws K) (He.fAd K dl.at_) fd := F
    have ed : dl.dd.dvs K = [] := by
      show (dl.dfl.map (·.1)).map (He.Dv.v K) = []
      rw [hdfl]; rfl
    have F' := F
    rw [ed] at F'
    have hga : mg dl.name = some (.ref (He.fAd K dl.at_)) := by
      have h1 : He.fAd K dl.at_ = He.ga K dl.name := by rw [hz]; rfl
      rw [h1]
      exact He.glo_ok KX G (c.facts (List.mem_append_left _ (List.mem_map.mpr ⟨dl, List.mem_filter.mpr ⟨hm, by rw [hz]; rfl⟩, by rw [hz]⟩)))
    have ea : fa = He.fAd K dl.at_ := by
      rw [hdn, hga] at hmg0
      cases (Option.some.inj hmg0)
      rfl
    subst ea
    refine ⟨K, fd, spA K (gnT T K) (callN T (k + 1) f), KX, fun s u => ?_, fun H a ns hl hO hS => sp_script hO hS (law ns hl), fun base hKb hGb => ?_⟩
    · have b := FunD.bindsA (ps := dl.ps) F' hb1 s [u] (by rw [hps]; rfl)
      rw [hps] at b
      exact b
    · have z := fn_law (P := l.prog) (w := w) (base := base) ok hd (k := k) F
      rw [hps] at z
      refine ⟨z.len, fun A outer s H args us vs Q E hr e0 hb r h => codeAny_mono (z.run A outer s H args us vs Q E hr e0 hb r h) fun r s' hq => ?_⟩
      match r, hq with
      | .error e, hq => exact ⟨w, hq⟩
      | .ok (.ret u), hq => exact hq
  · obtain ⟨w, z⟩ := z
    obtain ⟨_, _, _, _, _, _, _, _, _, _, _, _, z⟩ := z
    exact z
end MP

set_option maxRecDepth 100000
set_option autoImplicit false
set_option maxHeartbeats 1000000
/-! MQ1: the evaluator, reasoned about: the while loop by turns, symbolic steps. -/
namespace MP
open PySem
/-- a step that simp takes by its proof, not by computing -/
theorem ofEq {α : Sort _} {a b : α} (h : a = b) : a = b := h

section
variable {test : AS → AH → R AV} {body : AS → AH → F}
/-- one turn of a while loop, the rest by g -/
def whlT (test : AS → AH → R AV) (body : AS → AH → F) (g : AS → AH → F) (s : AS) (A : AH) : F := (test s A).fl s fun v A => match truA A v with
    | none => .stuck
    | some false => .nx s A
    | some true => match body s A with
      | .nx s' A' => g s' A'
      | .ct s' A' => g s' A'
      | .bk s' A' => .nx s' A'
      | r => r
theorem whlL_succ (m : Nat) (s : AS) (A : AH) : whlL test body (m + 1) s A = whlT test body (whlL test body m) s A := rfl
theorem whlT_mono {g g' : AS → AH → F} (h : ∀ s A, g s A ≠ .stuck → g' s A = g s A) {s : AS} {A : AH} (hs : whlT test body g s A ≠ .stuck) : whlT test body g' s A = whlT test body g s A := by
  unfold whlT at hs ⊢
  cases e1 : test s A with
  | exc C fs A1 => rfl
  | stuck => rfl
  | ok v A1 =>
    rw [e1] at hs
    simp only [R.fl] at hs ⊢
    cases e2 : truA A1 v with
    | none => rfl
    | some b =>
      cases b with
      | false => rfl
      | true =>
        simp only [e2] at hs ⊢
        cases e3 : body s A1 with
        | nx s' A' => simp only [e3] at hs ⊢; exact h _ _ hs
        | ct s' A' => simp only [e3] at hs ⊢; exact h _ _ hs
        | _ => rfl
theorem whlL_mono : ∀ (m : Nat) (s : AS) (A : AH), whlL test body m s A ≠ .stuck → whlL test body (m + 1) s A = whlL test body m s A
  | 0, _, _, h => absurd rfl h
  | m + 1, s, A, h => by
    rw [whlL_succ] at h
    rw [whlL_succ (m + 1), whlL_succ m]
    exact whlT_mono (fun s A hs => whlL_mono m s A hs) h
theorem whlL_le {m n : Nat} (h : m ≤ n) {s : AS} {A : AH} (hs : whlL test body m s A ≠ .stuck) : whlL test body n s A = whlL test body m s A := by
  induction n with
  | zero => obtain rfl : m = 0 := by omega
            rfl
  | succ n ih =>
    by_cases e : m = n + 1
    · subst e; rfl
    · have i := ih (by omega)
      rw [whlL_mono n s A (by rw [i]; exact hs), i]
theorem whlW_of {m : Nat} {s : AS} {A : AH} (h : whlL test body m s A ≠ .stuck) : whlW test body s A = whlL test body m s A := by
  unfold whlW
  have hx : ∃ m, whlL test body m s A ≠ .stuck := ⟨m, h⟩
  rw [dif_pos hx]
  rcases Nat.le_total m hx.choose with z | z
  · exact whlL_le z h
  · exact (whlL_le z hx.choose_spec).symm
theorem whlW_stuck {s : AS} {A : AH} (h : ∀ m, whlL test body m s A = .stuck) : whlW test body s A = .stuck := by
  unfold whlW
  rw [dif_neg]
  rintro ⟨m, hm⟩
  exact hm (h m)
/-- the while loop by its first turn -/
theorem whlW_eq (s : AS) (A : AH) : whlW test body s A = whlT test body (whlW test body) s A := by
  by_cases hx : ∃ m, whlL test body m s A ≠ .stuck
  · obtain ⟨m, hm⟩ := hx
    cases m with
    | zero => exact absurd rfl hm
    | succ m =>
      rw [whlW_of hm, whlL_succ]
      rw [whlL_succ] at hm
      exact (whlT_mono (fun s A hs => whlW_of hs) hm).symm
  · have hz : ∀ m, whlL test body m s A = .stuck := fun m => Classical.byContradiction fun h => hx ⟨m, h⟩
    rw [whlW_stuck hz]
    unfold whlT
    have key : ∀ m, whlT test body (whlL test body m) s A = .stuck := fun m => by rw [← whlL_succ]; exact hz (m + 1)
    unfold whlT at key
    cases e1 : test s A with
    | exc C fs A1 => have := key 0; rw [e1] at this; exact this.symm
    | stuck => rfl
    | ok v A1 =>
      rw [e1] at key
      simp only [R.fl] at key ⊢
      cases e2 : truA A1 v with
      | none => rfl
      | some b =>
        cases b with
        | false => have := key 0; simp only [e2] at this; cases this
        | true =>
          simp only [e2] at key ⊢
          cases e3 : body s A1 with
          | nx s' A' => simp only [e3] at key ⊢; exact (whlW_stuck key).symm
          | ct s' A' => simp only [e3] at key ⊢; exact (whlW_stuck key).symm
          | bk s' A' => have := key 0; simp only [e3] at this; cases this
          | rt v s' A' => have := key 0; simp only [e3] at this; cases this
          | exc C fs s' A' => have := key 0; simp only [e3] at this; cases this
          | stuck => rfl
end
/-! ### steps for simp -/
/-- a branch by a test's value -/
def brF (o : Option Bool) (x y : F) : F := match o with
  | some true => x
  | some false => y
  | none => .stuck
def brR {α : Type} (o : Option Bool) (x y : R α) : R α := match o with
  | some true => x
  | some false => y
  | none => .stuck
@[simp] theorem brF_t (x y : F) : brF (some true) x y = x := ofEq rfl
@[simp] theorem brF_f (x y : F) : brF (some false) x y = y := ofEq rfl
@[simp] theorem brF_n (x y : F) : brF none x y = .stuck := ofEq rfl
@[simp] theorem brF_dec (p : Prop) [Decidable p] (x y : F) : brF (some (decide p)) x y = if p then x else y := by by_cases h : p <;> simp [h, brF]
@[simp] theorem brF_not (b : Bool) (x y : F) : brF (some (!b)) x y = brF (some b) y x := by cases b <;> rfl
@[simp] theorem brF_and (a b : Bool) (x y : F) : brF (some (a && b)) x y = brF (some a) (brF (some b) x y) y := by cases a <;> cases b <;> rfl
@[simp] theorem brF_or (a b : Bool) (x y : F) : brF (some (a || b)) x y = brF (some a) x (brF (some b) x y) := by cases a <;> cases b <;> rfl
@[simp] theorem brF_beq (a b : Bool) (x y : F) : brF (some (a == b)) x y = if a = b then x else y := by cases a <;> cases b <;> rfl
@[simp] theorem brR_beq {α : Type} (a b : Bool) (x y : R α) : brR (some (a == b)) x y = if a = b then x else y := by cases a <;> cases b <;> rfl
@[simp] theorem brR_t {α : Type} (x y : R α) : brR (some true) x y = x := ofEq rfl
@[simp] theorem brR_f {α : Type} (x y : R α) : brR (some false) x y = y := ofEq rfl
@[simp] theorem brR_n {α : Type} (x y : R α) : brR none x y = .stuck := ofEq rfl
@[simp] theorem brR_dec {α : Type} (p : Prop) [Decidable p] (x y : R α) : brR (some (decide p)) x y = if p then x else y := by by_cases h : p <;> simp [h, brR]
@[simp] theorem brR_not {α : Type} (b : Bool) (x y : R α) : brR (some (!b)) x y = brR (some b) y x := by cases b <;> rfl
@[simp] theorem brR_and {α : Type} (a b : Bool) (x y : R α) : brR (some (a && b)) x y = brR (some a) (brR (some b) x y) y := by cases a <;> cases b <;> rfl
@[simp] theorem brR_or {α : Type} (a b : Bool) (x y : R α) : brR (some (a || b)) x y = brR (some a) x (brR (some b) x y) := by cases a <;> cases b <;> rfl
@[simp] theorem clOf_call {T : Tb} {call : Nat → List AV → AH → R AV} : (clOf T call).call = call := ofEq rfl
@[simp] theorem clOf_gl {T : Tb} {call : Nat → List AV → AH → R AV} (g : Nat) : (clOf T call).gl g = (T.gls[g]?).map (·.2) := ofEq rfl
@[simp] theorem clOf_form {T : Tb} {call : Nat → List AV → AH → R AV} : (clOf T call).form = T.form := ofEq rfl
@[simp] theorem bind_ok {α β : Type} (a : α) (A : AH) (f : α → AH → R β) : (R.ok a A).bind f = f a A := ofEq rfl
@[simp] theorem bind_exc {α β : Type} (C : Nat) (fs : List (Str × AV)) (A : AH) (f : α → AH → R β) : (R.exc C fs A).bind f = .exc C fs A := ofEq rfl
@[simp] theorem bind_stuck {α β : Type} (f : α → AH → R β) : (R.stuck : R α).bind f = .stuck := ofEq rfl
@[simp] theorem fl_ok {α : Type} (s : AS) (a : α) (A : AH) (f : α → AH → F) : (R.ok a A).fl s f = f a A := ofEq rfl
@[simp] theorem fl_exc {α : Type} (s : AS) (C : Nat) (fs : List (Str × AV)) (A : AH) (f : α → AH → F) : (R.exc C fs A).fl s f = .exc C fs s A := ofEq rfl
@[simp] theorem fl_stuck {α : Type} (s : AS) (f : α → AH → F) : (R.stuck : R α).fl s f = .stuck := ofEq rfl
@[simp] theorem andThen_nx (s : AS) (A : AH) (f : AS → AH → F) : (F.nx s A).andThen f = f s A := ofEq rfl
@[simp] theorem andThen_rt (v : AV) (s : AS) (A : AH) (f : AS → AH → F) : (F.rt v s A).andThen f = .rt v s A := ofEq rfl
@[simp] theorem andThen_exc (C : Nat) (fs : List (Str × AV)) (s : AS) (A : AH) (f : AS → AH → F) : (F.exc C fs s A).andThen f = .exc C fs s A := ofEq rfl
@[simp] theorem andThen_bk (s : AS) (A : AH) (f : AS → AH → F) : (F.bk s A).andThen f = .bk s A := ofEq rfl
@[simp] theorem andThen_ct (s : AS) (A : AH) (f : AS → AH → F) : (F.ct s A).andThen f = .ct s A := ofEq rfl
@[simp] theorem andThen_stuck (f : AS → AH → F) : F.stuck.andThen f = .stuck := ofEq rfl
@[simp] theorem andThen_ite {p : Prop} [Decidable p] (a b : F) (f : AS → AH → F) : (if p then a else b).andThen f = if p then a.andThen f else b.andThen f := by split <;> rfl
@[simp] theorem retA_ite {p : Prop} [Decidable p] (a b : F) : retA (if p then a else b) = if p then retA a else retA b := by split <;> rfl
@[simp] theorem bind_ite {α β : Type} {p : Prop} [Decidable p] (a b : R α) (f : α → AH → R β) : (if p then a else b).bind f = if p then a.bind f else b.bind f := by split <;> rfl
@[simp] theorem fl_ite {α : Type} {p : Prop} [Decidable p] (s : AS) (a b : R α) (f : α → AH → F) : (if p then a else b).fl s f = if p then a.fl s f else b.fl s f := by split <;> rfl
@[simp] theorem retA_nx (s : AS) (A : AH) : retA (.nx s A) = .ok .non A := ofEq rfl
@[simp] theorem retA_rt (v : AV) (s : AS) (A : AH) : retA (.rt v s A) = .ok v A := ofEq rfl
@[simp] theorem retA_exc (C : Nat) (fs : List (Str × AV)) (s : AS) (A : AH) : retA (.exc C fs s A) = .exc C fs A := ofEq rfl
@[simp] theorem retA_stuck : retA .stuck = .stuck := ofEq rfl
@[simp] theorem optR_some {α : Type} (A : AH) (a : α) : optR A (some a) = .ok a A := ofEq rfl
@[simp] theorem optR_none {α : Type} (A : AH) : optR A (none : Option α) = .stuck := ofEq rfl
@[simp] theorem blR_some (A : AH) (b : Bool) : blR A (some b) = .ok (.bl b) A := ofEq rfl
@[simp] theorem blR_none (A : AH) : blR A none = .stuck := ofEq rfl
section
variable {A : AH}
/-- the value of a slot -/
def slotR (o : Option (Option AV)) (A : AH) : R AV := match o with
  | some (some v) => .ok v A
  | _ => .stuck
@[simp] theorem slotR_ok (v : AV) : slotR (some (some v)) A = .ok v A := ofEq rfl
end
def binK2 (o : BO) (v : AV) (r : R AV) : R AV := match r with
  | .ok w A => opA A o v w
  | .exc C fs A => .exc C fs A
  | .stuck => .stuck
theorem binK2_eq (o : BO) (v : AV) (r : R AV) : binK2 o v r = r.bind fun w A => opA A o v w := by cases r <;> rfl
@[simp] theorem binK2_ok (o : BO) (v : AV) (w : AV) (A : AH) : binK2 o v (.ok w A) = opA A o v w := ofEq rfl
@[simp] theorem binK2_exc (o : BO) (v : AV) (C : Nat) (fs : List (Str × AV)) (A : AH) : binK2 o v (.exc C fs A) = .exc C fs A := ofEq rfl
@[simp] theorem binK2_stuck (o : BO) (v : AV) : binK2 o v .stuck = .stuck := ofEq rfl
@[simp] theorem binK2_ite (o : BO) (v : AV) {pp : Prop} [Decidable pp] (r1 r2 : R AV) : binK2 o v (if pp then r1 else r2) = if pp then binK2 o v r1 else binK2 o v r2 := by split <;> rfl
def binK (c : Cl) (s : AS) (o : BO) (b : ME) (r : R AV) : R AV := match r with
  | .ok v A => binK2 o v (evE c s b A)
  | .exc C fs A => .exc C fs A
  | .stuck => .stuck
theorem binK_eq (c : Cl) (s : AS) (o : BO) (b : ME) (r : R AV) : binK c s o b r = r.bind fun v A => binK2 o v (evE c s b A) := by cases r <;> rfl
@[simp] theorem binK_ok (c : Cl) (s : AS) (o : BO) (b : ME) (v : AV) (A : AH) : binK c s o b (.ok v A) = binK2 o v (evE c s b A) := ofEq rfl
@[simp] theorem binK_exc (c : Cl) (s : AS) (o : BO) (b : ME) (C : Nat) (fs : List (Str × AV)) (A : AH) : binK c s o b (.exc C fs A) = .exc C fs A := ofEq rfl
@[simp] theorem binK_stuck (c : Cl) (s : AS) (o : BO) (b : ME) : binK c s o b .stuck = .stuck := ofEq rfl
@[simp] theorem binK_ite (c : Cl) (s : AS) (o : BO) (b : ME) {pp : Prop} [Decidable pp] (r1 r2 : R AV) : binK c s o b (if pp then r1 else r2) = if pp then binK c s o b r1 else binK c s o b r2 := by split <;> rfl
def negR (A : AH) : AV → R AV
  | .int i => .ok (.int (-i)) A
  | _ => .stuck
@[simp] theorem negR_int (A : AH) (i : Int) : negR A (.int i) = .ok (.int (-i)) A := ofEq rfl
def negK  (r : R AV) : R AV := match r with
  | .ok v A => negR A v
  | .exc C fs A => .exc C fs A
  | .stuck => .stuck
theorem negK_eq  (r : R AV) : negK  r = r.bind fun v A => negR A v := by cases r <;> rfl
@[simp] theorem negK_ok  (v : AV) (A : AH) : negK  (.ok v A) = negR A v := ofEq rfl
@[simp] theorem negK_exc  (C : Nat) (fs : List (Str × AV)) (A : AH) : negK  (.exc C fs A) = .exc C fs A := ofEq rfl
@[simp] theorem negK_stuck  : negK  .stuck = .stuck := ofEq rfl
@[simp] theorem negK_ite  {pp : Prop} [Decidable pp] (r1 r2 : R AV) : negK  (if pp then r1 else r2) = if pp then negK  r1 else negK  r2 := by split <;> rfl
def notK  (r : R AV) : R AV := match r with
  | .ok v A => blR A ((truA A v).map (!·))
  | .exc C fs A => .exc C fs A
  | .stuck => .stuck
theorem notK_eq  (r : R AV) : notK  r = r.bind fun v A => blR A ((truA A v).map (!·)) := by cases r <;> rfl
@[simp] theorem notK_ok  (v : AV) (A : AH) : notK  (.ok v A) = blR A ((truA A v).map (!·)) := ofEq rfl
@[simp] theorem notK_exc  (C : Nat) (fs : List (Str × AV)) (A : AH) : notK  (.exc C fs A) = .exc C fs A := ofEq rfl
@[simp] theorem notK_stuck  : notK  .stuck = .stuck := ofEq rfl
@[simp] theorem notK_ite  {pp : Prop} [Decidable pp] (r1 r2 : R AV) : notK  (if pp then r1 else r2) = if pp then notK  r1 else notK  r2 := by split <;> rfl
def cmpK2 (o : CO) (v : AV) (r : R AV) : R AV := match r with
  | .ok w A => blR A (cmpA A o v w)
  | .exc C fs A => .exc C fs A
  | .stuck => .stuck
theorem cmpK2_eq (o : CO) (v : AV) (r : R AV) : cmpK2 o v r = r.bind fun w A => blR A (cmpA A o v w) := by cases r <;> rfl
@[simp] theorem cmpK2_ok (o : CO) (v : AV) (w : AV) (A : AH) : cmpK2 o v (.ok w A) = blR A (cmpA A o v w) := ofEq rfl
@[simp] theorem cmpK2_exc (o : CO) (v : AV) (C : Nat) (fs : List (Str × AV)) (A : AH) : cmpK2 o v (.exc C fs A) = .exc C fs A := ofEq rfl
@[simp] theorem cmpK2_stuck (o : CO) (v : AV) : cmpK2 o v .stuck = .stuck := ofEq rfl
@[simp] theorem cmpK2_ite (o : CO) (v : AV) {pp : Prop} [Decidable pp] (r1 r2 : R AV) : cmpK2 o v (if pp then r1 else r2) = if pp then cmpK2 o v r1 else cmpK2 o v r2 := by split <;> rfl
def cmpK (c : Cl) (s : AS) (o : CO) (b : ME) (r : R AV) : R AV := match r with
  | .ok v A => cmpK2 o v (evE c s b A)
  | .exc C fs A => .exc C fs A
  | .stuck => .stuck
theorem cmpK_eq (c : Cl) (s : AS) (o : CO) (b : ME) (r : R AV) : cmpK c s o b r = r.bind fun v A => cmpK2 o v (evE c s b A) := by cases r <;> rfl
@[simp] theorem cmpK_ok (c : Cl) (s : AS) (o : CO) (b : ME) (v : AV) (A : AH) : cmpK c s o b (.ok v A) = cmpK2 o v (evE c s b A) := ofEq rfl
@[simp] theorem cmpK_exc (c : Cl) (s : AS) (o : CO) (b : ME) (C : Nat) (fs : List (Str × AV)) (A : AH) : cmpK c s o b (.exc C fs A) = .exc C fs A := ofEq rfl
@[simp] theorem cmpK_stuck (c : Cl) (s : AS) (o : CO) (b : ME) : cmpK c s o b .stuck = .stuck := ofEq rfl
@[simp] theorem cmpK_ite (c : Cl) (s : AS) (o : CO) (b : ME) {pp : Prop} [Decidable pp] (r1 r2 : R AV) : cmpK c s o b (if pp then r1 else r2) = if pp then cmpK c s o b r1 else cmpK c s o b r2 := by split <;> rfl
/-- the second comparison of a chain -/
def chnR (c : Cl) (s : AS) (p : CO) (w : AV) (d : ME) (A : AH) (o : Option Bool) : R AV := match o with
  | some true => cmpK2 p w (evE c s d A)
  | some false => .ok (.bl false) A
  | none => .stuck
@[simp] theorem chnR_t (c : Cl) (s : AS) (p : CO) (w : AV) (d : ME) (A : AH) : chnR c s p w d A (some true) = cmpK2 p w (evE c s d A) := ofEq rfl
@[simp] theorem chnR_f (c : Cl) (s : AS) (p : CO) (w : AV) (d : ME) (A : AH) : chnR c s p w d A (some false) = .ok (.bl false) A := ofEq rfl
@[simp] theorem chnR_dec (c : Cl) (s : AS) (p : CO) (w : AV) (d : ME) (A : AH) (q : Prop) [Decidable q] : chnR c s p w d A (some (decide q)) = if q then cmpK2 p w (evE c s d A) else .ok (.bl false) A := by by_cases h : q <;> simp [h]
def cmp2K2 (c : Cl) (s : AS) (o p : CO) (v : AV) (d : ME) (r : R AV) : R AV := match r with
  | .ok w A => chnR c s p w d A (cmpA A o v w)
  | .exc C fs A => .exc C fs A
  | .stuck => .stuck
theorem cmp2K2_eq (c : Cl) (s : AS) (o p : CO) (v : AV) (d : ME) (r : R AV) : cmp2K2 c s o p v d r = r.bind fun w A => chnR c s p w d A (cmpA A o v w) := by cases r <;> rfl
@[simp] theorem cmp2K2_ok (c : Cl) (s : AS) (o p : CO) (v : AV) (d : ME) (w : AV) (A : AH) : cmp2K2 c s o p v d (.ok w A) = chnR c s p w d A (cmpA A o v w) := ofEq rfl
@[simp] theorem cmp2K2_exc (c : Cl) (s : AS) (o p : CO) (v : AV) (d : ME) (C : Nat) (fs : List (Str × AV)) (A : AH) : cmp2K2 c s o p v d (.exc C fs A) = .exc C fs A := ofEq rfl
@[simp] theorem cmp2K2_stuck (c : Cl) (s : AS) (o p : CO) (v : AV) (d : ME) : cmp2K2 c s o p v d .stuck = .stuck := ofEq rfl
@[simp] theorem cmp2K2_ite (c : Cl) (s : AS) (o p : CO) (v : AV) (d : ME) {pp : Prop} [Decidable pp] (r1 r2 : R AV) : cmp2K2 c s o p v d (if pp then r1 else r2) = if pp then cmp2K2 c s o p v d r1 else cmp2K2 c s o p v d r2 := by split <;> rfl
def cmp2K (c : Cl) (s : AS) (o p : CO) (b d : ME) (r : R AV) : R AV := match r with
  | .ok v A => cmp2K2 c s o p v d (evE c s b A)
  | .exc C fs A => .exc C fs A
  | .stuck => .stuck
theorem cmp2K_eq (c : Cl) (s : AS) (o p : CO) (b d : ME) (r : R AV) : cmp2K c s o p b d r = r.bind fun v A => cmp2K2 c s o p v d (evE c s b A) := by cases r <;> rfl
@[simp] theorem cmp2K_ok (c : Cl) (s : AS) (o p : CO) (b d : ME) (v : AV) (A : AH) : cmp2K c s o p b d (.ok v A) = cmp2K2 c s o p v d (evE c s b A) := ofEq rfl
@[simp] theorem cmp2K_exc (c : Cl) (s : AS) (o p : CO) (b d : ME) (C : Nat) (fs : List (Str × AV)) (A : AH) : cmp2K c s o p b d (.exc C fs A) = .exc C fs A := ofEq rfl
@[simp] theorem cmp2K_stuck (c : Cl) (s : AS) (o p : CO) (b d : ME) : cmp2K c s o p b d .stuck = .stuck := ofEq rfl
@[simp] theorem cmp2K_ite (c : Cl) (s : AS) (o p : CO) (b d : ME) {pp : Prop} [Decidable pp] (r1 r2 : R AV) : cmp2K c s o p b d (if pp then r1 else r2) = if pp then cmp2K c s o p b d r1 else cmp2K c s o p b d r2 := by split <;> rfl
/-- a branch by syntax -/
def ifeR (c : Cl) (s : AS) (a b : ME) (A : AH) (o : Option Bool) : R AV := match o with
  | some true => evE c s a A
  | some false => evE c s b A
  | none => .stuck
@[simp] theorem ifeR_t (c : Cl) (s : AS) (a b : ME) (A : AH) : ifeR c s a b A (some true) = evE c s a A := ofEq rfl
@[simp] theorem ifeR_f (c : Cl) (s : AS) (a b : ME) (A : AH) : ifeR c s a b A (some false) = evE c s b A := ofEq rfl
@[simp] theorem ifeR_dec (c : Cl) (s : AS) (a b : ME) (A : AH) (q : Prop) [Decidable q] : ifeR c s a b A (some (decide q)) = if q then evE c s a A else evE c s b A := by by_cases h : q <;> simp [h]
@[simp] theorem ifeR_not (c : Cl) (s : AS) (a b : ME) (A : AH) (q : Bool) : ifeR c s a b A (some (!q)) = ifeR c s b a A (some q) := by cases q <;> rfl
def bopR (c : Cl) (s : AS) (k : Bool) (es : MEs) (v : AV) (A : AH) (o : Option Bool) : R AV := match o with
  | some t => if t == k then evB c s k es A else .ok v A
  | none => .stuck
@[simp] theorem bopR_tt (c : Cl) (s : AS) (es : MEs) (v : AV) (A : AH) : bopR c s true es v A (some true) = evB c s true es A := ofEq rfl
@[simp] theorem bopR_tf (c : Cl) (s : AS) (es : MEs) (v : AV) (A : AH) : bopR c s true es v A (some false) = .ok v A := ofEq rfl
@[simp] theorem bopR_ft (c : Cl) (s : AS) (es : MEs) (v : AV) (A : AH) : bopR c s false es v A (some true) = .ok v A := ofEq rfl
@[simp] theorem bopR_ff (c : Cl) (s : AS) (es : MEs) (v : AV) (A : AH) : bopR c s false es v A (some false) = evB c s false es A := ofEq rfl
@[simp] theorem bopR_td (c : Cl) (s : AS) (es : MEs) (v : AV) (A : AH) (q : Prop) [Decidable q] : bopR c s true es v A (some (decide q)) = if q then evB c s true es A else .ok v A := by by_cases h : q <;> simp [h]
@[simp] theorem bopR_fd (c : Cl) (s : AS) (es : MEs) (v : AV) (A : AH) (q : Prop) [Decidable q] : bopR c s false es v A (some (decide q)) = if q then .ok v A else evB c s false es A := by by_cases h : q <;> simp [h]
def ifeK (c : Cl) (s : AS) (a b : ME) (r : R AV) : R AV := match r with
  | .ok v A => ifeR c s a b A (truA A v)
  | .exc C fs A => .exc C fs A
  | .stuck => .stuck
theorem ifeK_eq (c : Cl) (s : AS) (a b : ME) (r : R AV) : ifeK c s a b r = r.bind fun v A => ifeR c s a b A (truA A v) := by cases r <;> rfl
@[simp] theorem ifeK_ok (c : Cl) (s : AS) (a b : ME) (v : AV) (A : AH) : ifeK c s a b (.ok v A) = ifeR c s a b A (truA A v) := ofEq rfl
@[simp] theorem ifeK_exc (c : Cl) (s : AS) (a b : ME) (C : Nat) (fs : List (Str × AV)) (A : AH) : ifeK c s a b (.exc C fs A) = .exc C fs A := ofEq rfl
@[simp] theorem ifeK_stuck (c : Cl) (s : AS) (a b : ME) : ifeK c s a b .stuck = .stuck := ofEq rfl
@[simp] theorem ifeK_ite (c : Cl) (s : AS) (a b : ME) {pp : Prop} [Decidable pp] (r1 r2 : R AV) : ifeK c s a b (if pp then r1 else r2) = if pp then ifeK c s a b r1 else ifeK c s a b r2 := by split <;> rfl
def bopK (c : Cl) (s : AS) (k : Bool) (es : MEs) (r : R AV) : R AV := match r with
  | .ok v A => bopR c s k es v A (truA A v)
  | .exc C fs A => .exc C fs A
  | .stuck => .stuck
theorem bopK_eq (c : Cl) (s : AS) (k : Bool) (es : MEs) (r : R AV) : bopK c s k es r = r.bind fun v A => bopR c s k es v A (truA A v) := by cases r <;> rfl
@[simp] theorem bopK_ok (c : Cl) (s : AS) (k : Bool) (es : MEs) (v : AV) (A : AH) : bopK c s k es (.ok v A) = bopR c s k es v A (truA A v) := ofEq rfl
@[simp] theorem bopK_exc (c : Cl) (s : AS) (k : Bool) (es : MEs) (C : Nat) (fs : List (Str × AV)) (A : AH) : bopK c s k es (.exc C fs A) = .exc C fs A := ofEq rfl
@[simp] theorem bopK_stuck (c : Cl) (s : AS) (k : Bool) (es : MEs) : bopK c s k es .stuck = .stuck := ofEq rfl
@[simp] theorem bopK_ite (c : Cl) (s : AS) (k : Bool) (es : MEs) {pp : Prop} [Decidable pp] (r1 r2 : R AV) : bopK c s k es (if pp then r1 else r2) = if pp then bopK c s k es r1 else bopK c s k es r2 := by split <;> rfl
def tupK  (r : R (List AV)) : R AV := match r with
  | .ok vs A => if vs.length ≤ sizeLine then .ok (.tup vs) A else .stuck
  | .exc C fs A => .exc C fs A
  | .stuck => .stuck
theorem tupK_eq  (r : R (List AV)) : tupK  r = r.bind fun vs A => if vs.length ≤ sizeLine then .ok (.tup vs) A else .stuck := by cases r <;> rfl
@[simp] theorem tupK_ok  (vs : (List AV)) (A : AH) : tupK  (.ok vs A) = if vs.length ≤ sizeLine then .ok (.tup vs) A else .stuck := ofEq rfl
@[simp] theorem tupK_exc  (C : Nat) (fs : List (Str × AV)) (A : AH) : tupK  (.exc C fs A) = .exc C fs A := ofEq rfl
@[simp] theorem tupK_stuck  : tupK  .stuck = .stuck := ofEq rfl
@[simp] theorem tupK_ite  {pp : Prop} [Decidable pp] (r1 r2 : R (List AV)) : tupK  (if pp then r1 else r2) = if pp then tupK  r1 else tupK  r2 := by split <;> rfl
def lstK  (r : R (List AV)) : R AV := match r with
  | .ok vs A => newL A vs
  | .exc C fs A => .exc C fs A
  | .stuck => .stuck
theorem lstK_eq  (r : R (List AV)) : lstK  r = r.bind fun vs A => newL A vs := by cases r <;> rfl
@[simp] theorem lstK_ok  (vs : (List AV)) (A : AH) : lstK  (.ok vs A) = newL A vs := ofEq rfl
@[simp] theorem lstK_exc  (C : Nat) (fs : List (Str × AV)) (A : AH) : lstK  (.exc C fs A) = .exc C fs A := ofEq rfl
@[simp] theorem lstK_stuck  : lstK  .stuck = .stuck := ofEq rfl
@[simp] theorem lstK_ite  {pp : Prop} [Decidable pp] (r1 r2 : R (List AV)) : lstK  (if pp then r1 else r2) = if pp then lstK  r1 else lstK  r2 := by split <;> rfl
def idxK2 (v : AV) (r : R AV) : R AV := match r with
  | .ok w A => optR A (idxA A v w)
  | .exc C fs A => .exc C fs A
  | .stuck => .stuck
theorem idxK2_eq (v : AV) (r : R AV) : idxK2 v r = r.bind fun w A => optR A (idxA A v w) := by cases r <;> rfl
@[simp] theorem idxK2_ok (v : AV) (w : AV) (A : AH) : idxK2 v (.ok w A) = optR A (idxA A v w) := ofEq rfl
@[simp] theorem idxK2_exc (v : AV) (C : Nat) (fs : List (Str × AV)) (A : AH) : idxK2 v (.exc C fs A) = .exc C fs A := ofEq rfl
@[simp] theorem idxK2_stuck (v : AV) : idxK2 v .stuck = .stuck := ofEq rfl
@[simp] theorem idxK2_ite (v : AV) {pp : Prop} [Decidable pp] (r1 r2 : R AV) : idxK2 v (if pp then r1 else r2) = if pp then idxK2 v r1 else idxK2 v r2 := by split <;> rfl
def idxK (c : Cl) (s : AS) (b : ME) (r : R AV) : R AV := match r with
  | .ok v A => idxK2 v (evE c s b A)
  | .exc C fs A => .exc C fs A
  | .stuck => .stuck
theorem idxK_eq (c : Cl) (s : AS) (b : ME) (r : R AV) : idxK c s b r = r.bind fun v A => idxK2 v (evE c s b A) := by cases r <;> rfl
@[simp] theorem idxK_ok (c : Cl) (s : AS) (b : ME) (v : AV) (A : AH) : idxK c s b (.ok v A) = idxK2 v (evE c s b A) := ofEq rfl
@[simp] theorem idxK_exc (c : Cl) (s : AS) (b : ME) (C : Nat) (fs : List (Str × AV)) (A : AH) : idxK c s b (.exc C fs A) = .exc C fs A := ofEq rfl
@[simp] theorem idxK_stuck (c : Cl) (s : AS) (b : ME) : idxK c s b .stuck = .stuck := ofEq rfl
@[simp] theorem idxK_ite (c : Cl) (s : AS) (b : ME) {pp : Prop} [Decidable pp] (r1 r2 : R AV) : idxK c s b (if pp then r1 else r2) = if pp then idxK c s b r1 else idxK c s b r2 := by split <;> rfl
def callK (c : Cl) (f : Nat) (r : R (List AV)) : R AV := match r with
  | .ok vs A => c.call f vs A
  | .exc C fs A => .exc C fs A
  | .stuck => .stuck
theorem callK_eq (c : Cl) (f : Nat) (r : R (List AV)) : callK c f r = r.bind fun vs A => c.call f vs A := by cases r <;> rfl
@[simp] theorem callK_ok (c : Cl) (f : Nat) (vs : (List AV)) (A : AH) : callK c f (.ok vs A) = c.call f vs A := ofEq rfl
@[simp] theorem callK_exc (c : Cl) (f : Nat) (C : Nat) (fs : List (Str × AV)) (A : AH) : callK c f (.exc C fs A) = .exc C fs A := ofEq rfl
@[simp] theorem callK_stuck (c : Cl) (f : Nat) : callK c f .stuck = .stuck := ofEq rfl
@[simp] theorem callK_ite (c : Cl) (f : Nat) {pp : Prop} [Decidable pp] (r1 r2 : R (List AV)) : callK c f (if pp then r1 else r2) = if pp then callK c f r1 else callK c f r2 := by split <;> rfl
def formR (c : Cl) (f : Nat) (A : AH) (o : Option (List AV)) : R AV := match o with
  | some zs => c.call f zs A
  | none => .stuck
@[simp] theorem formR_some (c : Cl) (f : Nat) (A : AH) (zs : List AV) : formR c f A (some zs) = c.call f zs A := ofEq rfl
def callkK2 (c : Cl) (f fm : Nat) (vs : List AV) (r : R (List AV)) : R AV := match r with
  | .ok ws A => formR c f A (c.form f fm vs ws)
  | .exc C fs A => .exc C fs A
  | .stuck => .stuck
theorem callkK2_eq (c : Cl) (f fm : Nat) (vs : List AV) (r : R (List AV)) : callkK2 c f fm vs r = r.bind fun ws A => formR c f A (c.form f fm vs ws) := by cases r <;> rfl
@[simp] theorem callkK2_ok (c : Cl) (f fm : Nat) (vs : List AV) (ws : (List AV)) (A : AH) : callkK2 c f fm vs (.ok ws A) = formR c f A (c.form f fm vs ws) := ofEq rfl
@[simp] theorem callkK2_exc (c : Cl) (f fm : Nat) (vs : List AV) (C : Nat) (fs : List (Str × AV)) (A : AH) : callkK2 c f fm vs (.exc C fs A) = .exc C fs A := ofEq rfl
@[simp] theorem callkK2_stuck (c : Cl) (f fm : Nat) (vs : List AV) : callkK2 c f fm vs .stuck = .stuck := ofEq rfl
@[simp] theorem callkK2_ite (c : Cl) (f fm : Nat) (vs : List AV) {pp : Prop} [Decidable pp] (r1 r2 : R (List AV)) : callkK2 c f fm vs (if pp then r1 else r2) = if pp then callkK2 c f fm vs r1 else callkK2 c f fm vs r2 := by split <;> rfl
def callkK (c : Cl) (s : AS) (f fm : Nat) (kes : MEs) (r : R (List AV)) : R AV := match r with
  | .ok vs A => callkK2 c f fm vs (evs c s kes A)
  | .exc C fs A => .exc C fs A
  | .stuck => .stuck
theorem callkK_eq (c : Cl) (s : AS) (f fm : Nat) (kes : MEs) (r : R (List AV)) : callkK c s f fm kes r = r.bind fun vs A => callkK2 c f fm vs (evs c s kes A) := by cases r <;> rfl
@[simp] theorem callkK_ok (c : Cl) (s : AS) (f fm : Nat) (kes : MEs) (vs : (List AV)) (A : AH) : callkK c s f fm kes (.ok vs A) = callkK2 c f fm vs (evs c s kes A) := ofEq rfl
@[simp] theorem callkK_exc (c : Cl) (s : AS) (f fm : Nat) (kes : MEs) (C : Nat) (fs : List (Str × AV)) (A : AH) : callkK c s f fm kes (.exc C fs A) = .exc C fs A := ofEq rfl
@[simp] theorem callkK_stuck (c : Cl) (s : AS) (f fm : Nat) (kes : MEs) : callkK c s f fm kes .stuck = .stuck := ofEq rfl
@[simp] theorem callkK_ite (c : Cl) (s : AS) (f fm : Nat) (kes : MEs) {pp : Prop} [Decidable pp] (r1 r2 : R (List AV)) : callkK c s f fm kes (if pp then r1 else r2) = if pp then callkK c s f fm kes r1 else callkK c s f fm kes r2 := by split <;> rfl
def bltK (b : BF) (r : R (List AV)) : R AV := match r with
  | .ok vs A => bltA A b vs
  | .exc C fs A => .exc C fs A
  | .stuck => .stuck
theorem bltK_eq (b : BF) (r : R (List AV)) : bltK b r = r.bind fun vs A => bltA A b vs := by cases r <;> rfl
@[simp] theorem bltK_ok (b : BF) (vs : (List AV)) (A : AH) : bltK b (.ok vs A) = bltA A b vs := ofEq rfl
@[simp] theorem bltK_exc (b : BF) (C : Nat) (fs : List (Str × AV)) (A : AH) : bltK b (.exc C fs A) = .exc C fs A := ofEq rfl
@[simp] theorem bltK_stuck (b : BF) : bltK b .stuck = .stuck := ofEq rfl
@[simp] theorem bltK_ite (b : BF) {pp : Prop} [Decidable pp] (r1 r2 : R (List AV)) : bltK b (if pp then r1 else r2) = if pp then bltK b r1 else bltK b r2 := by split <;> rfl
def bmK2 (m : BM) (v : AV) (r : R (List AV)) : R AV := match r with
  | .ok vs A => bmA A m v vs
  | .exc C fs A => .exc C fs A
  | .stuck => .stuck
theorem bmK2_eq (m : BM) (v : AV) (r : R (List AV)) : bmK2 m v r = r.bind fun vs A => bmA A m v vs := by cases r <;> rfl
@[simp] theorem bmK2_ok (m : BM) (v : AV) (vs : (List AV)) (A : AH) : bmK2 m v (.ok vs A) = bmA A m v vs := ofEq rfl
@[simp] theorem bmK2_exc (m : BM) (v : AV) (C : Nat) (fs : List (Str × AV)) (A : AH) : bmK2 m v (.exc C fs A) = .exc C fs A := ofEq rfl
@[simp] theorem bmK2_stuck (m : BM) (v : AV) : bmK2 m v .stuck = .stuck := ofEq rfl
@[simp] theorem bmK2_ite (m : BM) (v : AV) {pp : Prop} [Decidable pp] (r1 r2 : R (List AV)) : bmK2 m v (if pp then r1 else r2) = if pp then bmK2 m v r1 else bmK2 m v r2 := by split <;> rfl
def bmK (c : Cl) (s : AS) (m : BM) (es : MEs) (r : R AV) : R AV := match r with
  | .ok v A => if rcvA A m v = true then bmK2 m v (evs c s es A) else .stuck
  | .exc C fs A => .exc C fs A
  | .stuck => .stuck
theorem bmK_eq (c : Cl) (s : AS) (m : BM) (es : MEs) (r : R AV) : bmK c s m es r = r.bind fun v A => if rcvA A m v = true then bmK2 m v (evs c s es A) else .stuck := by cases r <;> rfl
@[simp] theorem bmK_ok (c : Cl) (s : AS) (m : BM) (es : MEs) (v : AV) (A : AH) : bmK c s m es (.ok v A) = if rcvA A m v = true then bmK2 m v (evs c s es A) else .stuck := ofEq rfl
@[simp] theorem bmK_exc (c : Cl) (s : AS) (m : BM) (es : MEs) (C : Nat) (fs : List (Str × AV)) (A : AH) : bmK c s m es (.exc C fs A) = .exc C fs A := ofEq rfl
@[simp] theorem bmK_stuck (c : Cl) (s : AS) (m : BM) (es : MEs) : bmK c s m es .stuck = .stuck := ofEq rfl
@[simp] theorem bmK_ite (c : Cl) (s : AS) (m : BM) (es : MEs) {pp : Prop} [Decidable pp] (r1 r2 : R AV) : bmK c s m es (if pp then r1 else r2) = if pp then bmK c s m es r1 else bmK c s m es r2 := by split <;> rfl
def isiK (t : TyN) (r : R AV) : R AV := match r with
  | .ok v A => blR A (isiA A v t)
  | .exc C fs A => .exc C fs A
  | .stuck => .stuck
theorem isiK_eq (t : TyN) (r : R AV) : isiK t r = r.bind fun v A => blR A (isiA A v t) := by cases r <;> rfl
@[simp] theorem isiK_ok (t : TyN) (v : AV) (A : AH) : isiK t (.ok v A) = blR A (isiA A v t) := ofEq rfl
@[simp] theorem isiK_exc (t : TyN) (C : Nat) (fs : List (Str × AV)) (A : AH) : isiK t (.exc C fs A) = .exc C fs A := ofEq rfl
@[simp] theorem isiK_stuck (t : TyN) : isiK t .stuck = .stuck := ofEq rfl
@[simp] theorem isiK_ite (t : TyN) {pp : Prop} [Decidable pp] (r1 r2 : R AV) : isiK t (if pp then r1 else r2) = if pp then isiK t r1 else isiK t r2 := by split <;> rfl
def consK2 (v : AV) (r : R (List AV)) : R (List AV) := match r with
  | .ok vs A => .ok (v :: vs) A
  | .exc C fs A => .exc C fs A
  | .stuck => .stuck
theorem consK2_eq (v : AV) (r : R (List AV)) : consK2 v r = r.bind fun vs A => .ok (v :: vs) A := by cases r <;> rfl
@[simp] theorem consK2_ok (v : AV) (vs : (List AV)) (A : AH) : consK2 v (.ok vs A) = .ok (v :: vs) A := ofEq rfl
@[simp] theorem consK2_exc (v : AV) (C : Nat) (fs : List (Str × AV)) (A : AH) : consK2 v (.exc C fs A) = .exc C fs A := ofEq rfl
@[simp] theorem consK2_stuck (v : AV) : consK2 v .stuck = .stuck := ofEq rfl
@[simp] theorem consK2_ite (v : AV) {pp : Prop} [Decidable pp] (r1 r2 : R (List AV)) : consK2 v (if pp then r1 else r2) = if pp then consK2 v r1 else consK2 v r2 := by split <;> rfl
def consK (c : Cl) (s : AS) (es : MEs) (r : R AV) : R (List AV) := match r with
  | .ok v A => consK2 v (evs c s es A)
  | .exc C fs A => .exc C fs A
  | .stuck => .stuck
theorem consK_eq (c : Cl) (s : AS) (es : MEs) (r : R AV) : consK c s es r = r.bind fun v A => consK2 v (evs c s es A) := by cases r <;> rfl
@[simp] theorem consK_ok (c : Cl) (s : AS) (es : MEs) (v : AV) (A : AH) : consK c s es (.ok v A) = consK2 v (evs c s es A) := ofEq rfl
@[simp] theorem consK_exc (c : Cl) (s : AS) (es : MEs) (C : Nat) (fs : List (Str × AV)) (A : AH) : consK c s es (.exc C fs A) = .exc C fs A := ofEq rfl
@[simp] theorem consK_stuck (c : Cl) (s : AS) (es : MEs) : consK c s es .stuck = .stuck := ofEq rfl
@[simp] theorem consK_ite (c : Cl) (s : AS) (es : MEs) {pp : Prop} [Decidable pp] (r1 r2 : R AV) : consK c s es (if pp then r1 else r2) = if pp then consK c s es r1 else consK c s es r2 := by split <;> rfl
def exprK (s : AS) (r : R AV) : F := match r with
  | .ok v A => .nx s A
  | .exc C fs A => .exc C fs s A
  | .stuck => .stuck
theorem exprK_eq (s : AS) (r : R AV) : exprK s r = r.fl s fun v A => .nx s A := by cases r <;> rfl
@[simp] theorem exprK_ok (s : AS) (v : AV) (A : AH) : exprK s (.ok v A) = .nx s A := ofEq rfl
@[simp] theorem exprK_exc (s : AS) (C : Nat) (fs : List (Str × AV)) (A : AH) : exprK s (.exc C fs A) = .exc C fs s A := ofEq rfl
@[simp] theorem exprK_stuck (s : AS) : exprK s .stuck = .stuck := ofEq rfl
@[simp] theorem exprK_ite (s : AS) {pp : Prop} [Decidable pp] (r1 r2 : R AV) : exprK s (if pp then r1 else r2) = if pp then exprK s r1 else exprK s r2 := by split <;> rfl
def nxF (o : Option AS) (A : AH) : F := match o with
  | some s => .nx s A
  | none => .stuck
@[simp] theorem nxF_some (s : AS) (A : AH) : nxF (some s) A = .nx s A := ofEq rfl
def nxH (o : Option AH) (s : AS) : F := match o with
  | some A => .nx s A
  | none => .stuck
@[simp] theorem nxH_some (A : AH) (s : AS) : nxH (some A) s = .nx s A := ofEq rfl
def asgK (s : AS) (t : MT) (r : R AV) : F := match r with
  | .ok v A => nxF (bindT A t v s) A
  | .exc C fs A => .exc C fs s A
  | .stuck => .stuck
theorem asgK_eq (s : AS) (t : MT) (r : R AV) : asgK s t r = r.fl s fun v A => nxF (bindT A t v s) A := by cases r <;> rfl
@[simp] theorem asgK_ok (s : AS) (t : MT) (v : AV) (A : AH) : asgK s t (.ok v A) = nxF (bindT A t v s) A := ofEq rfl
@[simp] theorem asgK_exc (s : AS) (t : MT) (C : Nat) (fs : List (Str × AV)) (A : AH) : asgK s t (.exc C fs A) = .exc C fs s A := ofEq rfl
@[simp] theorem asgK_stuck (s : AS) (t : MT) : asgK s t .stuck = .stuck := ofEq rfl
@[simp] theorem asgK_ite (s : AS) (t : MT) {pp : Prop} [Decidable pp] (r1 r2 : R AV) : asgK s t (if pp then r1 else r2) = if pp then asgK s t r1 else asgK s t r2 := by split <;> rfl
def subK3 (s : AS) (v x : AV) (r : R AV) : F := match r with
  | .ok y A => nxH (setSubA A x y v) s
  | .exc C fs A => .exc C fs s A
  | .stuck => .stuck
theorem subK3_eq (s : AS) (v x : AV) (r : R AV) : subK3 s v x r = r.fl s fun y A => nxH (setSubA A x y v) s := by cases r <;> rfl
@[simp] theorem subK3_ok (s : AS) (v x : AV) (y : AV) (A : AH) : subK3 s v x (.ok y A) = nxH (setSubA A x y v) s := ofEq rfl
@[simp] theorem subK3_exc (s : AS) (v x : AV) (C : Nat) (fs : List (Str × AV)) (A : AH) : subK3 s v x (.exc C fs A) = .exc C fs s A := ofEq rfl
@[simp] theorem subK3_stuck (s : AS) (v x : AV) : subK3 s v x .stuck = .stuck := ofEq rfl
@[simp] theorem subK3_ite (s : AS) (v x : AV) {pp : Prop} [Decidable pp] (r1 r2 : R AV) : subK3 s v x (if pp then r1 else r2) = if pp then subK3 s v x r1 else subK3 s v x r2 := by split <;> rfl
def subK2 (c : Cl) (s : AS) (i : ME) (v : AV) (r : R AV) : F := match r with
  | .ok x A => subK3 s v x (evE c s i A)
  | .exc C fs A => .exc C fs s A
  | .stuck => .stuck
theorem subK2_eq (c : Cl) (s : AS) (i : ME) (v : AV) (r : R AV) : subK2 c s i v r = r.fl s fun x A => subK3 s v x (evE c s i A) := by cases r <;> rfl
@[simp] theorem subK2_ok (c : Cl) (s : AS) (i : ME) (v : AV) (x : AV) (A : AH) : subK2 c s i v (.ok x A) = subK3 s v x (evE c s i A) := ofEq rfl
@[simp] theorem subK2_exc (c : Cl) (s : AS) (i : ME) (v : AV) (C : Nat) (fs : List (Str × AV)) (A : AH) : subK2 c s i v (.exc C fs A) = .exc C fs s A := ofEq rfl
@[simp] theorem subK2_stuck (c : Cl) (s : AS) (i : ME) (v : AV) : subK2 c s i v .stuck = .stuck := ofEq rfl
@[simp] theorem subK2_ite (c : Cl) (s : AS) (i : ME) (v : AV) {pp : Prop} [Decidable pp] (r1 r2 : R AV) : subK2 c s i v (if pp then r1 else r2) = if pp then subK2 c s i v r1 else subK2 c s i v r2 := by split <;> rfl
def subK (c : Cl) (s : AS) (o i : ME) (r : R AV) : F := match r with
  | .ok v A => subK2 c s i v (evE c s o A)
  | .exc C fs A => .exc C fs s A
  | .stuck => .stuck
theorem subK_eq (c : Cl) (s : AS) (o i : ME) (r : R AV) : subK c s o i r = r.fl s fun v A => subK2 c s i v (evE c s o A) := by cases r <;> rfl
@[simp] theorem subK_ok (c : Cl) (s : AS) (o i : ME) (v : AV) (A : AH) : subK c s o i (.ok v A) = subK2 c s i v (evE c s o A) := ofEq rfl
@[simp] theorem subK_exc (c : Cl) (s : AS) (o i : ME) (C : Nat) (fs : List (Str × AV)) (A : AH) : subK c s o i (.exc C fs A) = .exc C fs s A := ofEq rfl
@[simp] theorem subK_stuck (c : Cl) (s : AS) (o i : ME) : subK c s o i .stuck = .stuck := ofEq rfl
@[simp] theorem subK_ite (c : Cl) (s : AS) (o i : ME) {pp : Prop} [Decidable pp] (r1 r2 : R AV) : subK c s o i (if pp then r1 else r2) = if pp then subK c s o i r1 else subK c s o i r2 := by split <;> rfl
def augK2 (s : AS) (i : Nat) (r : R AV) : F := match r with
  | .ok z A => .nx (s.set i (some z)) A
  | .exc C fs A => .exc C fs s A
  | .stuck => .stuck
theorem augK2_eq (s : AS) (i : Nat) (r : R AV) : augK2 s i r = r.fl s fun z A => .nx (s.set i (some z)) A := by cases r <;> rfl
@[simp] theorem augK2_ok (s : AS) (i : Nat) (z : AV) (A : AH) : augK2 s i (.ok z A) = .nx (s.set i (some z)) A := ofEq rfl
@[simp] theorem augK2_exc (s : AS) (i : Nat) (C : Nat) (fs : List (Str × AV)) (A : AH) : augK2 s i (.exc C fs A) = .exc C fs s A := ofEq rfl
@[simp] theorem augK2_stuck (s : AS) (i : Nat) : augK2 s i .stuck = .stuck := ofEq rfl
@[simp] theorem augK2_ite (s : AS) (i : Nat) {pp : Prop} [Decidable pp] (r1 r2 : R AV) : augK2 s i (if pp then r1 else r2) = if pp then augK2 s i r1 else augK2 s i r2 := by split <;> rfl
def augK (s : AS) (i : Nat) (o : BO) (v : AV) (r : R AV) : F := match r with
  | .ok w A => augK2 s i (opA A o v w)
  | .exc C fs A => .exc C fs s A
  | .stuck => .stuck
theorem augK_eq (s : AS) (i : Nat) (o : BO) (v : AV) (r : R AV) : augK s i o v r = r.fl s fun w A => augK2 s i (opA A o v w) := by cases r <;> rfl
@[simp] theorem augK_ok (s : AS) (i : Nat) (o : BO) (v : AV) (w : AV) (A : AH) : augK s i o v (.ok w A) = augK2 s i (opA A o v w) := ofEq rfl
@[simp] theorem augK_exc (s : AS) (i : Nat) (o : BO) (v : AV) (C : Nat) (fs : List (Str × AV)) (A : AH) : augK s i o v (.exc C fs A) = .exc C fs s A := ofEq rfl
@[simp] theorem augK_stuck (s : AS) (i : Nat) (o : BO) (v : AV) : augK s i o v .stuck = .stuck := ofEq rfl
@[simp] theorem augK_ite (s : AS) (i : Nat) (o : BO) (v : AV) {pp : Prop} [Decidable pp] (r1 r2 : R AV) : augK s i o v (if pp then r1 else r2) = if pp then augK s i o v r1 else augK s i o v r2 := by split <;> rfl
def augF (c : Cl) (s : AS) (A : AH) (i : Nat) (op : BO) (e : ME) (o : Option (Option AV)) : F := match o with
  | some (some v) => if augB op v then augK s i op v (evE c s e A) else .stuck
  | _ => .stuck
@[simp] theorem augF_some (c : Cl) (s : AS) (A : AH) (i : Nat) (op : BO) (e : ME) (v : AV) : augF c s A i op e (some (some v)) = if augB op v then augK s i op v (evE c s e A) else .stuck := ofEq rfl
def parK (s : AS) (is : List Nat) (r : R (List AV)) : F := match r with
  | .ok vs A => if vs.length = is.length then .nx (setsA s is vs) A else .stuck
  | .exc C fs A => .exc C fs s A
  | .stuck => .stuck
theorem parK_eq (s : AS) (is : List Nat) (r : R (List AV)) : parK s is r = r.fl s fun vs A => if vs.length = is.length then .nx (setsA s is vs) A else .stuck := by cases r <;> rfl
@[simp] theorem parK_ok (s : AS) (is : List Nat) (vs : (List AV)) (A : AH) : parK s is (.ok vs A) = if vs.length = is.length then .nx (setsA s is vs) A else .stuck := ofEq rfl
@[simp] theorem parK_exc (s : AS) (is : List Nat) (C : Nat) (fs : List (Str × AV)) (A : AH) : parK s is (.exc C fs A) = .exc C fs s A := ofEq rfl
@[simp] theorem parK_stuck (s : AS) (is : List Nat) : parK s is .stuck = .stuck := ofEq rfl
@[simp] theorem parK_ite (s : AS) (is : List Nat) {pp : Prop} [Decidable pp] (r1 r2 : R (List AV)) : parK s is (if pp then r1 else r2) = if pp then parK s is r1 else parK s is r2 := by split <;> rfl
def retK (s : AS) (r : R AV) : F := match r with
  | .ok v A => .rt v s A
  | .exc C fs A => .exc C fs s A
  | .stuck => .stuck
theorem retK_eq (s : AS) (r : R AV) : retK s r = r.fl s fun v A => .rt v s A := by cases r <;> rfl
@[simp] theorem retK_ok (s : AS) (v : AV) (A : AH) : retK s (.ok v A) = .rt v s A := ofEq rfl
@[simp] theorem retK_exc (s : AS) (C : Nat) (fs : List (Str × AV)) (A : AH) : retK s (.exc C fs A) = .exc C fs s A := ofEq rfl
@[simp] theorem retK_stuck (s : AS) : retK s .stuck = .stuck := ofEq rfl
@[simp] theorem retK_ite (s : AS) {pp : Prop} [Decidable pp] (r1 r2 : R AV) : retK s (if pp then r1 else r2) = if pp then retK s r1 else retK s r2 := by split <;> rfl
/-- a branch by syntax -/
noncomputable def iffF (c : Cl) (s : AS) (a b : MSs) (A : AH) (o : Option Bool) : F := match o with
  | some true => exSs c s a A
  | some false => exSs c s b A
  | none => .stuck
@[simp] theorem iffF_t (c : Cl) (s : AS) (a b : MSs) (A : AH) : iffF c s a b A (some true) = exSs c s a A := ofEq rfl
@[simp] theorem iffF_f (c : Cl) (s : AS) (a b : MSs) (A : AH) : iffF c s a b A (some false) = exSs c s b A := ofEq rfl
@[simp] theorem iffF_dec (c : Cl) (s : AS) (a b : MSs) (A : AH) (q : Prop) [Decidable q] : iffF c s a b A (some (decide q)) = if q then exSs c s a A else exSs c s b A := by by_cases h : q <;> simp [h]
@[simp] theorem iffF_not (c : Cl) (s : AS) (a b : MSs) (A : AH) (q : Bool) : iffF c s a b A (some (!q)) = iffF c s b a A (some q) := by cases q <;> rfl
noncomputable def iffK (c : Cl) (s : AS) (a b : MSs) (r : R AV) : F := match r with
  | .ok v A => iffF c s a b A (truA A v)
  | .exc C fs A => .exc C fs s A
  | .stuck => .stuck
theorem iffK_eq (c : Cl) (s : AS) (a b : MSs) (r : R AV) : iffK c s a b r = r.fl s fun v A => iffF c s a b A (truA A v) := by cases r <;> rfl
@[simp] theorem iffK_ok (c : Cl) (s : AS) (a b : MSs) (v : AV) (A : AH) : iffK c s a b (.ok v A) = iffF c s a b A (truA A v) := ofEq rfl
@[simp] theorem iffK_exc (c : Cl) (s : AS) (a b : MSs) (C : Nat) (fs : List (Str × AV)) (A : AH) : iffK c s a b (.exc C fs A) = .exc C fs s A := ofEq rfl
@[simp] theorem iffK_stuck (c : Cl) (s : AS) (a b : MSs) : iffK c s a b .stuck = .stuck := ofEq rfl
@[simp] theorem iffK_ite (c : Cl) (s : AS) (a b : MSs) {pp : Prop} [Decidable pp] (r1 r2 : R AV) : iffK c s a b (if pp then r1 else r2) = if pp then iffK c s a b r1 else iffK c s a b r2 := by split <;> rfl
noncomputable def seqF (c : Cl) (xs : MSs) (r : F) : F := r.andThen fun s A => exSs c s xs A
@[simp] theorem seqF_nx (c : Cl) (xs : MSs) (s : AS) (A : AH) : seqF c xs (.nx s A) = exSs c s xs A := ofEq rfl
@[simp] theorem seqF_rt (c : Cl) (xs : MSs) (v : AV) (s : AS) (A : AH) : seqF c xs (.rt v s A) = .rt v s A := ofEq rfl
@[simp] theorem seqF_bk (c : Cl) (xs : MSs) (s : AS) (A : AH) : seqF c xs (.bk s A) = .bk s A := ofEq rfl
@[simp] theorem seqF_ct (c : Cl) (xs : MSs) (s : AS) (A : AH) : seqF c xs (.ct s A) = .ct s A := ofEq rfl
@[simp] theorem seqF_exc (c : Cl) (xs : MSs) (C : Nat) (fs : List (Str × AV)) (s : AS) (A : AH) : seqF c xs (.exc C fs s A) = .exc C fs s A := ofEq rfl
@[simp] theorem seqF_stuck (c : Cl) (xs : MSs) : seqF c xs .stuck = .stuck := ofEq rfl
@[simp] theorem seqF_ite (c : Cl) (xs : MSs) {p : Prop} [Decidable p] (a b : F) : seqF c xs (if p then a else b) = if p then seqF c xs a else seqF c xs b := by split <;> rfl
/-- loops by their syntax -/
noncomputable def whlD (c : Cl) (d : ME) (b : MSs) (s : AS) (A : AH) : F := whlW (fun s A => evE c s d A) (fun s A => exSs c s b A) s A
noncomputable def forD (c : Cl) (t : MT) (b : MSs) (sr : Src) (n : Nat) (s : AS) (A : AH) : F := forL t (fun s A => exSs c s b A) sr n 0 s A
def lpF (r : F) (g : AS → AH → F) : F := match r with
  | .nx s' A' => g s' A'
  | .ct s' A' => g s' A'
  | .bk s' A' => .nx s' A'
  | r => r
noncomputable def whlN (c : Cl) (d : ME) (b : MSs) (r : F) : F := lpF r (whlD c d b)
@[simp] theorem whlN_nx (c : Cl) (d : ME) (b : MSs) (s : AS) (A : AH) : whlN c d b (.nx s A) = whlD c d b s A := ofEq rfl
@[simp] theorem whlN_ct (c : Cl) (d : ME) (b : MSs) (s : AS) (A : AH) : whlN c d b (.ct s A) = whlD c d b s A := ofEq rfl
@[simp] theorem whlN_bk (c : Cl) (d : ME) (b : MSs) (s : AS) (A : AH) : whlN c d b (.bk s A) = .nx s A := ofEq rfl
@[simp] theorem whlN_rt (c : Cl) (d : ME) (b : MSs) (v : AV) (s : AS) (A : AH) : whlN c d b (.rt v s A) = .rt v s A := ofEq rfl
@[simp] theorem whlN_ite (c : Cl) (d : ME) (b : MSs) {p : Prop} [Decidable p] (x y : F) : whlN c d b (if p then x else y) = if p then whlN c d b x else whlN c d b y := by split <;> rfl
noncomputable def whlF (c : Cl) (d : ME) (b : MSs) (s : AS) (A : AH) (o : Option Bool) : F := match o with
  | some true => whlN c d b (exSs c s b A)
  | some false => .nx s A
  | none => .stuck
@[simp] theorem whlF_t (c : Cl) (d : ME) (b : MSs) (s : AS) (A : AH) : whlF c d b s A (some true) = whlN c d b (exSs c s b A) := ofEq rfl
@[simp] theorem whlF_f (c : Cl) (d : ME) (b : MSs) (s : AS) (A : AH) : whlF c d b s A (some false) = .nx s A := ofEq rfl
@[simp] theorem whlF_dec (c : Cl) (d : ME) (b : MSs) (s : AS) (A : AH) (q : Prop) [Decidable q] : whlF c d b s A (some (decide q)) = if q then whlN c d b (exSs c s b A) else .nx s A := by by_cases h : q <;> simp [h]
noncomputable def whlK (c : Cl) (d : ME) (b : MSs) (s : AS) (r : R AV) : F := match r with
  | .ok v A => whlF c d b s A (truA A v)
  | .exc C fs A => .exc C fs s A
  | .stuck => .stuck
theorem whlK_eq (c : Cl) (d : ME) (b : MSs) (s : AS) (r : R AV) : whlK c d b s r = r.fl s fun v A => whlF c d b s A (truA A v) := by cases r <;> rfl
@[simp] theorem whlK_ok (c : Cl) (d : ME) (b : MSs) (s : AS) (v : AV) (A : AH) : whlK c d b s (.ok v A) = whlF c d b s A (truA A v) := ofEq rfl
@[simp] theorem whlK_exc (c : Cl) (d : ME) (b : MSs) (s : AS) (C : Nat) (fs : List (Str × AV)) (A : AH) : whlK c d b s (.exc C fs A) = .exc C fs s A := ofEq rfl
@[simp] theorem whlK_stuck (c : Cl) (d : ME) (b : MSs) (s : AS) : whlK c d b s .stuck = .stuck := ofEq rfl
@[simp] theorem whlK_ite (c : Cl) (d : ME) (b : MSs) (s : AS) {pp : Prop} [Decidable pp] (r1 r2 : R AV) : whlK c d b s (if pp then r1 else r2) = if pp then whlK c d b s r1 else whlK c d b s r2 := by split <;> rfl
noncomputable def srcF (c : Cl) (t : MT) (b : MSs) (s : AS) (A : AH) (o : Option Src) : F := match o with
  | none => .stuck
  | some sr => match sr.len A with
    | none => .stuck
    | some n => forD c t b sr n s A
noncomputable def forK (c : Cl) (t : MT) (b : MSs) (k : IK) (s : AS) (r : R (List AV)) : F := match r with
  | .ok vs A => srcF c t b s A (srcA A k vs)
  | .exc C fs A => .exc C fs s A
  | .stuck => .stuck
theorem forK_eq (c : Cl) (t : MT) (b : MSs) (k : IK) (s : AS) (r : R (List AV)) : forK c t b k s r = r.fl s fun vs A => srcF c t b s A (srcA A k vs) := by cases r <;> rfl
@[simp] theorem forK_ok (c : Cl) (t : MT) (b : MSs) (k : IK) (s : AS) (vs : (List AV)) (A : AH) : forK c t b k s (.ok vs A) = srcF c t b s A (srcA A k vs) := ofEq rfl
@[simp] theorem forK_exc (c : Cl) (t : MT) (b : MSs) (k : IK) (s : AS) (C : Nat) (fs : List (Str × AV)) (A : AH) : forK c t b k s (.exc C fs A) = .exc C fs s A := ofEq rfl
@[simp] theorem forK_stuck (c : Cl) (t : MT) (b : MSs) (k : IK) (s : AS) : forK c t b k s .stuck = .stuck := ofEq rfl
@[simp] theorem forK_ite (c : Cl) (t : MT) (b : MSs) (k : IK) (s : AS) {pp : Prop} [Decidable pp] (r1 r2 : R (List AV)) : forK c t b k s (if pp then r1 else r2) = if pp then forK c t b k s r1 else forK c t b k s r2 := by split <;> rfl
section
variable {c : Cl} {s : AS} {A : AH}
@[simp] theorem ev_var (i : Nat) : evE c s (.var i) A = slotR s[i]? A := by simp only [evE, binK2_eq, binK_eq, negK_eq, notK_eq, cmpK2_eq, cmpK_eq, cmp2K2_eq, cmp2K_eq, ifeK_eq, bopK_eq, tupK_eq, lstK_eq, idxK2_eq, idxK_eq, callK_eq, callkK2_eq, callkK_eq, bltK_eq, bmK2_eq, bmK_eq, isiK_eq, consK2_eq, consK_eq, exprK_eq, asgK_eq, subK3_eq, subK2_eq, subK_eq, augK2_eq, augK_eq, parK_eq, retK_eq, iffK_eq, whlK_eq, forK_eq] <;> rfl
@[simp] theorem ev_cst (v : AV) : evE c s (.cst v) A = .ok v A := by simp only [evE]
@[simp] theorem ev_gl (g : Nat) : evE c s (.gl g) A = optR A (c.gl g) := by simp only [evE]
@[simp] theorem ev_bin (o : BO) (a b : ME) : evE c s (.bin o a b) A = binK c s o b (evE c s a A) := by simp only [evE, binK2_eq, binK_eq, negK_eq, notK_eq, cmpK2_eq, cmpK_eq, cmp2K2_eq, cmp2K_eq, ifeK_eq, bopK_eq, tupK_eq, lstK_eq, idxK2_eq, idxK_eq, callK_eq, callkK2_eq, callkK_eq, bltK_eq, bmK2_eq, bmK_eq, isiK_eq, consK2_eq, consK_eq, exprK_eq, asgK_eq, subK3_eq, subK2_eq, subK_eq, augK2_eq, augK_eq, parK_eq, retK_eq, iffK_eq, whlK_eq, forK_eq] <;> rfl
@[simp] theorem ev_neg (a : ME) : evE c s (.neg a) A = negK (evE c s a A) := by simp only [evE, binK2_eq, binK_eq, negK_eq, notK_eq, cmpK2_eq, cmpK_eq, cmp2K2_eq, cmp2K_eq, ifeK_eq, bopK_eq, tupK_eq, lstK_eq, idxK2_eq, idxK_eq, callK_eq, callkK2_eq, callkK_eq, bltK_eq, bmK2_eq, bmK_eq, isiK_eq, consK2_eq, consK_eq, exprK_eq, asgK_eq, subK3_eq, subK2_eq, subK_eq, augK2_eq, augK_eq, parK_eq, retK_eq, iffK_eq, whlK_eq, forK_eq] <;> rfl
@[simp] theorem ev_not (a : ME) : evE c s (.not a) A = notK (evE c s a A) := by simp only [evE, binK2_eq, binK_eq, negK_eq, notK_eq, cmpK2_eq, cmpK_eq, cmp2K2_eq, cmp2K_eq, ifeK_eq, bopK_eq, tupK_eq, lstK_eq, idxK2_eq, idxK_eq, callK_eq, callkK2_eq, callkK_eq, bltK_eq, bmK2_eq, bmK_eq, isiK_eq, consK2_eq, consK_eq, exprK_eq, asgK_eq, subK3_eq, subK2_eq, subK_eq, augK2_eq, augK_eq, parK_eq, retK_eq, iffK_eq, whlK_eq, forK_eq] <;> rfl
@[simp] theorem ev_cmp (o : CO) (a b : ME) : evE c s (.cmp o a b) A = cmpK c s o b (evE c s a A) := by simp only [evE, binK2_eq, binK_eq, negK_eq, notK_eq, cmpK2_eq, cmpK_eq, cmp2K2_eq, cmp2K_eq, ifeK_eq, bopK_eq, tupK_eq, lstK_eq, idxK2_eq, idxK_eq, callK_eq, callkK2_eq, callkK_eq, bltK_eq, bmK2_eq, bmK_eq, isiK_eq, consK2_eq, consK_eq, exprK_eq, asgK_eq, subK3_eq, subK2_eq, subK_eq, augK2_eq, augK_eq, parK_eq, retK_eq, iffK_eq, whlK_eq, forK_eq] <;> rfl
@[simp] theorem ev_cmp2 (o p : CO) (a b d : ME) : evE c s (.cmp2 o p a b d) A = cmp2K c s o p b d (evE c s a A) := by
  rw [cmp2K_eq]
  simp only [evE]
  congr
  funext v A
  rw [cmp2K2_eq]
  congr
  funext w A
  cases cmpA A o v w with
  | none => rfl
  | some b =>
    cases b with
    | true => exact (cmpK2_eq p w (evE c s d A)).symm
    | false => rfl
@[simp] theorem ev_bop (k : Bool) (es : MEs) : evE c s (.bop k es) A = evB c s k es A := by simp only [evE]
@[simp] theorem ev_ife (d a b : ME) : evE c s (.ife d a b) A = ifeK c s a b (evE c s d A) := by simp only [evE, binK2_eq, binK_eq, negK_eq, notK_eq, cmpK2_eq, cmpK_eq, cmp2K2_eq, cmp2K_eq, ifeK_eq, bopK_eq, tupK_eq, lstK_eq, idxK2_eq, idxK_eq, callK_eq, callkK2_eq, callkK_eq, bltK_eq, bmK2_eq, bmK_eq, isiK_eq, consK2_eq, consK_eq, exprK_eq, asgK_eq, subK3_eq, subK2_eq, subK_eq, augK2_eq, augK_eq, parK_eq, retK_eq, iffK_eq, whlK_eq, forK_eq] <;> rfl
@[simp] theorem ev_tup (es : MEs) : evE c s (.tup es) A = tupK (evs c s es A) := by simp only [evE, binK2_eq, binK_eq, negK_eq, notK_eq, cmpK2_eq, cmpK_eq, cmp2K2_eq, cmp2K_eq, ifeK_eq, bopK_eq, tupK_eq, lstK_eq, idxK2_eq, idxK_eq, callK_eq, callkK2_eq, callkK_eq, bltK_eq, bmK2_eq, bmK_eq, isiK_eq, consK2_eq, consK_eq, exprK_eq, asgK_eq, subK3_eq, subK2_eq, subK_eq, augK2_eq, augK_eq, parK_eq, retK_eq, iffK_eq, whlK_eq, forK_eq] <;> rfl
@[simp] theorem ev_lst (es : MEs) : evE c s (.lst es) A = lstK (evs c s es A) := by simp only [evE, binK2_eq, binK_eq, negK_eq, notK_eq, cmpK2_eq, cmpK_eq, cmp2K2_eq, cmp2K_eq, ifeK_eq, bopK_eq, tupK_eq, lstK_eq, idxK2_eq, idxK_eq, callK_eq, callkK2_eq, callkK_eq, bltK_eq, bmK2_eq, bmK_eq, isiK_eq, consK2_eq, consK_eq, exprK_eq, asgK_eq, subK3_eq, subK2_eq, subK_eq, augK2_eq, augK_eq, parK_eq, retK_eq, iffK_eq, whlK_eq, forK_eq] <;> rfl
@[simp] theorem ev_idx (a b : ME) : evE c s (.idx a b) A = idxK c s b (evE c s a A) := by simp only [evE, binK2_eq, binK_eq, negK_eq, notK_eq, cmpK2_eq, cmpK_eq, cmp2K2_eq, cmp2K_eq, ifeK_eq, bopK_eq, tupK_eq, lstK_eq, idxK2_eq, idxK_eq, callK_eq, callkK2_eq, callkK_eq, bltK_eq, bmK2_eq, bmK_eq, isiK_eq, consK2_eq, consK_eq, exprK_eq, asgK_eq, subK3_eq, subK2_eq, subK_eq, augK2_eq, augK_eq, parK_eq, retK_eq, iffK_eq, whlK_eq, forK_eq] <;> rfl
@[simp] theorem ev_call (f : Nat) (es : MEs) : evE c s (.call f es) A = callK c f (evs c s es A) := by simp only [evE, binK2_eq, binK_eq, negK_eq, notK_eq, cmpK2_eq, cmpK_eq, cmp2K2_eq, cmp2K_eq, ifeK_eq, bopK_eq, tupK_eq, lstK_eq, idxK2_eq, idxK_eq, callK_eq, callkK2_eq, callkK_eq, bltK_eq, bmK2_eq, bmK_eq, isiK_eq, consK2_eq, consK_eq, exprK_eq, asgK_eq, subK3_eq, subK2_eq, subK_eq, augK2_eq, augK_eq, parK_eq, retK_eq, iffK_eq, whlK_eq, forK_eq] <;> rfl
@[simp] theorem ev_callk (f fm : Nat) (es kes : MEs) : evE c s (.callk f fm es kes) A = callkK c s f fm kes (evs c s es A) := by simp only [evE, binK2_eq, binK_eq, negK_eq, notK_eq, cmpK2_eq, cmpK_eq, cmp2K2_eq, cmp2K_eq, ifeK_eq, bopK_eq, tupK_eq, lstK_eq, idxK2_eq, idxK_eq, callK_eq, callkK2_eq, callkK_eq, bltK_eq, bmK2_eq, bmK_eq, isiK_eq, consK2_eq, consK_eq, exprK_eq, asgK_eq, subK3_eq, subK2_eq, subK_eq, augK2_eq, augK_eq, parK_eq, retK_eq, iffK_eq, whlK_eq, forK_eq] <;> rfl
@[simp] theorem ev_blt (b : BF) (es : MEs) : evE c s (.blt b es) A = bltK b (evs c s es A) := by simp only [evE, binK2_eq, binK_eq, negK_eq, notK_eq, cmpK2_eq, cmpK_eq, cmp2K2_eq, cmp2K_eq, ifeK_eq, bopK_eq, tupK_eq, lstK_eq, idxK2_eq, idxK_eq, callK_eq, callkK2_eq, callkK_eq, bltK_eq, bmK2_eq, bmK_eq, isiK_eq, consK2_eq, consK_eq, exprK_eq, asgK_eq, subK3_eq, subK2_eq, subK_eq, augK2_eq, augK_eq, parK_eq, retK_eq, iffK_eq, whlK_eq, forK_eq] <;> rfl
@[simp] theorem ev_bm (m : BM) (o : ME) (es : MEs) : evE c s (.bm m o es) A = bmK c s m es (evE c s o A) := by simp only [evE, binK2_eq, binK_eq, negK_eq, notK_eq, cmpK2_eq, cmpK_eq, cmp2K2_eq, cmp2K_eq, ifeK_eq, bopK_eq, tupK_eq, lstK_eq, idxK2_eq, idxK_eq, callK_eq, callkK2_eq, callkK_eq, bltK_eq, bmK2_eq, bmK_eq, isiK_eq, consK2_eq, consK_eq, exprK_eq, asgK_eq, subK3_eq, subK2_eq, subK_eq, augK2_eq, augK_eq, parK_eq, retK_eq, iffK_eq, whlK_eq, forK_eq] <;> rfl
@[simp] theorem ev_isi (a : ME) (t : TyN) : evE c s (.isi a t) A = isiK t (evE c s a A) := by simp only [evE, binK2_eq, binK_eq, negK_eq, notK_eq, cmpK2_eq, cmpK_eq, cmp2K2_eq, cmp2K_eq, ifeK_eq, bopK_eq, tupK_eq, lstK_eq, idxK2_eq, idxK_eq, callK_eq, callkK2_eq, callkK_eq, bltK_eq, bmK2_eq, bmK_eq, isiK_eq, consK2_eq, consK_eq, exprK_eq, asgK_eq, subK3_eq, subK2_eq, subK_eq, augK2_eq, augK_eq, parK_eq, retK_eq, iffK_eq, whlK_eq, forK_eq] <;> rfl
@[simp] theorem evs_nil : evs c s .nil A = .ok [] A := by simp only [evs]
@[simp] theorem evs_cons (e : ME) (es : MEs) : evs c s (.cons e es) A = consK c s es (evE c s e A) := by simp only [evs, binK2_eq, binK_eq, negK_eq, notK_eq, cmpK2_eq, cmpK_eq, cmp2K2_eq, cmp2K_eq, ifeK_eq, bopK_eq, tupK_eq, lstK_eq, idxK2_eq, idxK_eq, callK_eq, callkK2_eq, callkK_eq, bltK_eq, bmK2_eq, bmK_eq, isiK_eq, consK2_eq, consK_eq, exprK_eq, asgK_eq, subK3_eq, subK2_eq, subK_eq, augK2_eq, augK_eq, parK_eq, retK_eq, iffK_eq, whlK_eq, forK_eq] <;> rfl
@[simp] theorem evB_nil (k : Bool) : evB c s k .nil A = .ok (.bl k) A := by simp only [evB]
@[simp] theorem evB_one (k : Bool) (e : ME) : evB c s k (.cons e .nil) A = evE c s e A := by simp only [evB]
@[simp] theorem evB_more (k : Bool) (e e2 : ME) (es : MEs) : evB c s k (.cons e (.cons e2 es)) A = bopK c s k (.cons e2 es) (evE c s e A) := by simp only [evB, binK2_eq, binK_eq, negK_eq, notK_eq, cmpK2_eq, cmpK_eq, cmp2K2_eq, cmp2K_eq, ifeK_eq, bopK_eq, tupK_eq, lstK_eq, idxK2_eq, idxK_eq, callK_eq, callkK2_eq, callkK_eq, bltK_eq, bmK2_eq, bmK_eq, isiK_eq, consK2_eq, consK_eq, exprK_eq, asgK_eq, subK3_eq, subK2_eq, subK_eq, augK2_eq, augK_eq, parK_eq, retK_eq, iffK_eq, whlK_eq, forK_eq] <;> rfl
theorem whlD_eq (d : ME) (b : MSs) : whlD c d b s A = whlK c d b s (evE c s d A) := by
  unfold whlD
  rw [whlW_eq, whlK_eq]
  unfold whlT
  congr
  funext v A
  cases truA A v with
  | none => rfl
  | some b => cases b <;> rfl
@[simp] theorem ex_expr (e : ME) : exS c s (.expr e) A = exprK s (evE c s e A) := by simp only [exS, binK2_eq, binK_eq, negK_eq, notK_eq, cmpK2_eq, cmpK_eq, cmp2K2_eq, cmp2K_eq, ifeK_eq, bopK_eq, tupK_eq, lstK_eq, idxK2_eq, idxK_eq, callK_eq, callkK2_eq, callkK_eq, bltK_eq, bmK2_eq, bmK_eq, isiK_eq, consK2_eq, consK_eq, exprK_eq, asgK_eq, subK3_eq, subK2_eq, subK_eq, augK2_eq, augK_eq, parK_eq, retK_eq, iffK_eq, whlK_eq, forK_eq] <;> rfl
@[simp] theorem ex_asg (t : MT) (e : ME) : exS c s (.asg t e) A = asgK s t (evE c s e A) := by simp only [exS, binK2_eq, binK_eq, negK_eq, notK_eq, cmpK2_eq, cmpK_eq, cmp2K2_eq, cmp2K_eq, ifeK_eq, bopK_eq, tupK_eq, lstK_eq, idxK2_eq, idxK_eq, callK_eq, callkK2_eq, callkK_eq, bltK_eq, bmK2_eq, bmK_eq, isiK_eq, consK2_eq, consK_eq, exprK_eq, asgK_eq, subK3_eq, subK2_eq, subK_eq, augK2_eq, augK_eq, parK_eq, retK_eq, iffK_eq, whlK_eq, forK_eq] <;> rfl
@[simp] theorem ex_setSub (o i e : ME) : exS c s (.setSub o i e) A = subK c s o i (evE c s e A) := by simp only [exS, binK2_eq, binK_eq, negK_eq, notK_eq, cmpK2_eq, cmpK_eq, cmp2K2_eq, cmp2K_eq, ifeK_eq, bopK_eq, tupK_eq, lstK_eq, idxK2_eq, idxK_eq, callK_eq, callkK2_eq, callkK_eq, bltK_eq, bmK2_eq, bmK_eq, isiK_eq, consK2_eq, consK_eq, exprK_eq, asgK_eq, subK3_eq, subK2_eq, subK_eq, augK2_eq, augK_eq, parK_eq, retK_eq, iffK_eq, whlK_eq, forK_eq] <;> rfl
@[simp] theorem ex_aug (i : Nat) (o : BO) (e : ME) : exS c s (.aug i o e) A = augF c s A i o e s[i]? := by
  unfold augF
  simp only [exS, augK_eq, augK2_eq] <;> (rcases s[i]? with _ | _ | _ <;> rfl)
@[simp] theorem ex_par (is : List Nat) (es : MEs) : exS c s (.par is es) A = parK s is (evs c s es A) := by simp only [exS, binK2_eq, binK_eq, negK_eq, notK_eq, cmpK2_eq, cmpK_eq, cmp2K2_eq, cmp2K_eq, ifeK_eq, bopK_eq, tupK_eq, lstK_eq, idxK2_eq, idxK_eq, callK_eq, callkK2_eq, callkK_eq, bltK_eq, bmK2_eq, bmK_eq, isiK_eq, consK2_eq, consK_eq, exprK_eq, asgK_eq, subK3_eq, subK2_eq, subK_eq, augK2_eq, augK_eq, parK_eq, retK_eq, iffK_eq, whlK_eq, forK_eq] <;> rfl
@[simp] theorem ex_iff (d : ME) (a b : MSs) : exS c s (.iff d a b) A = iffK c s a b (evE c s d A) := by simp only [exS, binK2_eq, binK_eq, negK_eq, notK_eq, cmpK2_eq, cmpK_eq, cmp2K2_eq, cmp2K_eq, ifeK_eq, bopK_eq, tupK_eq, lstK_eq, idxK2_eq, idxK_eq, callK_eq, callkK2_eq, callkK_eq, bltK_eq, bmK2_eq, bmK_eq, isiK_eq, consK2_eq, consK_eq, exprK_eq, asgK_eq, subK3_eq, subK2_eq, subK_eq, augK2_eq, augK_eq, parK_eq, retK_eq, iffK_eq, whlK_eq, forK_eq] <;> rfl
@[simp] theorem ex_whl (d : ME) (b : MSs) : exS c s (.whl d b) A = whlD c d b s A := by simp only [exS, binK2_eq, binK_eq, negK_eq, notK_eq, cmpK2_eq, cmpK_eq, cmp2K2_eq, cmp2K_eq, ifeK_eq, bopK_eq, tupK_eq, lstK_eq, idxK2_eq, idxK_eq, callK_eq, callkK2_eq, callkK_eq, bltK_eq, bmK2_eq, bmK_eq, isiK_eq, consK2_eq, consK_eq, exprK_eq, asgK_eq, subK3_eq, subK2_eq, subK_eq, augK2_eq, augK_eq, parK_eq, retK_eq, iffK_eq, whlK_eq, forK_eq] <;> rfl
@[simp] theorem ex_forr (t : MT) (k : IK) (src : MEs) (b : MSs) : exS c s (.forr t k src b) A = forK c t b k s (evs c s src A) := by simp only [exS, binK2_eq, binK_eq, negK_eq, notK_eq, cmpK2_eq, cmpK_eq, cmp2K2_eq, cmp2K_eq, ifeK_eq, bopK_eq, tupK_eq, lstK_eq, idxK2_eq, idxK_eq, callK_eq, callkK2_eq, callkK_eq, bltK_eq, bmK2_eq, bmK_eq, isiK_eq, consK2_eq, consK_eq, exprK_eq, asgK_eq, subK3_eq, subK2_eq, subK_eq, augK2_eq, augK_eq, parK_eq, retK_eq, iffK_eq, whlK_eq, forK_eq] <;> rfl
@[simp] theorem ex_ret (e : ME) : exS c s (.ret e) A = retK s (evE c s e A) := by simp only [exS, binK2_eq, binK_eq, negK_eq, notK_eq, cmpK2_eq, cmpK_eq, cmp2K2_eq, cmp2K_eq, ifeK_eq, bopK_eq, tupK_eq, lstK_eq, idxK2_eq, idxK_eq, callK_eq, callkK2_eq, callkK_eq, bltK_eq, bmK2_eq, bmK_eq, isiK_eq, consK2_eq, consK_eq, exprK_eq, asgK_eq, subK3_eq, subK2_eq, subK_eq, augK2_eq, augK_eq, parK_eq, retK_eq, iffK_eq, whlK_eq, forK_eq] <;> rfl
@[simp] theorem ex_retN : exS c s .retN A = .rt .non s A := by simp only [exS]
@[simp] theorem ex_pass : exS c s .pass A = .nx s A := by simp only [exS]
@[simp] theorem ex_brk : exS c s .brk A = .bk s A := by simp only [exS]
@[simp] theorem ex_cnt : exS c s .cnt A = .ct s A := by simp only [exS]
@[simp] theorem exs_nil : exSs c s .nil A = .nx s A := by simp only [exSs]
@[simp] theorem exs_cons (x : MS) (xs : MSs) : exSs c s (.cons x xs) A = seqF c xs (exS c s x A) := by simp only [exSs]; rfl
@[simp] theorem setsA_nil (s : AS) : setsA s [] [] = s := ofEq rfl
@[simp] theorem setsA_cons (s : AS) (i : Nat) (is : List Nat) (v : AV) (vs : List AV) : setsA s (i :: is) (v :: vs) = setsA (s.set i (some v)) is vs := ofEq rfl
@[simp] theorem bindT_nm (i : Nat) (v : AV) (s : AS) : bindT A (.nm i) v s = some (s.set i (some v)) := by simp only [bindT]
@[simp] theorem truA_bl (b : Bool) : truA A (.bl b) = some b := ofEq rfl
@[simp] theorem truA_non : truA A .non = some false := ofEq rfl
@[simp] theorem truA_int (i : Int) : truA A (.int i) = some (i != 0) := ofEq rfl
@[simp] theorem op_addI (i j : Int) : opA A .add (.int i) (.int j) = .ok (.int (i + j)) A := ofEq rfl
@[simp] theorem op_subI (i j : Int) : opA A .sub (.int i) (.int j) = .ok (.int (i - j)) A := ofEq rfl
@[simp] theorem op_modI (i j : Int) : opA A .mod (.int i) (.int j) = if j ≠ 0 then .ok (.int (i.fmod j)) A else .stuck := ofEq rfl
theorem op_mulI (i j : Int) : opA A .mul (.int i) (.int j) = if i.natAbs.log2 + j.natAbs.log2 < 1000000 then .ok (.int (i * j)) A else .stuck := rfl
theorem op_fdivI (i j : Int) : opA A .fdiv (.int i) (.int j) = if j ≠ 0 ∧ j.natAbs.log2 < 9000 then .ok (.int (i.fdiv j)) A else .stuck := rfl
@[simp] theorem cmp_ltI (i j : Int) : cmpA A .lt (.int i) (.int j) = some (decide (i < j)) := ofEq rfl
@[simp] theorem cmp_leI (i j : Int) : cmpA A .le (.int i) (.int j) = some (decide (i ≤ j)) := ofEq rfl
@[simp] theorem cmp_gtI (i j : Int) : cmpA A .gt (.int i) (.int j) = some (decide (j < i)) := ofEq rfl
@[simp] theorem cmp_geI (i j : Int) : cmpA A .ge (.int i) (.int j) = some (decide (j ≤ i)) := ofEq rfl
@[simp] theorem isi_int (i : Int) (t : TyN) : isiA A (.int i) t = some (decide (t = .int)) := ofEq rfl
@[simp] theorem isi_bl (b : Bool) (t : TyN) : isiA A (.bl b) t = some (decide (t = .int) || decide (t = .bool)) := ofEq rfl
@[simp] theorem isi_str (x : Str) (t : TyN) : isiA A (.str x) t = some (decide (t = .str)) := ofEq rfl
@[simp] theorem isi_non (t : TyN) : isiA A .non t = some false := ofEq rfl
@[simp] theorem isi_tup (vs : List AV) (t : TyN) : isiA A (.tup vs) t = some (decide (t = .tuple)) := ofEq rfl
@[simp] theorem blt_abs (i : Int) : bltA A .abs [.int i] = .ok (.int (if i < 0 then -i else i)) A := ofEq rfl
@[simp] theorem blt_lenT (vs : List AV) : bltA A .len [.tup vs] = .ok (.int vs.length) A := ofEq rfl
@[simp] theorem idx_tup (vs : List AV) (i : Int) : idxA A (.tup vs) (.int i) = L2.atI vs i := ofEq rfl
theorem beq_dec (i j : Int) : (i == j) = decide (i = j) := rfl
@[simp] theorem eq_int (i j : Int) : cmpA A .eq (.int i) (.int j) = some (decide (i = j)) := ofEq rfl
@[simp] theorem ne_int (i j : Int) : cmpA A .ne (.int i) (.int j) = some (!decide (i = j)) := ofEq rfl
@[simp] theorem eq_bl (a b : Bool) : cmpA A .eq (.bl a) (.bl b) = some (a == b) := ofEq rfl
/-- equal values by their data -/
theorem eq_D {v w : AV} {d e : PyData} (h1 : toD A 60 v = some d) (h2 : toD A 60 w = some e) : cmpA A .eq v w = some (PyData.eqv d e) := by
  have z : eqA A v w = some (PyData.eqv d e) := by unfold eqA; rw [h1, h2]
  rw [← z]
  cases v <;> cases w <;> rfl
theorem ne_D {v w : AV} {d e : PyData} (h1 : toD A 60 v = some d) (h2 : toD A 60 w = some e) : cmpA A .ne v w = some (!PyData.eqv d e) := by
  have z : (eqA A v w).map (!·) = some (!PyData.eqv d e) := by unfold eqA; rw [h1, h2]; rfl
  rw [← z]
  cases v <;> cases w <;> rfl
theorem mapO_map {α β γ : Type} (f : α → Option β) (g : γ → α) (h : γ → β) : ∀ (l : List γ), (∀ x ∈ l, f (g x) = some (h x)) → mapO f (l.map g) = some (l.map h)
  | [], _ => rfl
  | x :: xs, e => by
    show (match f (g x), mapO f (xs.map g) with | some y, some ys => some (y :: ys) | _, _ => none) = _
    rw [e x (List.mem_cons_self ..), mapO_map f g h xs fun y hy => e y (List.mem_cons_of_mem _ hy)]
    rfl
theorem toD_lst {n : Nat} {vs : List AV} {a : Nat} (h : A[a]? = some (.lst vs)) : toD A (n + 1) (.ref a) = (mapO (toD A n) vs).map .list := by
  show (match A[a]?.bind AO.items? with | some vs => (mapO (toD A n) vs).map PyData.list | none => none) = _
  rw [h]; rfl
theorem toD_tup {n : Nat} {vs : List AV} : toD A (n + 1) (.tup vs) = (mapO (toD A n) vs).map .tuple := rfl
@[simp] theorem mapO_nil {α β : Type} (f : α → Option β) : mapO f [] = some [] := ofEq rfl
theorem toD_int {n : Nat} (i : Int) : toD A (n + 1) (.int i) = some (.int i) := rfl
end
@[simp] theorem atI_zero {α : Type} (x : α) (xs : List α) : L2.atI (x :: xs) 0 = some x := by
  unfold L2.atI L2.ixN
  simp
@[simp] theorem atI_one {α : Type} (x y : α) (xs : List α) : L2.atI (x :: y :: xs) 1 = some y := by
  unfold L2.atI L2.ixN
  have : (1 : Int) < (x :: y :: xs).length := by simp; omega
  simp
  rw [if_pos (by omega)]
  rfl
@[simp] theorem atI_two {α : Type} (x y z : α) (xs : List α) : L2.atI (x :: y :: z :: xs) 2 = some z := by
  unfold L2.atI L2.ixN
  simp
  rw [if_pos (by omega)]
  rfl
@[simp] theorem atI_three {α : Type} (x y z w : α) (xs : List α) : L2.atI (x :: y :: z :: w :: xs) 3 = some w := by
  unfold L2.atI L2.ixN
  simp
  rw [if_pos (by omega)]
  rfl
theorem atI_nat {α : Type} (xs : List α) (i : Nat) : L2.atI xs (i : Int) = xs[i]? := by
  unfold L2.atI L2.ixN
  rw [if_pos (by omega)]
  by_cases h : (i : Int) < xs.length
  · rw [if_pos h]; simp
  · rw [if_neg h]
    have : xs.length ≤ i := by omega
    simp [this]
theorem szl : (sizeLine : Nat) = sizeLine := rfl
/-! ### rules of loops -/
section
variable {t : MT} {body : AS → AH → F} {sr : Src}
theorem forL_rule (P : Nat → AS → AH → Prop) (Z : F → Prop) (n : Nat) (hstep : ∀ i, i < n → ∀ s A, P i s A → ∃ v s2, sr.at A i = some (some v) ∧ bindT A t v s = some s2 ∧
      ((∃ s' A', (body s2 A = .nx s' A' ∨ body s2 A = .ct s' A') ∧ P (i + 1) s' A') ∨ (∃ s' A', body s2 A = .bk s' A' ∧ Z (.nx s' A')) ∨ (∃ v s' A', body s2 A = .rt v s' A' ∧ Z (.rt v s' A')) ∨ (∃ C fs s' A', body s2 A = .exc C fs s' A' ∧ Z (.exc C fs s' A'))))
    (hend : ∀ s A, P n s A → sr.at A n = some none) : ∀ (m i : Nat), i + m = n → ∀ s A, P i s A → (∃ s' A', forL t body sr m i s A = .nx s' A' ∧ P n s' A') ∨ Z (forL t body sr m i s A)
  | 0, i, h, s, A, hp => by
    obtain rfl : i = n := by omega
    left
    refine ⟨s, A, ?_, hp⟩
    unfold forL
    rw [hend s A hp]
  | m + 1, i, h, s, A, hp => by
    obtain ⟨v, s2, e1, e2, hb⟩ := hstep i (by omega) s A hp
    have ev : forL t body sr (m + 1) i s A = lpF (body s2 A) fun s' A' => forL t body sr m (i + 1) s' A' := by
      show (match sr.at A i with
        | some (some v) => match bindT A t v s with
          | none => F.stuck
          | some s2 => match body s2 A with
            | .nx s' A' => forL t body sr m (i + 1) s' A'
            | .ct s' A' => forL t body sr m (i + 1) s' A'
            | .bk s' A' => .nx s' A'
            | r => r
        | _ => .stuck) = _
      rw [e1]
      show (match bindT A t v s with
          | none => F.stuck
          | some s2 => match body s2 A with
            | .nx s' A' => forL t body sr m (i + 1) s' A'
            | .ct s' A' => forL t body sr m (i + 1) s' A'
            | .bk s' A' => .nx s' A'
            | r => r) = _
      rw [e2]
      rfl
    rw [ev]
    rcases hb with ⟨s', A', h1 | h1, h2⟩ | ⟨s', A', h1, h2⟩ | ⟨v, s', A', h1, h2⟩ | ⟨C, fs, s', A', h1, h2⟩
    · rw [h1]; exact forL_rule P Z n hstep hend m (i + 1) (by omega) s' A' h2
    · rw [h1]; exact forL_rule P Z n hstep hend m (i + 1) (by omega) s' A' h2
    · rw [h1]; exact .inr h2
    · rw [h1]; exact .inr h2
    · rw [h1]; exact .inr h2
/-- without an early end -/
theorem forL_inv (P : Nat → AS → AH → Prop) (n : Nat) (hstep : ∀ i, i < n → ∀ s A, P i s A → ∃ v s2, sr.at A i = some (some v) ∧ bindT A t v s = some s2 ∧ ∃ s' A', body s2 A = .nx s' A' ∧ P (i + 1) s' A')
    (hend : ∀ s A, P n s A → sr.at A n = some none) (s : AS) (A : AH) (hp : P 0 s A) : ∃ s' A', forL t body sr n 0 s A = .nx s' A' ∧ P n s' A' := by
  rcases forL_rule (t := t) (body := body) P (fun _ => False) n (fun i hi s A h => by
    obtain ⟨v, s2, e1, e2, s', A', e3, h3⟩ := hstep i hi s A h
    exact ⟨v, s2, e1, e2, .inl ⟨s', A', .inl e3, h3⟩⟩) hend n 0 (by omega) s A hp with h | h
  · exact h
  · exact h.elim
end
section
variable {step : AV → AH → R (Option AV)} {sr : Src} {D : Nat}
theorem compL_rule (P : Nat → List AV → AH → Prop) (n : Nat) (hstep : ∀ i, i < n → ∀ acc A, P i acc A → lstAt A D = some acc → ∃ v, sr.at A i = some (some v) ∧
      ((∃ y A', step v A = .ok (some y) A' ∧ lstAt A' D = some acc ∧ acc.length < sizeLine ∧ P (i + 1) (acc ++ [y]) (setL A' D (acc ++ [y]))) ∨ (∃ A', step v A = .ok none A' ∧ lstAt A' D = some acc ∧ P (i + 1) acc A')))
    (hend : ∀ acc A, P n acc A → sr.at A n = some none) (hset : ∀ A acc y, lstAt A D = some acc → lstAt (setL A D y) D = some y) : ∀ (m i : Nat), i + m = n → ∀ acc A, P i acc A → lstAt A D = some acc → ∃ acc' A', compL step sr D m i A = .ok (.ref D) A' ∧ P n acc' A' ∧ lstAt A' D = some acc'
  | 0, i, h, acc, A, hp, hl => by
    obtain rfl : i = n := by omega
    refine ⟨acc, A, ?_, hp, hl⟩
    unfold compL
    rw [hend acc A hp]
  | m + 1, i, h, acc, A, hp, hl => by
    obtain ⟨v, e1, hb⟩ := hstep i (by omega) acc A hp hl
    rcases hb with ⟨y, A', e2, e3, e4, h2⟩ | ⟨A', e2, e3, h2⟩
    · obtain ⟨acc', A2, k1, k2, k3⟩ := compL_rule P n hstep hend hset m (i + 1) (by omega) (acc ++ [y]) _ h2 (hset A' acc _ e3)
      refine ⟨acc', A2, ?_, k2, k3⟩
      rw [← k1]
      conv => lhs; unfold compL
      simp only [e1, e2, e3]
      rw [if_pos e4]
    · obtain ⟨acc', A2, k1, k2, k3⟩ := compL_rule P n hstep hend hset m (i + 1) (by omega) acc _ h2 e3
      refine ⟨acc', A2, ?_, k2, k3⟩
      rw [← k1]
      conv => lhs; unfold compL
      simp only [e1, e2]
theorem lst_set {A : AH} {D : Nat} {acc y : List AV} (h : lstAt A D = some acc) : lstAt (setL A D y) D = some y := by
  rw [lstAt_iff] at h ⊢
  unfold setL
  rw [List.getElem?_set_self (List.getElem?_eq_some_iff.mp h).1]
end
/-! ### sizes -/
/-- below 2 to the n-th, of either sign -/
def Bd (n : Nat) (i : Int) : Prop := i.natAbs < 2 ^ n
theorem Bd.log {n : Nat} {i : Int} (h : Bd n i) (hn : 0 < n) : i.natAbs.log2 < n := by
  by_cases h0 : i.natAbs = 0
  · rw [h0]; simpa using hn
  · exact (Nat.log2_lt h0).mpr h
theorem Bd.mono {n m : Nat} {i : Int} (h : Bd n i) (hm : n ≤ m) : Bd m i := Nat.lt_of_lt_of_le h (Nat.pow_le_pow_right (by omega) hm)
theorem Bd.add {n m : Nat} {i j : Int} (h : Bd n i) (h' : Bd n j) (hm : n + 1 ≤ m) : Bd m (i + j) := by
  refine Bd.mono (n := n + 1) ?_ hm
  unfold Bd at *
  rw [Nat.pow_succ]
  omega
theorem Bd.neg {n : Nat} {i : Int} (h : Bd n i) : Bd n (-i) := by unfold Bd at *; omega
theorem Bd.sub {n m : Nat} {i j : Int} (h : Bd n i) (h' : Bd n j) (hm : n + 1 ≤ m) : Bd m (i - j) := by
  rw [Int.sub_eq_add_neg]
  exact h.add h'.neg hm
theorem Bd.mul {n m k : Nat} {i j : Int} (h : Bd n i) (h' : Bd m j) (hk : n + m ≤ k) : Bd k (i * j) := by
  refine Bd.mono (n := n + m) ?_ hk
  unfold Bd at *
  rw [Int.natAbs_mul, Nat.pow_add]
  exact Nat.mul_lt_mul'' h h'
theorem op_mulB {A : AH} {n m : Nat} {i j : Int} (h : Bd n i) (h' : Bd m j) (hn : 0 < n) (hm : 0 < m) (hk : n + m ≤ 1000000) : opA A .mul (.int i) (.int j) = .ok (.int (i * j)) A := by
  rw [op_mulI]
  exact if_pos (by have := h.log hn; have := h'.log hm; omega)
theorem op_fdivB {A : AH} {n : Nat} {i j : Int} (h : Bd n j) (hn : 0 < n) (hk : n ≤ 9000) (h0 : j ≠ 0) : opA A .fdiv (.int i) (.int j) = .ok (.int (i.fdiv j)) A := by
  rw [op_fdivI]
  exact if_pos ⟨h0, by have := h.log hn; omega⟩
theorem call_eq {T : Tb} {k f : Nat} {vs : List AV} {A : AH} {d : FnT} (h : T.fns[f]? = some d) (hl : vs.length = d.ps.length) : callN T (k + 1) f vs A = retA (exSs (clOf T (callN T k)) (startA d.N.length vs) d.body A) := by
  show (match T.fns[f]? with | none => R.stuck | some d => if vs.length = d.ps.length then retA (exSs (clOf T (callN T k)) (startA d.N.length vs) d.body A) else .stuck) = _
  rw [h]
  exact if_pos hl
end MP

set_option maxRecDepth 100000
set_option autoImplicit false
set_option maxHeartbeats 1000000
/-! MQ2: the laws' own helpers: the draw, the greatest common measure, fractions. -/
namespace MP
open PySem

/-- the table's f-th def: np parameters, n slots, this body -/
structure Has (T : Tb) (f np n : Nat) (body : MSs) : Prop where
  ex : ∃ d, T.fns[f]? = some d ∧ d.ps.length = np ∧ d.N.length = n ∧ d.body = body
theorem Has.call {T : Tb} {f np n : Nat} {body : MSs} (h : Has T f np n body) {k : Nat} {vs : List AV} {A : AH} (hl : vs.length = np) : callN T (k + 1) f vs A = retA (exSs (clOf T (callN T k)) (startA n vs) body A) := by
  obtain ⟨d, h1, h2, h3, h4⟩ := h.ex
  rw [call_eq h1 (by rw [hl, h2]), h3, h4]
/-! ### the draw -/
abbrev Dr := Int × Int × Int
def Dr.ok (d : Dr) : Prop := 0 ≤ d.2.2 ∧ d.2.2 < 2147483647
/-- the script, the draw's list, what stands behind -/
def hp (ns : List Int) (d : Dr) (B : AH) : AH := .ro (ns.map AV.int) :: .lst [.ref 0, .int d.1, .int d.2.1, .int d.2.2] :: B
def drawB : MSs := (.cons (.iff (.cmp .gt (.idx (.var 0) (.cst (.int 2))) (.cst (.int 0))) (.cons (.asg (.nm 2) (.bin .mod (.idx (.var 0) (.cst (.int 2))) (.var 1)))
    (.cons (.setSub (.var 0) (.cst (.int 2)) (.bin .fdiv (.idx (.var 0) (.cst (.int 2))) (.var 1)))
    (.cons (.ret (.var 2))
    .nil))) .nil)
    (.cons (.asg (.nm 3) (.cst (.int 0)))
    (.cons (.iff (.cmp .gt (.blt .len (.cons (.idx (.var 0) (.cst (.int 0))) .nil)) (.cst (.int 0))) (.cons (.asg (.nm 3) (.idx (.idx (.var 0) (.cst (.int 0))) (.bin .mod (.idx (.var 0) (.cst (.int 1))) (.blt .len (.cons (.idx (.var 0) (.cst (.int 0))) .nil)))))
    .nil) .nil)
    (.cons (.setSub (.var 0) (.cst (.int 1)) (.bin .add (.idx (.var 0) (.cst (.int 1))) (.cst (.int 1))))
    (.cons (.iff (.cmp .le (.var 3) (.bin .sub (.cst (.int 0)) (.bin .pow (.cst (.int 10)) (.cst (.int 18))))) (.cons (.asg (.nm 3) (.bin .sub (.cst (.int 0)) (.var 3)))
    .nil) .nil)
    (.cons (.iff (.cmp .ge (.var 3) (.bin .pow (.cst (.int 10)) (.cst (.int 18)))) (.cons (.setSub (.var 0) (.cst (.int 2)) (.bin .fdiv (.var 3) (.var 1)))
    (.cons (.ret (.bin .mod (.var 3) (.var 1)))
    .nil)) .nil)
    (.cons (.setSub (.var 0) (.cst (.int 3)) (.bin .mod (.bin .add (.bin .add (.bin .mul (.idx (.var 0) (.cst (.int 3))) (.cst (.int 69621))) (.bin .mod (.var 3) (.cst (.int 2147483647)))) (.idx (.var 0) (.cst (.int 1)))) (.cst (.int 2147483647))))
    (.cons (.ret (.bin .mod (.bin .fdiv (.idx (.var 0) (.cst (.int 3))) (.cst (.int 64))) (.var 1)))
    .nil))))))))
theorem fmod_bd {a b : Int} (hb : 0 < b) : 0 ≤ a.fmod b ∧ a.fmod b < b := by
  rw [Int.fmod_eq_emod_of_nonneg _ (by omega)]
  exact ⟨Int.emod_nonneg _ (by omega), Int.emod_lt_of_pos _ hb⟩
theorem pow18 {A : AH} : opA A .pow (.int 10) (.int 18) = .ok (.int 1000000000000000000) A := rfl
theorem idx_ro {A : AH} {n : Nat} {vs : List AV} (h : A[n]? = some (.ro vs)) (i : Int) : idxA A (.ref n) (.int i) = L2.atI vs i := by
  show (match A[n]?.bind AO.items? with | some vs => L2.atI vs i | none => none) = _
  rw [h]; rfl
theorem idx_lst {A : AH} {n : Nat} {vs : List AV} (h : A[n]? = some (.lst vs)) (i : Int) : idxA A (.ref n) (.int i) = L2.atI vs i := by
  show (match A[n]?.bind AO.items? with | some vs => L2.atI vs i | none => none) = _
  rw [h]; rfl
theorem len_ro {A : AH} {n : Nat} {vs : List AV} (h : A[n]? = some (.ro vs)) : bltA A .len [.ref n] = .ok (.int vs.length) A := by
  show (match A[n]?.bind AO.items? with | some vs => R.ok (AV.int vs.length) A | none => .stuck) = _
  rw [h]; rfl
theorem len_lst {A : AH} {n : Nat} {vs : List AV} (h : A[n]? = some (.lst vs)) : bltA A .len [.ref n] = .ok (.int vs.length) A := by
  show (match A[n]?.bind AO.items? with | some vs => R.ok (AV.int vs.length) A | none => .stuck) = _
  rw [h]; rfl
theorem set_lst {A : AH} {n : Nat} {vs : List AV} (h : A[n]? = some (.lst vs)) {i : Int} {j : Nat} (hi : L2.ixN vs.length i = some j) (v : AV) : setSubA A (.ref n) (.int i) v = some (A.set n (.lst (vs.set j v))) := by
  show (match lstAt A n with | some vs => (L2.ixN vs.length i).map fun j => setL A n (vs.set j v) | none => none) = _
  rw [lstAt_iff.mpr h]
  show (L2.ixN vs.length i).map (fun j => setL A n (vs.set j v)) = _
  rw [hi]; rfl
theorem rcv_lst {A : AH} {n : Nat} {vs : List AV} (h : A[n]? = some (.lst vs)) : rcvA A .append (.ref n) = true := by
  show (lstAt A n).isSome = true
  rw [lstAt_iff.mpr h]; rfl
theorem app_lst {A : AH} {n : Nat} {vs : List AV} (h : A[n]? = some (.lst vs)) (hs : vs.length < sizeLine) (v : AV) : bmA A .append (.ref n) [v] = .ok .non (A.set n (.lst (vs ++ [v]))) := by
  show (match lstAt A n with | some vs => if vs.length < sizeLine then R.ok AV.non (setL A n (vs ++ [v])) else .stuck | none => .stuck) = _
  rw [lstAt_iff.mpr h]
  exact if_pos hs
section
variable {ns : List Int} {d : Dr} {B : AH}
@[simp] theorem hp_0 : (hp ns d B)[0]? = some (.ro (ns.map AV.int)) := ofEq rfl
@[simp] theorem hp_1 : (hp ns d B)[1]? = some (.lst [.ref 0, .int d.1, .int d.2.1, .int d.2.2]) := ofEq rfl
@[simp] theorem hp_len : (hp ns d B).length = B.length + 2 := ofEq rfl
@[simp] theorem hp_app (C : AH) : hp ns d B ++ C = hp ns d (B ++ C) := ofEq rfl
@[simp] theorem hp_d (i : Int) : idxA (hp ns d B) (.ref 1) (.int i) = L2.atI [.ref 0, .int d.1, .int d.2.1, .int d.2.2] i := idx_lst hp_1 i
@[simp] theorem hp_s (i : Int) : idxA (hp ns d B) (.ref 0) (.int i) = L2.atI (ns.map AV.int) i := idx_ro hp_0 i
@[simp] theorem hp_l : bltA (hp ns d B) .len [.ref 0] = .ok (.int ns.length) (hp ns d B) := by rw [len_ro hp_0, List.length_map]
@[simp] theorem hp_set1 (v : Int) : setSubA (hp ns d B) (.ref 1) (.int 1) (.int v) = some (hp ns (v, d.2.1, d.2.2) B) := by rw [set_lst (j := 1) hp_1 rfl]; rfl
@[simp] theorem hp_set2 (v : Int) : setSubA (hp ns d B) (.ref 1) (.int 2) (.int v) = some (hp ns (d.1, v, d.2.2) B) := by rw [set_lst (j := 2) hp_1 rfl]; rfl
@[simp] theorem hp_set3 (v : Int) : setSubA (hp ns d B) (.ref 1) (.int 3) (.int v) = some (hp ns (d.1, d.2.1, v) B) := by rw [set_lst (j := 3) hp_1 rfl]; rfl
end
theorem fdiv_ok {A : AH} {i j : Int} (h0 : 0 < j) (h1 : j < 2 ^ 200) : opA A .fdiv (.int i) (.int j) = .ok (.int (i.fdiv j)) A := op_fdivB (n := 200) (by unfold Bd; omega) (by omega) (by omega) (by omega)
theorem draw_ok {T : Tb} {f : Nat} (h : Has T f 2 4 drawB) (k : Nat) (ns : List Int) (d : Dr) (hd : d.ok) (B : AH) (m : Int) (hm : 0 < m) (hm2 : m < 2 ^ 200) :
    ∃ (v : Int) (d' : Dr), callN T (k + 1) f [.ref 1, .int m] (hp ns d B) = .ok (.int v) (hp ns d' B) ∧ 0 ≤ v ∧ v < m ∧ d'.ok := by
  obtain ⟨p, r, s⟩ := d
  have m0 : m ≠ 0 := by omega
  rw [h.call rfl]
  unfold drawB
  by_cases hr : 0 < r
  · refine ⟨r.fmod m, (p, r.fdiv m, s), ?_, (fmod_bd hm).1, (fmod_bd hm).2, hd⟩
    simp [startA, hr, m0, fdiv_ok hm hm2]
  · have hc : ∀ c : Int, ∃ (v : Int) (d' : Dr), retA (exSs (clOf T (callN T k)) [some (.ref 1), some (.int m), none, some (.int c)] (.cons (.setSub (.var 0) (.cst (.int 1)) (.bin .add (.idx (.var 0) (.cst (.int 1))) (.cst (.int 1))))
    (.cons (.iff (.cmp .le (.var 3) (.bin .sub (.cst (.int 0)) (.bin .pow (.cst (.int 10)) (.cst (.int 18))))) (.cons (.asg (.nm 3) (.bin .sub (.cst (.int 0)) (.var 3)))
    .nil) .nil)
    (.cons (.iff (.cmp .ge (.var 3) (.bin .pow (.cst (.int 10)) (.cst (.int 18)))) (.cons (.setSub (.var 0) (.cst (.int 2)) (.bin .fdiv (.var 3) (.var 1)))
    (.cons (.ret (.bin .mod (.var 3) (.var 1)))
    .nil)) .nil)
    (.cons (.setSub (.var 0) (.cst (.int 3)) (.bin .mod (.bin .add (.bin .add (.bin .mul (.idx (.var 0) (.cst (.int 3))) (.cst (.int 69621))) (.bin .mod (.var 3) (.cst (.int 2147483647)))) (.idx (.var 0) (.cst (.int 1)))) (.cst (.int 2147483647))))
    (.cons (.ret (.bin .mod (.bin .fdiv (.idx (.var 0) (.cst (.int 3))) (.cst (.int 64))) (.var 1)))
    .nil))))) (hp ns (p, r, s) B)) = .ok (.int v) (hp ns d' B) ∧ 0 ≤ v ∧ v < m ∧ d'.ok := fun c => by
      have key : ∀ c' : Int, ∃ (v : Int) (d' : Dr), retA (exSs (clOf T (callN T k)) [some (.ref 1), some (.int m), none, some (.int c')] (.cons (.iff (.cmp .ge (.var 3) (.bin .pow (.cst (.int 10)) (.cst (.int 18)))) (.cons (.setSub (.var 0) (.cst (.int 2)) (.bin .fdiv (.var 3) (.var 1)))
    (.cons (.ret (.bin .mod (.var 3) (.var 1)))
    .nil)) .nil)
    (.cons (.setSub (.var 0) (.cst (.int 3)) (.bin .mod (.bin .add (.bin .add (.bin .mul (.idx (.var 0) (.cst (.int 3))) (.cst (.int 69621))) (.bin .mod (.var 3) (.cst (.int 2147483647)))) (.idx (.var 0) (.cst (.int 1)))) (.cst (.int 2147483647))))
    (.cons (.ret (.bin .mod (.bin .fdiv (.idx (.var 0) (.cst (.int 3))) (.cst (.int 64))) (.var 1)))
    .nil))) (hp ns (p + 1, r, s) B)) = .ok (.int v) (hp ns d' B) ∧ 0 ≤ v ∧ v < m ∧ d'.ok := fun c' => by
        by_cases h18 : 1000000000000000000 ≤ c'
        · refine ⟨c'.fmod m, (p + 1, c'.fdiv m, s), ?_, (fmod_bd hm).1, (fmod_bd hm).2, hd⟩
          simp [h18, m0, pow18, fdiv_ok hm hm2]
        · have hs : opA (hp ns (p + 1, r, s) B) .mul (.int s) (.int 69621) = .ok (.int (s * 69621)) (hp ns (p + 1, r, s) B) := op_mulB (n := 32) (m := 32) (by have := hd.1; have := hd.2; unfold Bd; simp only at *; omega) (by unfold Bd; omega) (by omega) (by omega) (by omega)
          refine ⟨(((s * 69621 + c'.fmod 2147483647 + (p + 1)).fmod 2147483647).fdiv 64).fmod m, (p + 1, r, (s * 69621 + c'.fmod 2147483647 + (p + 1)).fmod 2147483647), ?_, (fmod_bd hm).1, (fmod_bd hm).2, fmod_bd (by omega)⟩
          simp [h18, m0, pow18, hs, fdiv_ok (j := 64) (by omega) (by omega)]
      by_cases h18 : c ≤ -1000000000000000000
      · obtain ⟨v, d', e, hv⟩ := key (0 - c)
        refine ⟨v, d', ?_, hv⟩
        rw [← e]
        simp [h18, pow18]
      · obtain ⟨v, d', e, hv⟩ := key c
        refine ⟨v, d', ?_, hv⟩
        rw [← e]
        simp [h18, pow18]
    by_cases hn : 0 < ns.length
    · have hb := fmod_bd (a := p) (b := (ns.length : Int)) (by omega)
      have hix : ∃ c : Int, L2.atI (ns.map AV.int) (p.fmod ns.length) = some (.int c) := by
        obtain ⟨q, hq⟩ := Int.eq_ofNat_of_zero_le hb.1
        rw [hq, atI_nat, List.getElem?_map]
        have : q < ns.length := by have := hb.2; omega
        exact ⟨ns[q], by rw [List.getElem?_eq_getElem this]; rfl⟩
      obtain ⟨c, hcx⟩ := hix
      obtain ⟨v, d', e, hv⟩ := hc c
      refine ⟨v, d', ?_, hv⟩
      rw [← e]
      have n0 : (ns.length : Int) ≠ 0 := by omega
      simp [startA, hr, hn, n0, hcx, List.length_pos_iff.mp hn]
    · obtain ⟨v, d', e, hv⟩ := hc 0
      refine ⟨v, d', ?_, hv⟩
      rw [← e]
      obtain rfl : ns = [] := List.length_eq_zero_iff.mp (by omega)
      simp [startA, hr]
end MP

set_option maxRecDepth 100000
set_option autoImplicit false
set_option maxHeartbeats 1000000
/-! MQ3: greatest common measures, fractions. -/
namespace MP
open PySem

abbrev gLoopB : MSs := .cons (.par [0, 1] (.cons (.var 1) (.cons (.bin .mod (.var 0) (.var 1)) .nil))) .nil
theorem gcd_step {a b : Int} (ha : 0 ≤ a) (hb : 0 < b) : Int.gcd b (a.fmod b) = Int.gcd a b := by
  rw [Int.fmod_eq_emod_of_nonneg _ (by omega)]
  obtain ⟨m, rfl⟩ := Int.eq_ofNat_of_zero_le ha
  obtain ⟨n, rfl⟩ := Int.eq_ofNat_of_zero_le (show 0 ≤ b by omega)
  show Nat.gcd n ((m : Int) % (n : Int)).natAbs = Nat.gcd m n
  rw [← Int.natCast_emod, Int.natAbs_natCast, Nat.gcd_comm m n, Nat.gcd_rec n m, Nat.gcd_comm]
theorem gcd_loop (c : Cl) (A : AH) : ∀ (n : Nat) (a b : Int), 0 ≤ a → 0 ≤ b → b.toNat ≤ n → whlD c (.cmp .gt (.var 1) (.cst (.int 0))) gLoopB [some (.int a), some (.int b)] A = .nx [some (.int (Int.gcd a b : Int)), some (.int 0)] A := by
  intro n
  induction n with
  | zero =>
    intro a b ha hb hn
    obtain rfl : b = 0 := by omega
    rw [whlD_eq]
    simp
    omega
  | succ n ih =>
    intro a b ha hb hn
    rw [whlD_eq]
    by_cases h : b = 0
    · subst h; simp; omega
    · obtain ⟨h1, h2⟩ := fmod_bd (a := a) (show 0 < b by omega)
      simp [h, show 0 < b by omega]
      rw [ih b (a.fmod b) hb h1 (by omega), gcd_step ha (by omega)]
/-- the program's: by abs -/
def commonB : MSs := (.cons (.par [0, 1] (.cons (.blt .abs (.cons (.var 0) .nil)) (.cons (.blt .abs (.cons (.var 1) .nil)) .nil)))
    (.cons (.whl (.cmp .gt (.var 1) (.cst (.int 0))) gLoopB)
    (.cons (.ret (.var 0))
    .nil)))
/-- the laws': by signs -/
def lgcdB : MSs := (.cons (.iff (.cmp .lt (.var 0) (.cst (.int 0))) (.cons (.asg (.nm 0) (.neg (.var 0)))
    .nil) .nil)
    (.cons (.iff (.cmp .lt (.var 1) (.cst (.int 0))) (.cons (.asg (.nm 1) (.neg (.var 1)))
    .nil) .nil)
    (.cons (.whl (.cmp .gt (.var 1) (.cst (.int 0))) gLoopB)
    (.cons (.ret (.var 0))
    .nil))))
/-- it tells the greatest common measure -/
def GcdOk (T : Tb) (f : Nat) : Prop := ∀ (k : Nat) (A : AH) (a b : Int), callN T (k + 1) f [.int a, .int b] A = .ok (.int (Int.gcd a b : Int)) A
theorem common_ok {T : Tb} {f : Nat} (h : Has T f 2 2 commonB) : GcdOk T f := fun k A a b => by
  rw [h.call rfl]
  simp [commonB, startA]
  rw [gcd_loop _ _ _ _ _ (by split <;> omega) (by split <;> omega) (Nat.le_refl _)]
  simp
  split <;> split <;> simp
theorem lgcd_ok {T : Tb} {f : Nat} (h : Has T f 2 2 lgcdB) : GcdOk T f := fun k A a b => by
  rw [h.call rfl]
  by_cases ha : a < 0
  · by_cases hb : b < 0
    · simp [lgcdB, startA, ha, hb]
      rw [gcd_loop _ _ _ _ _ (by omega) (by omega) (Nat.le_refl _)]
      simp
    · simp [lgcdB, startA, ha, hb]
      rw [gcd_loop _ _ _ _ _ (by omega) (by omega) (Nat.le_refl _)]
      simp
  · by_cases hb : b < 0
    · simp [lgcdB, startA, ha, hb]
      rw [gcd_loop _ _ _ _ _ (by omega) (by omega) (Nat.le_refl _)]
      simp
    · simp [lgcdB, startA, ha, hb]
      rw [gcd_loop _ _ _ _ _ (by omega) (by omega) (Nat.le_refl _)]
      simp
/-! ### lowest terms -/
abbrev Pt := Int × Int
def pv (p : Pt) : AV := .tup [.int p.1, .int p.2]
def low (a b : Int) : Pt := if b < 0 then (a.fdiv (-(Int.gcd a b : Int)), b.fdiv (-(Int.gcd a b : Int))) else (a.fdiv (Int.gcd a b : Int), b.fdiv (Int.gcd a b : Int))
def Part (p : Pt) : Prop := 1 ≤ p.2 ∧ Int.gcd p.1 p.2 = 1
theorem low_spec (a b : Int) (h : b ≠ 0) : ∃ q r : Int, a = (Int.gcd a b : Int) * q ∧ b = (Int.gcd a b : Int) * r ∧ r ≠ 0 ∧ Int.gcd q r = 1 ∧ 0 < (Int.gcd a b : Int) ∧ low a b = if b < 0 then (-q, -r) else (q, r) := by
  have hg : Int.gcd a b ≠ 0 := fun z => h (Int.gcd_eq_zero_iff.mp z).2
  have hg0 : 0 < (Int.gcd a b : Int) := by omega
  obtain ⟨q, hq⟩ := Int.gcd_dvd_left a b
  obtain ⟨r, hr⟩ := Int.gcd_dvd_right a b
  have e : Int.gcd a b = Int.gcd a b * Int.gcd q r := by
    have : Int.gcd ((Int.gcd a b : Int) * q) ((Int.gcd a b : Int) * r) = (Int.gcd a b : Int).natAbs * Int.gcd q r := Int.gcd_mul_left ..
    rw [← hq, ← hr, Int.natAbs_natCast] at this
    exact this
  refine ⟨q, r, hq, hr, fun z => h (by rw [hr, z, Int.mul_zero]), ?_, hg0, ?_⟩
  · have e2 : Int.gcd a b * Int.gcd q r = Int.gcd a b * 1 := by rw [Nat.mul_one]; exact e.symm
    exact Nat.eq_of_mul_eq_mul_left (by omega) e2
  · have h1 : a.fdiv (Int.gcd a b : Int) = q := by
      conv => lhs; rw [hq]
      have : ((Int.gcd a b : Int) * q).fdiv (Int.gcd a b : Int) = q := Int.mul_fdiv_cancel_left q (by omega)
      rw [← hq] at this ⊢
      exact this
    have h2 : b.fdiv (Int.gcd a b : Int) = r := by
      have : ((Int.gcd a b : Int) * r).fdiv (Int.gcd a b : Int) = r := Int.mul_fdiv_cancel_left r (by omega)
      rw [← hr] at this
      exact this
    have h3 : a.fdiv (-(Int.gcd a b : Int)) = -q := by
      have : (-(Int.gcd a b : Int) * (-q)).fdiv (-(Int.gcd a b : Int)) = -q := Int.mul_fdiv_cancel_left (-q) (by omega)
      rw [Int.neg_mul_neg, ← hq] at this
      exact this
    have h4 : b.fdiv (-(Int.gcd a b : Int)) = -r := by
      have : (-(Int.gcd a b : Int) * (-r)).fdiv (-(Int.gcd a b : Int)) = -r := Int.mul_fdiv_cancel_left (-r) (by omega)
      rw [Int.neg_mul_neg, ← hr] at this
      exact this
    unfold low
    rw [h1, h2, h3, h4]
theorem low_part {a b : Int} (h : b ≠ 0) : Part (low a b) := by
  obtain ⟨q, r, hq, hr, hr0, hg, hg0, e⟩ := low_spec a b h
  rw [e]
  by_cases hb : b < 0
  · rw [if_pos hb]
    refine ⟨?_, ?_⟩
    · show 1 ≤ -r
      have : r < 0 := by
        rcases Int.lt_trichotomy r 0 with z | z | z
        · exact z
        · exact absurd z hr0
        · have := Int.mul_pos hg0 z
          omega
      omega
    · show Int.gcd (-q) (-r) = 1
      simpa using hg
  · rw [if_neg hb]
    refine ⟨?_, hg⟩
    show 1 ≤ r
    rcases Int.lt_trichotomy r 0 with z | z | z
    · have := Int.mul_neg_of_pos_of_neg hg0 z
      omega
    · exact absurd z hr0
    · omega
theorem natAbs_mul_le {g q : Int} (h : 0 < g) : q.natAbs ≤ (g * q).natAbs := by
  rw [Int.natAbs_mul]
  exact Nat.le_mul_of_pos_left _ (by omega)
theorem low_bd {a b : Int} {n : Nat} (h : b ≠ 0) (ha : Bd n a) (hb : Bd n b) : Bd n (low a b).1 ∧ Bd n (low a b).2 := by
  obtain ⟨q, r, hq, hr, hr0, hg, hg0, e⟩ := low_spec a b h
  have h1 : Bd n q := Nat.lt_of_le_of_lt (by rw [hq]; exact natAbs_mul_le hg0) ha
  have h2 : Bd n r := Nat.lt_of_le_of_lt (by rw [hr]; exact natAbs_mul_le hg0) hb
  rw [e]
  split
  · exact ⟨h1.neg, h2.neg⟩
  · exact ⟨h1, h2⟩
theorem low_sign {a b : Int} (h : 0 < b) : (low a b).1 < 0 ↔ a < 0 := by
  obtain ⟨q, r, hq, hr, hr0, hg, hg0, e⟩ := low_spec a b (by omega)
  rw [e, if_neg (by omega)]
  constructor
  · intro z
    have := Int.mul_neg_of_pos_of_neg hg0 (show q < 0 from z)
    omega
  · intro z
    show q < 0
    rcases Int.lt_trichotomy q 0 with w | w | w
    · exact w
    · rw [w] at hq; omega
    · have := Int.mul_pos hg0 w
      omega
theorem low_self {p : Pt} (h : Part p) : low p.1 p.2 = p := by
  obtain ⟨h1, h2⟩ := h
  unfold low
  rw [if_neg (by omega), h2]
  simp
def lowB (g : Nat) : MSs := (.cons (.asg (.nm 2) (.call g (.cons (.var 0) (.cons (.var 1) .nil))))
    (.cons (.iff (.cmp .lt (.var 1) (.cst (.int 0))) (.cons (.asg (.nm 2) (.neg (.var 2)))
    .nil) .nil)
    (.cons (.ret (.tup (.cons (.bin .fdiv (.var 0) (.var 2)) (.cons (.bin .fdiv (.var 1) (.var 2)) .nil))))
    .nil)))
def LowOk (T : Tb) (f : Nat) : Prop := ∀ (k : Nat) (A : AH) (a b : Int) (n : Nat), 0 < n → n ≤ 9000 → Bd n b → b ≠ 0 → callN T (k + 2) f [.int a, .int b] A = .ok (pv (low a b)) A
theorem low_ok {T : Tb} {f g : Nat} (h : Has T f 2 3 (lowB g)) (hg : GcdOk T g) : LowOk T f := fun k A a b n hn h9 hb h0 => by
  have hgb : Bd n (Int.gcd a b : Int) := by
    unfold Bd at *
    have : Int.gcd a b ≤ b.natAbs := Nat.le_of_dvd (by omega) (Int.gcd_dvd_natAbs_right a b)
    simp; omega
  have hg0 : (Int.gcd a b : Int) ≠ 0 := by
    intro z
    have := Int.gcd_eq_zero_iff.mp (by omega : Int.gcd a b = 0)
    exact h0 this.2
  rw [h.call rfl]
  have hs : (2 : Nat) ≤ sizeLine := by decide +kernel
  unfold GcdOk at hg
  by_cases hb' : b < 0
  · simp [lowB, startA, hg, op_fdivB hgb.neg hn h9 (by omega), hb', hs, pv, low]
  · simp [lowB, startA, hg, op_fdivB hgb hn h9 (by omega), hb', hs, pv, low]
/-! ### looks -/
def wholeB : MSs := (.cons (.ret (.bop true (.cons (.isi (.var 0) .int) (.cons (.not (.isi (.var 0) .bool)) .nil))))
    .nil)
theorem whole_ok {T : Tb} {f : Nat} (h : Has T f 1 1 wholeB) (k : Nat) (A : AH) (i : Int) : callN T (k + 1) f [.int i] A = .ok (.bl true) A := by
  rw [h.call rfl]
  simp [wholeB, startA]
def truthB : MSs := (.cons (.ret (.bop true (.cons (.isi (.var 0) .bool) (.cons (.cmp .eq (.var 0) (.var 1)) .nil))))
    .nil)
theorem truth_ok {T : Tb} {f : Nat} (h : Has T f 2 2 truthB) (k : Nat) (A : AH) (a b : Bool) : callN T (k + 1) f [.bl a, .bl b] A = .ok (.bl (a == b)) A := by
  rw [h.call rfl]
  simp [truthB, startA, eq_bl]
def isPartB (w g : Nat) : MSs := (.cons (.iff (.bop false (.cons (.not (.isi (.var 0) .tuple)) (.cons (.cmp .ne (.blt .len (.cons (.var 0) .nil)) (.cst (.int 2))) .nil))) (.cons (.ret (.cst (.bl false)))
    .nil) .nil)
    (.cons (.iff (.bop false (.cons (.not (.call w (.cons (.idx (.var 0) (.cst (.int 0))) .nil))) (.cons (.not (.call w (.cons (.idx (.var 0) (.cst (.int 1))) .nil))) (.cons (.cmp .lt (.idx (.var 0) (.cst (.int 1))) (.cst (.int 1))) .nil)))) (.cons (.ret (.cst (.bl false)))
    .nil) .nil)
    (.cons (.ret (.cmp .eq (.call g (.cons (.idx (.var 0) (.cst (.int 0))) (.cons (.idx (.var 0) (.cst (.int 1))) .nil))) (.cst (.int 1))))
    .nil)))
theorem isPart_ok {T : Tb} {f w g : Nat} (h : Has T f 1 1 (isPartB w g)) (hw : Has T w 1 1 wholeB) (hg : GcdOk T g) (k : Nat) (A : AH) {p : Pt} (hp : Part p) : callN T (k + 2) f [pv p] A = .ok (.bl true) A := by
  rw [h.call rfl]
  unfold GcdOk at hg
  obtain ⟨h1, h2⟩ := hp
  simp [isPartB, startA, pv, ne_int, whole_ok hw, hg, h1, h2]
def samePartB (i : Nat) : MSs := (.cons (.ret (.bop true (.cons (.call i (.cons (.var 0) .nil)) (.cons (.cmp .eq (.idx (.var 0) (.cst (.int 0))) (.idx (.var 1) (.cst (.int 0)))) (.cons (.cmp .eq (.idx (.var 0) (.cst (.int 1))) (.idx (.var 1) (.cst (.int 1)))) .nil)))))
    .nil)
def IsPartOk (T : Tb) (f : Nat) : Prop := ∀ (k : Nat) (A : AH) (p : Pt), Part p → callN T (k + 2) f [pv p] A = .ok (.bl true) A
theorem samePart_ok {T : Tb} {f i : Nat} (h : Has T f 2 2 (samePartB i)) (hi : IsPartOk T i) (k : Nat) (A : AH) {p : Pt} (hp : Part p) : callN T (k + 3) f [pv p, pv p] A = .ok (.bl true) A := by
  rw [h.call rfl]
  have e := hi k A p hp
  unfold pv at e ⊢
  simp [samePartB, startA, e]
def pd (p : Pt) : PyData := .tuple [.int p.1, .int p.2]
theorem pv_D {A : AH} {n : Nat} (p : Pt) : toD A (n + 2) (pv p) = some (pd p) := rfl
theorem pd_eqv (p q : Pt) : PyData.eqv (pd p) (pd q) = decide (p = q) := by
  obtain ⟨a, b⟩ := p
  obtain ⟨c, d⟩ := q
  simp [pd, PyData.eqv, PyData.eqvAll, beq_dec]
theorem eqvAll_refl {α : Type} (f : α → PyData) (h : ∀ x, PyData.eqv (f x) (f x) = true) : ∀ l : List α, PyData.eqvAll (l.map f) (l.map f) = true
  | [] => by simp [PyData.eqvAll]
  | x :: xs => by
    rw [List.map_cons, PyData.eqvAll, h x, eqvAll_refl f h xs]
    rfl
end MP

set_option maxRecDepth 100000
set_option autoImplicit false
set_option maxHeartbeats 1000000
/-! MQ4: the evaluator for simp: slices, f-strings, classes, exceptions. -/
namespace MP
open PySem L2
@[simp] theorem clOf_init {T : Tb} {call : Nat → List AV → AH → R AV} : (clOf T call).init = T.initN := ofEq rfl
@[simp] theorem clOf_meth {T : Tb} {call : Nat → List AV → AH → R AV} : (clOf T call).meth = T.methN := ofEq rfl
@[simp] theorem clOf_dun {T : Tb} {call : Nat → List AV → AH → R AV} : (clOf T call).dun = T.dunN := ofEq rfl
@[simp] theorem clOf_ownB {T : Tb} {call : Nat → List AV → AH → R AV} : (clOf T call).ownB = T.ownN := ofEq rfl
@[simp] theorem clOf_fldB {T : Tb} {call : Nat → List AV → AH → R AV} : (clOf T call).fldB = T.fldN := ofEq rfl
@[simp] theorem clOf_xf {T : Tb} {call : Nat → List AV → AH → R AV} (C : Nat) (vs : List AV) : (clOf T call).xf C vs = xfN T.cls 8 C vs := ofEq rfl
@[simp] theorem clOf_sub {T : Tb} {call : Nat → List AV → AH → R AV} : (clOf T call).sub = subT T.cls := ofEq rfl
@[simp] theorem clOf_ex {T : Tb} {call : Nat → List AV → AH → R AV} : (clOf T call).ex = none := ofEq rfl
@[simp] theorem inX_none (c : Cl) (C n : Nat) : (inX c none C n).ex = none := ofEq rfl
@[simp] theorem inX_some (c : Cl) (i C n : Nat) : (inX c (some i) C n).ex = some (i, C, n) := ofEq rfl
@[simp] theorem inX_call (c : Cl) (i : Option Nat) (C n : Nat) : (inX c i C n).call = c.call := ofEq rfl
@[simp] theorem inX_gl (c : Cl) (i : Option Nat) (C n : Nat) : (inX c i C n).gl = c.gl := ofEq rfl
@[simp] theorem inX_sub (c : Cl) (i : Option Nat) (C n : Nat) : (inX c i C n).sub = c.sub := ofEq rfl
@[simp] theorem inX_fldB (c : Cl) (i : Option Nat) (C n : Nat) : (inX c i C n).fldB = c.fldB := ofEq rfl
@[simp] theorem inX_ownB (c : Cl) (i : Option Nat) (C n : Nat) : (inX c i C n).ownB = c.ownB := ofEq rfl
@[simp] theorem inX_form (c : Cl) (i : Option Nat) (C n : Nat) : (inX c i C n).form = c.form := ofEq rfl
@[simp] theorem bndA_nil : bndA [] = some none := ofEq rfl
@[simp] theorem bndA_int (i : Int) : bndA [.int i] = some (some i) := ofEq rfl
/-- what an own method tells, by kind -/
@[simp] theorem bolO_bl (b : Bool) (A : AH) : bolO (.ok (.bl b) A) = .ok (.bl b) A := ofEq rfl
@[simp] theorem strO_str (x : Str) (A : AH) : strO (.ok (.str x) A) = .ok (.str x) A := ofEq rfl
@[simp] theorem lenO_int (n : Int) (A : AH) : lenO (.ok (.int n) A) = if 0 ≤ n ∧ n < 2 ^ 62 then .ok (.int n) A else .stuck := ofEq rfl
def slcR2 (A : AH) (v : AV) (i : Option Int) (o : Option (Option Int)) : R AV := match o with
  | some j => sliceA A i j v
  | none => .stuck
@[simp] theorem slcR2_some (A : AH) (v : AV) (i : Option Int) (j : (Option Int)) : slcR2 A v i (some j) = sliceA A i j v := ofEq rfl
@[simp] theorem slcR2_none (A : AH) (v : AV) (i : Option Int) : slcR2 A v i none = .stuck := ofEq rfl
def slcK3 (v : AV) (i : Option Int) (r : R (List AV)) : R AV := match r with
  | .ok h A => slcR2 A v i (bndA h)
  | .exc C fs A => .exc C fs A
  | .stuck => .stuck
theorem slcK3_eq (v : AV) (i : Option Int) (r : R (List AV)) : slcK3 v i r = r.bind fun h A => slcR2 A v i (bndA h) := by cases r <;> rfl
@[simp] theorem slcK3_ok (v : AV) (i : Option Int) (h : (List AV)) (A : AH) : slcK3 v i (.ok h A) = slcR2 A v i (bndA h) := ofEq rfl
@[simp] theorem slcK3_exc (v : AV) (i : Option Int) (C : Nat) (fs : List (Str × AV)) (A : AH) : slcK3 v i (.exc C fs A) = .exc C fs A := ofEq rfl
@[simp] theorem slcK3_stuck (v : AV) (i : Option Int) : slcK3 v i .stuck = .stuck := ofEq rfl
@[simp] theorem slcK3_ite (v : AV) (i : Option Int) {pp : Prop} [Decidable pp] (r1 r2 : R (List AV)) : slcK3 v i (if pp then r1 else r2) = if pp then slcK3 v i r1 else slcK3 v i r2 := by split <;> rfl
def slcR1 (c : Cl) (s : AS) (hi : MEs) (v : AV) (A : AH) (o : Option (Option Int)) : R AV := match o with
  | some i => slcK3 v i (evs c s hi A)
  | none => .stuck
@[simp] theorem slcR1_some (c : Cl) (s : AS) (hi : MEs) (v : AV) (A : AH) (i : (Option Int)) : slcR1 c s hi v A (some i) = slcK3 v i (evs c s hi A) := ofEq rfl
@[simp] theorem slcR1_none (c : Cl) (s : AS) (hi : MEs) (v : AV) (A : AH) : slcR1 c s hi v A none = .stuck := ofEq rfl
def slcK2 (c : Cl) (s : AS) (hi : MEs) (v : AV) (r : R (List AV)) : R AV := match r with
  | .ok l A => slcR1 c s hi v A (bndA l)
  | .exc C fs A => .exc C fs A
  | .stuck => .stuck
theorem slcK2_eq (c : Cl) (s : AS) (hi : MEs) (v : AV) (r : R (List AV)) : slcK2 c s hi v r = r.bind fun l A => slcR1 c s hi v A (bndA l) := by cases r <;> rfl
@[simp] theorem slcK2_ok (c : Cl) (s : AS) (hi : MEs) (v : AV) (l : (List AV)) (A : AH) : slcK2 c s hi v (.ok l A) = slcR1 c s hi v A (bndA l) := ofEq rfl
@[simp] theorem slcK2_exc (c : Cl) (s : AS) (hi : MEs) (v : AV) (C : Nat) (fs : List (Str × AV)) (A : AH) : slcK2 c s hi v (.exc C fs A) = .exc C fs A := ofEq rfl
@[simp] theorem slcK2_stuck (c : Cl) (s : AS) (hi : MEs) (v : AV) : slcK2 c s hi v .stuck = .stuck := ofEq rfl
@[simp] theorem slcK2_ite (c : Cl) (s : AS) (hi : MEs) (v : AV) {pp : Prop} [Decidable pp] (r1 r2 : R (List AV)) : slcK2 c s hi v (if pp then r1 else r2) = if pp then slcK2 c s hi v r1 else slcK2 c s hi v r2 := by split <;> rfl
def slcK (c : Cl) (s : AS) (lo hi : MEs) (r : R AV) : R AV := match r with
  | .ok v A => slcK2 c s hi v (evs c s lo A)
  | .exc C fs A => .exc C fs A
  | .stuck => .stuck
theorem slcK_eq (c : Cl) (s : AS) (lo hi : MEs) (r : R AV) : slcK c s lo hi r = r.bind fun v A => slcK2 c s hi v (evs c s lo A) := by cases r <;> rfl
@[simp] theorem slcK_ok (c : Cl) (s : AS) (lo hi : MEs) (v : AV) (A : AH) : slcK c s lo hi (.ok v A) = slcK2 c s hi v (evs c s lo A) := ofEq rfl
@[simp] theorem slcK_exc (c : Cl) (s : AS) (lo hi : MEs) (C : Nat) (fs : List (Str × AV)) (A : AH) : slcK c s lo hi (.exc C fs A) = .exc C fs A := ofEq rfl
@[simp] theorem slcK_stuck (c : Cl) (s : AS) (lo hi : MEs) : slcK c s lo hi .stuck = .stuck := ofEq rfl
@[simp] theorem slcK_ite (c : Cl) (s : AS) (lo hi : MEs) {pp : Prop} [Decidable pp] (r1 r2 : R AV) : slcK c s lo hi (if pp then r1 else r2) = if pp then slcK c s lo hi r1 else slcK c s lo hi r2 := by split <;> rfl
def fldK (c : Cl) (f : Str) (r : R AV) : R AV := match r with
  | .ok v A => optR A (fldA c A f v)
  | .exc C fs A => .exc C fs A
  | .stuck => .stuck
theorem fldK_eq (c : Cl) (f : Str) (r : R AV) : fldK c f r = r.bind fun v A => optR A (fldA c A f v) := by cases r <;> rfl
@[simp] theorem fldK_ok (c : Cl) (f : Str) (v : AV) (A : AH) : fldK c f (.ok v A) = optR A (fldA c A f v) := ofEq rfl
@[simp] theorem fldK_exc (c : Cl) (f : Str) (C : Nat) (fs : List (Str × AV)) (A : AH) : fldK c f (.exc C fs A) = .exc C fs A := ofEq rfl
@[simp] theorem fldK_stuck (c : Cl) (f : Str) : fldK c f .stuck = .stuck := ofEq rfl
@[simp] theorem fldK_ite (c : Cl) (f : Str) {pp : Prop} [Decidable pp] (r1 r2 : R AV) : fldK c f (if pp then r1 else r2) = if pp then fldK c f r1 else fldK c f r2 := by split <;> rfl
def iscK (c : Cl) (D : Nat) (r : R AV) : R AV := match r with
  | .ok v A => blR A (iscA c A D v)
  | .exc C fs A => .exc C fs A
  | .stuck => .stuck
theorem iscK_eq (c : Cl) (D : Nat) (r : R AV) : iscK c D r = r.bind fun v A => blR A (iscA c A D v) := by cases r <;> rfl
@[simp] theorem iscK_ok (c : Cl) (D : Nat) (v : AV) (A : AH) : iscK c D (.ok v A) = blR A (iscA c A D v) := ofEq rfl
@[simp] theorem iscK_exc (c : Cl) (D : Nat) (C : Nat) (fs : List (Str × AV)) (A : AH) : iscK c D (.exc C fs A) = .exc C fs A := ofEq rfl
@[simp] theorem iscK_stuck (c : Cl) (D : Nat) : iscK c D .stuck = .stuck := ofEq rfl
@[simp] theorem iscK_ite (c : Cl) (D : Nat) {pp : Prop} [Decidable pp] (r1 r2 : R AV) : iscK c D (if pp then r1 else r2) = if pp then iscK c D r1 else iscK c D r2 := by split <;> rfl
def oeqR (c : Cl) (v w : AV) (A : AH) (o : Option Nat) : R AV := match o with
  | some f => if tyB c A w then bolO (c.call f [v, w] A) else .stuck
  | none => .stuck
@[simp] theorem oeqR_some (c : Cl) (v w : AV) (A : AH) (f : Nat) : oeqR c v w A (some f) = if tyB c A w then bolO (c.call f [v, w] A) else .stuck := ofEq rfl
@[simp] theorem oeqR_none (c : Cl) (v w : AV) (A : AH) : oeqR c v w A none = .stuck := ofEq rfl
def oeqK2 (c : Cl) (v : AV) (r : R AV) : R AV := match r with
  | .ok w A => oeqR c v w A (dunA c A "__eq__" v)
  | .exc C fs A => .exc C fs A
  | .stuck => .stuck
theorem oeqK2_eq (c : Cl) (v : AV) (r : R AV) : oeqK2 c v r = r.bind fun w A => oeqR c v w A (dunA c A "__eq__" v) := by cases r <;> rfl
@[simp] theorem oeqK2_ok (c : Cl) (v : AV) (w : AV) (A : AH) : oeqK2 c v (.ok w A) = oeqR c v w A (dunA c A "__eq__" v) := ofEq rfl
@[simp] theorem oeqK2_exc (c : Cl) (v : AV) (C : Nat) (fs : List (Str × AV)) (A : AH) : oeqK2 c v (.exc C fs A) = .exc C fs A := ofEq rfl
@[simp] theorem oeqK2_stuck (c : Cl) (v : AV) : oeqK2 c v .stuck = .stuck := ofEq rfl
@[simp] theorem oeqK2_ite (c : Cl) (v : AV) {pp : Prop} [Decidable pp] (r1 r2 : R AV) : oeqK2 c v (if pp then r1 else r2) = if pp then oeqK2 c v r1 else oeqK2 c v r2 := by split <;> rfl
def oeqK (c : Cl) (s : AS) (b : ME) (r : R AV) : R AV := match r with
  | .ok v A => oeqK2 c v (evE c s b A)
  | .exc C fs A => .exc C fs A
  | .stuck => .stuck
theorem oeqK_eq (c : Cl) (s : AS) (b : ME) (r : R AV) : oeqK c s b r = r.bind fun v A => oeqK2 c v (evE c s b A) := by cases r <;> rfl
@[simp] theorem oeqK_ok (c : Cl) (s : AS) (b : ME) (v : AV) (A : AH) : oeqK c s b (.ok v A) = oeqK2 c v (evE c s b A) := ofEq rfl
@[simp] theorem oeqK_exc (c : Cl) (s : AS) (b : ME) (C : Nat) (fs : List (Str × AV)) (A : AH) : oeqK c s b (.exc C fs A) = .exc C fs A := ofEq rfl
@[simp] theorem oeqK_stuck (c : Cl) (s : AS) (b : ME) : oeqK c s b .stuck = .stuck := ofEq rfl
@[simp] theorem oeqK_ite (c : Cl) (s : AS) (b : ME) {pp : Prop} [Decidable pp] (r1 r2 : R AV) : oeqK c s b (if pp then r1 else r2) = if pp then oeqK c s b r1 else oeqK c s b r2 := by split <;> rfl
def olenR (c : Cl) (v : AV) (A : AH) (o : Option Nat) : R AV := match o with
  | some f => lenO (c.call f [v] A)
  | none => .stuck
@[simp] theorem olenR_some (c : Cl) (v : AV) (A : AH) (f : Nat) : olenR c v A (some f) = lenO (c.call f [v] A) := ofEq rfl
@[simp] theorem olenR_none (c : Cl) (v : AV) (A : AH) : olenR c v A none = .stuck := ofEq rfl
def olenK (c : Cl) (r : R AV) : R AV := match r with
  | .ok v A => olenR c v A (dunA c A "__len__" v)
  | .exc C fs A => .exc C fs A
  | .stuck => .stuck
theorem olenK_eq (c : Cl) (r : R AV) : olenK c r = r.bind fun v A => olenR c v A (dunA c A "__len__" v) := by cases r <;> rfl
@[simp] theorem olenK_ok (c : Cl) (v : AV) (A : AH) : olenK c (.ok v A) = olenR c v A (dunA c A "__len__" v) := ofEq rfl
@[simp] theorem olenK_exc (c : Cl) (C : Nat) (fs : List (Str × AV)) (A : AH) : olenK c (.exc C fs A) = .exc C fs A := ofEq rfl
@[simp] theorem olenK_stuck (c : Cl) : olenK c .stuck = .stuck := ofEq rfl
@[simp] theorem olenK_ite (c : Cl) {pp : Prop} [Decidable pp] (r1 r2 : R AV) : olenK c (if pp then r1 else r2) = if pp then olenK c r1 else olenK c r2 := by split <;> rfl
def ostrR (c : Cl) (v : AV) (A : AH) (o : Option Nat) : R AV := match o with
  | some f => strO (c.call f [v] A)
  | none => .stuck
@[simp] theorem ostrR_some (c : Cl) (v : AV) (A : AH) (f : Nat) : ostrR c v A (some f) = strO (c.call f [v] A) := ofEq rfl
@[simp] theorem ostrR_none (c : Cl) (v : AV) (A : AH) : ostrR c v A none = .stuck := ofEq rfl
def ostrK (c : Cl) (r : R AV) : R AV := match r with
  | .ok v A => ostrR c v A (dunA c A "__str__" v)
  | .exc C fs A => .exc C fs A
  | .stuck => .stuck
theorem ostrK_eq (c : Cl) (r : R AV) : ostrK c r = r.bind fun v A => ostrR c v A (dunA c A "__str__" v) := by cases r <;> rfl
@[simp] theorem ostrK_ok (c : Cl) (v : AV) (A : AH) : ostrK c (.ok v A) = ostrR c v A (dunA c A "__str__" v) := ofEq rfl
@[simp] theorem ostrK_exc (c : Cl) (C : Nat) (fs : List (Str × AV)) (A : AH) : ostrK c (.exc C fs A) = .exc C fs A := ofEq rfl
@[simp] theorem ostrK_stuck (c : Cl) : ostrK c .stuck = .stuck := ofEq rfl
@[simp] theorem ostrK_ite (c : Cl) {pp : Prop} [Decidable pp] (r1 r2 : R AV) : ostrK c (if pp then r1 else r2) = if pp then ostrK c r1 else ostrK c r2 := by split <;> rfl
def orepK (c : Cl) (r : R AV) : R AV := match r with
  | .ok v A => ostrR c v A (dunA c A "__repr__" v)
  | .exc C fs A => .exc C fs A
  | .stuck => .stuck
theorem orepK_eq (c : Cl) (r : R AV) : orepK c r = r.bind fun v A => ostrR c v A (dunA c A "__repr__" v) := by cases r <;> rfl
@[simp] theorem orepK_ok (c : Cl) (v : AV) (A : AH) : orepK c (.ok v A) = ostrR c v A (dunA c A "__repr__" v) := ofEq rfl
@[simp] theorem orepK_exc (c : Cl) (C : Nat) (fs : List (Str × AV)) (A : AH) : orepK c (.exc C fs A) = .exc C fs A := ofEq rfl
@[simp] theorem orepK_stuck (c : Cl) : orepK c .stuck = .stuck := ofEq rfl
@[simp] theorem orepK_ite (c : Cl) {pp : Prop} [Decidable pp] (r1 r2 : R AV) : orepK c (if pp then r1 else r2) = if pp then orepK c r1 else orepK c r2 := by split <;> rfl
/-- a number's text -/
def numS (i : Int) : Str := toString i
def fmtR (A : AH) : AV → R AV
  | .str x => if x.length ≤ sizeLine then .ok (.str x) A else .stuck
  | .int i => if i.natAbs.log2 < 1920 then .ok (.str (toString i)) A else .stuck
  | _ => .stuck
@[simp] theorem fmtR_str (A : AH) (x : Str) : fmtR A (.str x) = if x.length ≤ sizeLine then .ok (.str x) A else .stuck := ofEq rfl
@[simp] theorem fmtR_int (A : AH) (i : Int) : fmtR A (.int i) = if i.natAbs.log2 < 1920 then .ok (.str (numS i)) A else .stuck := ofEq rfl
def fmtK  (r : R AV) : R AV := match r with
  | .ok v A => fmtR A v
  | .exc C fs A => .exc C fs A
  | .stuck => .stuck
theorem fmtK_eq  (r : R AV) : fmtK  r = r.bind fun v A => fmtR A v := by cases r <;> rfl
@[simp] theorem fmtK_ok  (v : AV) (A : AH) : fmtK  (.ok v A) = fmtR A v := ofEq rfl
@[simp] theorem fmtK_exc  (C : Nat) (fs : List (Str × AV)) (A : AH) : fmtK  (.exc C fs A) = .exc C fs A := ofEq rfl
@[simp] theorem fmtK_stuck  : fmtK  .stuck = .stuck := ofEq rfl
@[simp] theorem fmtK_ite  {pp : Prop} [Decidable pp] (r1 r2 : R AV) : fmtK  (if pp then r1 else r2) = if pp then fmtK  r1 else fmtK  r2 := by split <;> rfl
def fsR (c : Cl) (s : AS) (es : MEs) (A : AH) (o : Option Str) : R AV := match o with
  | some acc => evJ c s acc es A
  | none => .stuck
@[simp] theorem fsR_some (c : Cl) (s : AS) (es : MEs) (A : AH) (acc : Str) : fsR c s es A (some acc) = evJ c s acc es A := ofEq rfl
@[simp] theorem fsR_none (c : Cl) (s : AS) (es : MEs) (A : AH) : fsR c s es A none = .stuck := ofEq rfl
def fsK (c : Cl) (s : AS) (acc : Str) (es : MEs) (r : R AV) : R AV := match r with
  | .ok v A => fsR c s es A (fsA acc v)
  | .exc C fs A => .exc C fs A
  | .stuck => .stuck
theorem fsK_eq (c : Cl) (s : AS) (acc : Str) (es : MEs) (r : R AV) : fsK c s acc es r = r.bind fun v A => fsR c s es A (fsA acc v) := by cases r <;> rfl
@[simp] theorem fsK_ok (c : Cl) (s : AS) (acc : Str) (es : MEs) (v : AV) (A : AH) : fsK c s acc es (.ok v A) = fsR c s es A (fsA acc v) := ofEq rfl
@[simp] theorem fsK_exc (c : Cl) (s : AS) (acc : Str) (es : MEs) (C : Nat) (fs : List (Str × AV)) (A : AH) : fsK c s acc es (.exc C fs A) = .exc C fs A := ofEq rfl
@[simp] theorem fsK_stuck (c : Cl) (s : AS) (acc : Str) (es : MEs) : fsK c s acc es .stuck = .stuck := ofEq rfl
@[simp] theorem fsK_ite (c : Cl) (s : AS) (acc : Str) (es : MEs) {pp : Prop} [Decidable pp] (r1 r2 : R AV) : fsK c s acc es (if pp then r1 else r2) = if pp then fsK c s acc es r1 else fsK c s acc es r2 := by split <;> rfl
def mkR (c : Cl) (D : Nat) (vs : List AV) (A : AH) (o : Option Nat) : R AV := match o with
  | some f => mkA c f A D (.ref A.length :: vs)
  | none => .stuck
@[simp] theorem mkR_some (c : Cl) (D : Nat) (vs : List AV) (A : AH) (f : Nat) : mkR c D vs A (some f) = mkA c f A D (.ref A.length :: vs) := ofEq rfl
@[simp] theorem mkR_none (c : Cl) (D : Nat) (vs : List AV) (A : AH) : mkR c D vs A none = .stuck := ofEq rfl
def mkK (c : Cl) (D : Nat) (r : R (List AV)) : R AV := match r with
  | .ok vs A => mkR c D vs A (c.init D)
  | .exc C fs A => .exc C fs A
  | .stuck => .stuck
theorem mkK_eq (c : Cl) (D : Nat) (r : R (List AV)) : mkK c D r = r.bind fun vs A => mkR c D vs A (c.init D) := by cases r <;> rfl
@[simp] theorem mkK_ok (c : Cl) (D : Nat) (vs : (List AV)) (A : AH) : mkK c D (.ok vs A) = mkR c D vs A (c.init D) := ofEq rfl
@[simp] theorem mkK_exc (c : Cl) (D : Nat) (C : Nat) (fs : List (Str × AV)) (A : AH) : mkK c D (.exc C fs A) = .exc C fs A := ofEq rfl
@[simp] theorem mkK_stuck (c : Cl) (D : Nat) : mkK c D .stuck = .stuck := ofEq rfl
@[simp] theorem mkK_ite (c : Cl) (D : Nat) {pp : Prop} [Decidable pp] (r1 r2 : R (List AV)) : mkK c D (if pp then r1 else r2) = if pp then mkK c D r1 else mkK c D r2 := by split <;> rfl
def mkkR2 (c : Cl) (f : Nat) (D : Nat) (A : AH) (o : Option (List AV)) : R AV := match o with
  | some zs => mkA c f A D zs
  | none => .stuck
@[simp] theorem mkkR2_some (c : Cl) (f : Nat) (D : Nat) (A : AH) (zs : (List AV)) : mkkR2 c f D A (some zs) = mkA c f A D zs := ofEq rfl
@[simp] theorem mkkR2_none (c : Cl) (f : Nat) (D : Nat) (A : AH) : mkkR2 c f D A none = .stuck := ofEq rfl
def mkkR (c : Cl) (D fm : Nat) (vs ws : List AV) (A : AH) (o : Option Nat) : R AV := match o with
  | some f => mkkR2 c f D A (c.form f fm (.ref A.length :: vs) ws)
  | none => .stuck
@[simp] theorem mkkR_some (c : Cl) (D fm : Nat) (vs ws : List AV) (A : AH) (f : Nat) : mkkR c D fm vs ws A (some f) = mkkR2 c f D A (c.form f fm (.ref A.length :: vs) ws) := ofEq rfl
@[simp] theorem mkkR_none (c : Cl) (D fm : Nat) (vs ws : List AV) (A : AH) : mkkR c D fm vs ws A none = .stuck := ofEq rfl
def mkkK2 (c : Cl) (D fm : Nat) (vs : List AV) (r : R (List AV)) : R AV := match r with
  | .ok ws A => mkkR c D fm vs ws A (c.init D)
  | .exc C fs A => .exc C fs A
  | .stuck => .stuck
theorem mkkK2_eq (c : Cl) (D fm : Nat) (vs : List AV) (r : R (List AV)) : mkkK2 c D fm vs r = r.bind fun ws A => mkkR c D fm vs ws A (c.init D) := by cases r <;> rfl
@[simp] theorem mkkK2_ok (c : Cl) (D fm : Nat) (vs : List AV) (ws : (List AV)) (A : AH) : mkkK2 c D fm vs (.ok ws A) = mkkR c D fm vs ws A (c.init D) := ofEq rfl
@[simp] theorem mkkK2_exc (c : Cl) (D fm : Nat) (vs : List AV) (C : Nat) (fs : List (Str × AV)) (A : AH) : mkkK2 c D fm vs (.exc C fs A) = .exc C fs A := ofEq rfl
@[simp] theorem mkkK2_stuck (c : Cl) (D fm : Nat) (vs : List AV) : mkkK2 c D fm vs .stuck = .stuck := ofEq rfl
@[simp] theorem mkkK2_ite (c : Cl) (D fm : Nat) (vs : List AV) {pp : Prop} [Decidable pp] (r1 r2 : R (List AV)) : mkkK2 c D fm vs (if pp then r1 else r2) = if pp then mkkK2 c D fm vs r1 else mkkK2 c D fm vs r2 := by split <;> rfl
def mkkK (c : Cl) (s : AS) (D fm : Nat) (kes : MEs) (r : R (List AV)) : R AV := match r with
  | .ok vs A => mkkK2 c D fm vs (evs c s kes A)
  | .exc C fs A => .exc C fs A
  | .stuck => .stuck
theorem mkkK_eq (c : Cl) (s : AS) (D fm : Nat) (kes : MEs) (r : R (List AV)) : mkkK c s D fm kes r = r.bind fun vs A => mkkK2 c D fm vs (evs c s kes A) := by cases r <;> rfl
@[simp] theorem mkkK_ok (c : Cl) (s : AS) (D fm : Nat) (kes : MEs) (vs : (List AV)) (A : AH) : mkkK c s D fm kes (.ok vs A) = mkkK2 c D fm vs (evs c s kes A) := ofEq rfl
@[simp] theorem mkkK_exc (c : Cl) (s : AS) (D fm : Nat) (kes : MEs) (C : Nat) (fs : List (Str × AV)) (A : AH) : mkkK c s D fm kes (.exc C fs A) = .exc C fs A := ofEq rfl
@[simp] theorem mkkK_stuck (c : Cl) (s : AS) (D fm : Nat) (kes : MEs) : mkkK c s D fm kes .stuck = .stuck := ofEq rfl
@[simp] theorem mkkK_ite (c : Cl) (s : AS) (D fm : Nat) (kes : MEs) {pp : Prop} [Decidable pp] (r1 r2 : R (List AV)) : mkkK c s D fm kes (if pp then r1 else r2) = if pp then mkkK c s D fm kes r1 else mkkK c s D fm kes r2 := by split <;> rfl
def methR2 (c : Cl) (v : AV) (vs : List AV) (A : AH) (o : Option Nat) : R AV := match o with
  | some f => c.call f (v :: vs) A
  | none => .stuck
@[simp] theorem methR2_some (c : Cl) (v : AV) (vs : List AV) (A : AH) (f : Nat) : methR2 c v vs A (some f) = c.call f (v :: vs) A := ofEq rfl
@[simp] theorem methR2_none (c : Cl) (v : AV) (vs : List AV) (A : AH) : methR2 c v vs A none = .stuck := ofEq rfl
def methK2 (c : Cl) (D : Nat) (m : Str) (v : AV) (r : R (List AV)) : R AV := match r with
  | .ok vs A => methR2 c v vs A (c.meth D m)
  | .exc C fs A => .exc C fs A
  | .stuck => .stuck
theorem methK2_eq (c : Cl) (D : Nat) (m : Str) (v : AV) (r : R (List AV)) : methK2 c D m v r = r.bind fun vs A => methR2 c v vs A (c.meth D m) := by cases r <;> rfl
@[simp] theorem methK2_ok (c : Cl) (D : Nat) (m : Str) (v : AV) (vs : (List AV)) (A : AH) : methK2 c D m v (.ok vs A) = methR2 c v vs A (c.meth D m) := ofEq rfl
@[simp] theorem methK2_exc (c : Cl) (D : Nat) (m : Str) (v : AV) (C : Nat) (fs : List (Str × AV)) (A : AH) : methK2 c D m v (.exc C fs A) = .exc C fs A := ofEq rfl
@[simp] theorem methK2_stuck (c : Cl) (D : Nat) (m : Str) (v : AV) : methK2 c D m v .stuck = .stuck := ofEq rfl
@[simp] theorem methK2_ite (c : Cl) (D : Nat) (m : Str) (v : AV) {pp : Prop} [Decidable pp] (r1 r2 : R (List AV)) : methK2 c D m v (if pp then r1 else r2) = if pp then methK2 c D m v r1 else methK2 c D m v r2 := by split <;> rfl
def methR (c : Cl) (s : AS) (C : Nat) (m : Str) (es : MEs) (v : AV) (A : AH) (o : Option (Nat × List (Str × AV))) : R AV := match o with
  | some (D, fs) => if D = C ∧ fs.lookup m = none then methK2 c C m v (evs c s es A) else .stuck
  | none => .stuck
@[simp] theorem methR_some (c : Cl) (s : AS) (C : Nat) (m : Str) (es : MEs) (v : AV) (A : AH) (D : Nat) (fs : List (Str × AV)) : methR c s C m es v A (some (D, fs)) = if D = C ∧ fs.lookup m = none then methK2 c C m v (evs c s es A) else .stuck := ofEq rfl
@[simp] theorem methR_none (c : Cl) (s : AS) (C : Nat) (m : Str) (es : MEs) (v : AV) (A : AH) : methR c s C m es v A none = .stuck := ofEq rfl
def methK (c : Cl) (s : AS) (C0 : Nat) (m : Str) (es : MEs) (r : R AV) : R AV := match r with
  | .ok v A => methR c s C0 m es v A (insAt A v)
  | .exc C fs A => .exc C fs A
  | .stuck => .stuck
theorem methK_eq (c : Cl) (s : AS) (C0 : Nat) (m : Str) (es : MEs) (r : R AV) : methK c s C0 m es r = r.bind fun v A => methR c s C0 m es v A (insAt A v) := by cases r <;> rfl
@[simp] theorem methK_ok (c : Cl) (s : AS) (C0 : Nat) (m : Str) (es : MEs) (v : AV) (A : AH) : methK c s C0 m es (.ok v A) = methR c s C0 m es v A (insAt A v) := ofEq rfl
@[simp] theorem methK_exc (c : Cl) (s : AS) (C0 : Nat) (m : Str) (es : MEs) (C : Nat) (fs : List (Str × AV)) (A : AH) : methK c s C0 m es (.exc C fs A) = .exc C fs A := ofEq rfl
@[simp] theorem methK_stuck (c : Cl) (s : AS) (C0 : Nat) (m : Str) (es : MEs) : methK c s C0 m es .stuck = .stuck := ofEq rfl
@[simp] theorem methK_ite (c : Cl) (s : AS) (C0 : Nat) (m : Str) (es : MEs) {pp : Prop} [Decidable pp] (r1 r2 : R AV) : methK c s C0 m es (if pp then r1 else r2) = if pp then methK c s C0 m es r1 else methK c s C0 m es r2 := by split <;> rfl
/-- an instance made -/
def mkE (n : Nat) (r : R AV) : R AV := match r with
  | .ok v A => (match v with
    | .non => .ok (.ref n) A
    | _ => .stuck)
  | .exc C fs A => .exc C fs A
  | .stuck => .stuck
@[simp] theorem mkE_ok (n : Nat) (A : AH) : mkE n (.ok .non A) = .ok (.ref n) A := ofEq rfl
@[simp] theorem mkE_exc (n : Nat) (C : Nat) (fs : List (Str × AV)) (A : AH) : mkE n (.exc C fs A) = .exc C fs A := ofEq rfl
@[simp] theorem mkA_eq (c : Cl) (f : Nat) (A : AH) (D : Nat) (zs : List AV) : mkA c f A D zs = mkE A.length (c.call f zs (A ++ [.ins D []])) := by
  unfold mkA
  cases c.call f zs (A ++ [.ins D []]) with
  | ok v A' => cases v <;> rfl
  | _ => rfl
def revR (A : AH) : AV → R AV
  | .ref n => (match lstAt A n with
    | some vs => new A (.lst vs.reverse)
    | none => .stuck)
  | _ => .stuck
def revK  (r : R AV) : R AV := match r with
  | .ok v A => revR A v
  | .exc C fs A => .exc C fs A
  | .stuck => .stuck
theorem revK_eq  (r : R AV) : revK  r = r.bind fun v A => revR A v := by cases r <;> rfl
@[simp] theorem revK_ok  (v : AV) (A : AH) : revK  (.ok v A) = revR A v := ofEq rfl
@[simp] theorem revK_exc  (C : Nat) (fs : List (Str × AV)) (A : AH) : revK  (.exc C fs A) = .exc C fs A := ofEq rfl
@[simp] theorem revK_stuck  : revK  .stuck = .stuck := ofEq rfl
@[simp] theorem revK_ite  {pp : Prop} [Decidable pp] (r1 r2 : R AV) : revK  (if pp then r1 else r2) = if pp then revK  r1 else revK  r2 := by split <;> rfl
def sfK2 (c : Cl) (s : AS) (f : Str) (v : AV) (r : R AV) : F := match r with
  | .ok x A => nxH (setFldA c A f x v) s
  | .exc C fs A => .exc C fs s A
  | .stuck => .stuck
theorem sfK2_eq (c : Cl) (s : AS) (f : Str) (v : AV) (r : R AV) : sfK2 c s f v r = r.fl s fun x A => nxH (setFldA c A f x v) s := by cases r <;> rfl
@[simp] theorem sfK2_ok (c : Cl) (s : AS) (f : Str) (v : AV) (x : AV) (A : AH) : sfK2 c s f v (.ok x A) = nxH (setFldA c A f x v) s := ofEq rfl
@[simp] theorem sfK2_exc (c : Cl) (s : AS) (f : Str) (v : AV) (C : Nat) (fs : List (Str × AV)) (A : AH) : sfK2 c s f v (.exc C fs A) = .exc C fs s A := ofEq rfl
@[simp] theorem sfK2_stuck (c : Cl) (s : AS) (f : Str) (v : AV) : sfK2 c s f v .stuck = .stuck := ofEq rfl
@[simp] theorem sfK2_ite (c : Cl) (s : AS) (f : Str) (v : AV) {pp : Prop} [Decidable pp] (r1 r2 : R AV) : sfK2 c s f v (if pp then r1 else r2) = if pp then sfK2 c s f v r1 else sfK2 c s f v r2 := by split <;> rfl
def sfK (c : Cl) (s : AS) (o : ME) (f : Str) (r : R AV) : F := match r with
  | .ok v A => sfK2 c s f v (evE c s o A)
  | .exc C fs A => .exc C fs s A
  | .stuck => .stuck
theorem sfK_eq (c : Cl) (s : AS) (o : ME) (f : Str) (r : R AV) : sfK c s o f r = r.fl s fun v A => sfK2 c s f v (evE c s o A) := by cases r <;> rfl
@[simp] theorem sfK_ok (c : Cl) (s : AS) (o : ME) (f : Str) (v : AV) (A : AH) : sfK c s o f (.ok v A) = sfK2 c s f v (evE c s o A) := ofEq rfl
@[simp] theorem sfK_exc (c : Cl) (s : AS) (o : ME) (f : Str) (C : Nat) (fs : List (Str × AV)) (A : AH) : sfK c s o f (.exc C fs A) = .exc C fs s A := ofEq rfl
@[simp] theorem sfK_stuck (c : Cl) (s : AS) (o : ME) (f : Str) : sfK c s o f .stuck = .stuck := ofEq rfl
@[simp] theorem sfK_ite (c : Cl) (s : AS) (o : ME) (f : Str) {pp : Prop} [Decidable pp] (r1 r2 : R AV) : sfK c s o f (if pp then r1 else r2) = if pp then sfK c s o f r1 else sfK c s o f r2 := by split <;> rfl
def raiseR (D : Nat) (s : AS) (A : AH) (o : Option (List (Str × AV))) : F := match o with
  | some fs => .exc D fs s A
  | none => .stuck
@[simp] theorem raiseR_some (D : Nat) (s : AS) (A : AH) (fs : List (Str × AV)) : raiseR D s A (some fs) = .exc D fs s A := ofEq rfl
def raiseK (c : Cl) (s : AS) (D : Nat) (r : R (List AV)) : F := match r with
  | .ok vs A => raiseR D s A (c.xf D vs)
  | .exc C fs A => .exc C fs s A
  | .stuck => .stuck
theorem raiseK_eq (c : Cl) (s : AS) (D : Nat) (r : R (List AV)) : raiseK c s D r = r.fl s fun vs A => raiseR D s A (c.xf D vs) := by cases r <;> rfl
@[simp] theorem raiseK_ok (c : Cl) (s : AS) (D : Nat) (vs : (List AV)) (A : AH) : raiseK c s D (.ok vs A) = raiseR D s A (c.xf D vs) := ofEq rfl
@[simp] theorem raiseK_exc (c : Cl) (s : AS) (D : Nat) (C : Nat) (fs : List (Str × AV)) (A : AH) : raiseK c s D (.exc C fs A) = .exc C fs s A := ofEq rfl
@[simp] theorem raiseK_stuck (c : Cl) (s : AS) (D : Nat) : raiseK c s D .stuck = .stuck := ofEq rfl
@[simp] theorem raiseK_ite (c : Cl) (s : AS) (D : Nat) {pp : Prop} [Decidable pp] (r1 r2 : R (List AV)) : raiseK c s D (if pp then r1 else r2) = if pp then raiseK c s D r1 else raiseK c s D r2 := by split <;> rfl
/-- except clauses -/
noncomputable def tryF (c : Cl) (hs : MHs) (r : F) : F := match r with
  | .exc C fs s A => exHs c C fs s A hs
  | r => r
@[simp] theorem tryF_nx (c : Cl) (hs : MHs) (s : AS) (A : AH) : tryF c hs (.nx s A) = .nx s A := ofEq rfl
@[simp] theorem tryF_rt (c : Cl) (hs : MHs) (v : AV) (s : AS) (A : AH) : tryF c hs (.rt v s A) = .rt v s A := ofEq rfl
@[simp] theorem tryF_bk (c : Cl) (hs : MHs) (s : AS) (A : AH) : tryF c hs (.bk s A) = .bk s A := ofEq rfl
@[simp] theorem tryF_ct (c : Cl) (hs : MHs) (s : AS) (A : AH) : tryF c hs (.ct s A) = .ct s A := ofEq rfl
@[simp] theorem tryF_exc (c : Cl) (hs : MHs) (C : Nat) (fs : List (Str × AV)) (s : AS) (A : AH) : tryF c hs (.exc C fs s A) = exHs c C fs s A hs := ofEq rfl
@[simp] theorem tryF_ite (c : Cl) (hs : MHs) {pp : Prop} [Decidable pp] (r1 r2 : F) : tryF c hs (if pp then r1 else r2) = if pp then tryF c hs r1 else tryF c hs r2 := by split <;> rfl
@[simp] theorem unxF_nx (i : Option Nat) (s : AS) (A : AH) : unxF i (.nx s A) = .nx (i.elim s fun i => s.set i none) A := ofEq rfl
@[simp] theorem unxF_rt (i : Option Nat) (v : AV) (s : AS) (A : AH) : unxF i (.rt v s A) = .rt v s A := ofEq rfl
@[simp] theorem unxF_ct (i : Option Nat) (s : AS) (A : AH) : unxF i (.ct s A) = .ct (i.elim s fun i => s.set i none) A := ofEq rfl
@[simp] theorem unxF_bk (i : Option Nat) (s : AS) (A : AH) : unxF i (.bk s A) = .bk (i.elim s fun i => s.set i none) A := ofEq rfl
@[simp] theorem unxF_ite (i : Option Nat) {pp : Prop} [Decidable pp] (r1 r2 : F) : unxF i (if pp then r1 else r2) = if pp then unxF i r1 else unxF i r2 := by split <;> rfl
noncomputable def hdR (c : Cl) (C : Nat) (fs : List (Str × AV)) (s : AS) (A : AH) (i : Option Nat) (b : MSs) (hs : MHs) (o : Option Bool) : F := match o with
  | some true => if inS i s then unxF i (exSs (inX c i C A.length) (i.elim s fun i => s.set i none) b (A ++ [.xd fs])) else .stuck
  | some false => exHs c C fs s A hs
  | none => .stuck
@[simp] theorem hdR_t (c : Cl) (C : Nat) (fs : List (Str × AV)) (s : AS) (A : AH) (i : Option Nat) (b : MSs) (hs : MHs) : hdR c C fs s A i b hs (some true) = if inS i s then unxF i (exSs (inX c i C A.length) (i.elim s fun i => s.set i none) b (A ++ [.xd fs])) else .stuck := ofEq rfl
@[simp] theorem hdR_f (c : Cl) (C : Nat) (fs : List (Str × AV)) (s : AS) (A : AH) (i : Option Nat) (b : MSs) (hs : MHs) : hdR c C fs s A i b hs (some false) = exHs c C fs s A hs := ofEq rfl
@[simp] theorem inS_none (s : AS) : inS none s = true := ofEq rfl
@[simp] theorem inS_some (i : Nat) (s : AS) : inS (some i) s = decide (i < s.length) := ofEq rfl
@[simp] theorem exHs_nil (c : Cl) (C : Nat) (fs : List (Str × AV)) (s : AS) (A : AH) : exHs c C fs s A .nil = .exc C fs s A := by simp only [exHs]
@[simp] theorem exHs_cons (c : Cl) (C : Nat) (fs : List (Str × AV)) (s : AS) (A : AH) (t : XN) (i : Option Nat) (b : MSs) (hs : MHs) : exHs c C fs s A (.cons t i b hs) = hdR c C fs s A i b hs (c.sub C t) := by
  rw [exHs]
  rfl
section
variable {c : Cl} {s : AS} {A : AH}
@[simp] theorem ev_slc (a : ME) (lo hi : MEs) : evE c s (.slc a lo hi) A = slcK c s lo hi (evE c s a A) := by
  rw [evE, slcK_eq]
  congr 1; funext v A
  rw [slcK2_eq]
  congr 1; funext l A
  cases bndA l with
  | none => rfl
  | some i =>
    show _ = slcK3 v i _
    rw [slcK3_eq]
    rfl
@[simp] theorem ev_rev (a : ME) : evE c s (.rev a) A = revK (evE c s a A) := by simp only [evE, slcK3_eq, slcK2_eq, slcK_eq, fldK_eq, iscK_eq, oeqK2_eq, oeqK_eq, olenK_eq, ostrK_eq, orepK_eq, fmtK_eq, fsK_eq, mkK_eq, mkkK2_eq, mkkK_eq, methK2_eq, methK_eq, revK_eq, sfK2_eq, sfK_eq, raiseK_eq] <;> rfl
@[simp] theorem ev_fld (o : ME) (f : Str) : evE c s (.fld o f) A = fldK c f (evE c s o A) := by simp only [evE, slcK3_eq, slcK2_eq, slcK_eq, fldK_eq, iscK_eq, oeqK2_eq, oeqK_eq, olenK_eq, ostrK_eq, orepK_eq, fmtK_eq, fsK_eq, mkK_eq, mkkK2_eq, mkkK_eq, methK2_eq, methK_eq, revK_eq, sfK2_eq, sfK_eq, raiseK_eq] <;> rfl
@[simp] theorem ev_isc (a : ME) (D : Nat) : evE c s (.isc a D) A = iscK c D (evE c s a A) := by simp only [evE, slcK3_eq, slcK2_eq, slcK_eq, fldK_eq, iscK_eq, oeqK2_eq, oeqK_eq, olenK_eq, ostrK_eq, orepK_eq, fmtK_eq, fsK_eq, mkK_eq, mkkK2_eq, mkkK_eq, methK2_eq, methK_eq, revK_eq, sfK2_eq, sfK_eq, raiseK_eq] <;> rfl
@[simp] theorem ev_xfld (i : Nat) (f : Str) : evE c s (.xfld i f) A = optR A (xfldA c A i f) := by simp only [evE]
@[simp] theorem ev_xis (i : Nat) (t : XN) : evE c s (.xis i t) A = blR A (xisA c A i t) := by simp only [evE]
@[simp] theorem ev_oeq (a b : ME) : evE c s (.oeq a b) A = oeqK c s b (evE c s a A) := by simp only [evE, slcK3_eq, slcK2_eq, slcK_eq, fldK_eq, iscK_eq, oeqK2_eq, oeqK_eq, olenK_eq, ostrK_eq, orepK_eq, fmtK_eq, fsK_eq, mkK_eq, mkkK2_eq, mkkK_eq, methK2_eq, methK_eq, revK_eq, sfK2_eq, sfK_eq, raiseK_eq] <;> rfl
@[simp] theorem ev_olen (a : ME) : evE c s (.olen a) A = olenK c (evE c s a A) := by simp only [evE, slcK3_eq, slcK2_eq, slcK_eq, fldK_eq, iscK_eq, oeqK2_eq, oeqK_eq, olenK_eq, ostrK_eq, orepK_eq, fmtK_eq, fsK_eq, mkK_eq, mkkK2_eq, mkkK_eq, methK2_eq, methK_eq, revK_eq, sfK2_eq, sfK_eq, raiseK_eq] <;> rfl
@[simp] theorem ev_ostr (a : ME) : evE c s (.ostr a) A = ostrK c (evE c s a A) := by simp only [evE, slcK3_eq, slcK2_eq, slcK_eq, fldK_eq, iscK_eq, oeqK2_eq, oeqK_eq, olenK_eq, ostrK_eq, orepK_eq, fmtK_eq, fsK_eq, mkK_eq, mkkK2_eq, mkkK_eq, methK2_eq, methK_eq, revK_eq, sfK2_eq, sfK_eq, raiseK_eq] <;> rfl
@[simp] theorem ev_orep (a : ME) : evE c s (.orep a) A = orepK c (evE c s a A) := by simp only [evE, slcK3_eq, slcK2_eq, slcK_eq, fldK_eq, iscK_eq, oeqK2_eq, oeqK_eq, olenK_eq, ostrK_eq, orepK_eq, fmtK_eq, fsK_eq, mkK_eq, mkkK2_eq, mkkK_eq, methK2_eq, methK_eq, revK_eq, sfK2_eq, sfK_eq, raiseK_eq] <;> rfl
@[simp] theorem ev_ofmt (a : ME) : evE c s (.ofmt a) A = ostrK c (evE c s a A) := by simp only [evE, slcK3_eq, slcK2_eq, slcK_eq, fldK_eq, iscK_eq, oeqK2_eq, oeqK_eq, olenK_eq, ostrK_eq, orepK_eq, fmtK_eq, fsK_eq, mkK_eq, mkkK2_eq, mkkK_eq, methK2_eq, methK_eq, revK_eq, sfK2_eq, sfK_eq, raiseK_eq] <;> rfl
@[simp] theorem ev_fmt (a : ME) : evE c s (.fmt a) A = fmtK (evE c s a A) := by simp only [evE, slcK3_eq, slcK2_eq, slcK_eq, fldK_eq, iscK_eq, oeqK2_eq, oeqK_eq, olenK_eq, ostrK_eq, orepK_eq, fmtK_eq, fsK_eq, mkK_eq, mkkK2_eq, mkkK_eq, methK2_eq, methK_eq, revK_eq, sfK2_eq, sfK_eq, raiseK_eq] <;> rfl
@[simp] theorem ev_fstr (es : MEs) : evE c s (.fstr es) A = evJ c s Str.empty es A := by simp only [evE]
@[simp] theorem evJ_nil (acc : Str) : evJ c s acc .nil A = .ok (.str acc) A := by simp only [evJ]
@[simp] theorem evJ_cons (acc : Str) (e : ME) (es : MEs) : evJ c s acc (.cons e es) A = fsK c s acc es (evE c s e A) := by simp only [evJ, slcK3_eq, slcK2_eq, slcK_eq, fldK_eq, iscK_eq, oeqK2_eq, oeqK_eq, olenK_eq, ostrK_eq, orepK_eq, fmtK_eq, fsK_eq, mkK_eq, mkkK2_eq, mkkK_eq, methK2_eq, methK_eq, revK_eq, sfK2_eq, sfK_eq, raiseK_eq] <;> rfl
@[simp] theorem ev_mk (D : Nat) (es : MEs) : evE c s (.mk D es) A = mkK c D (evs c s es A) := by simp only [evE, slcK3_eq, slcK2_eq, slcK_eq, fldK_eq, iscK_eq, oeqK2_eq, oeqK_eq, olenK_eq, ostrK_eq, orepK_eq, fmtK_eq, fsK_eq, mkK_eq, mkkK2_eq, mkkK_eq, methK2_eq, methK_eq, revK_eq, sfK2_eq, sfK_eq, raiseK_eq] <;> rfl
@[simp] theorem ev_mkk (D fm : Nat) (es kes : MEs) : evE c s (.mkk D fm es kes) A = mkkK c s D fm kes (evs c s es A) := by simp only [evE, slcK3_eq, slcK2_eq, slcK_eq, fldK_eq, iscK_eq, oeqK2_eq, oeqK_eq, olenK_eq, ostrK_eq, orepK_eq, fmtK_eq, fsK_eq, mkK_eq, mkkK2_eq, mkkK_eq, methK2_eq, methK_eq, revK_eq, sfK2_eq, sfK_eq, raiseK_eq] <;> rfl
@[simp] theorem ev_meth (D : Nat) (m : Str) (e : ME) (es : MEs) : evE c s (.meth D m e es) A = methK c s D m es (evE c s e A) := by
  rw [evE, methK_eq]
  congr 1; funext v A
  cases insAt A v with
  | none => rfl
  | some q =>
    obtain ⟨D1, fs⟩ := q
    show (if D1 = D ∧ fs.lookup m = none then _ else _) = (if D1 = D ∧ fs.lookup m = none then methK2 c D m v (evs c s es A) else .stuck)
    split
    · rw [methK2_eq]
      rfl
    · rfl
@[simp] theorem ex_setFld (e : ME) (f : Str) (a : ME) : exS c s (.setFld e f a) A = sfK c s e f (evE c s a A) := by simp only [exS, slcK3_eq, slcK2_eq, slcK_eq, fldK_eq, iscK_eq, oeqK2_eq, oeqK_eq, olenK_eq, ostrK_eq, orepK_eq, fmtK_eq, fsK_eq, mkK_eq, mkkK2_eq, mkkK_eq, methK2_eq, methK_eq, revK_eq, sfK2_eq, sfK_eq, raiseK_eq] <;> rfl
@[simp] theorem ex_raise (D : Nat) (es : MEs) : exS c s (.raise D es) A = raiseK c s D (evs c s es A) := by simp only [exS, slcK3_eq, slcK2_eq, slcK_eq, fldK_eq, iscK_eq, oeqK2_eq, oeqK_eq, olenK_eq, ostrK_eq, orepK_eq, fmtK_eq, fsK_eq, mkK_eq, mkkK2_eq, mkkK_eq, methK2_eq, methK_eq, revK_eq, sfK2_eq, sfK_eq, raiseK_eq] <;> rfl
@[simp] theorem ex_try (b : MSs) (hs : MHs) : exS c s (.tryAs b hs) A = tryF c hs (exSs c s b A) := by
  simp only [exS]
  cases exSs c s b A <;> rfl
@[simp] theorem fsA_str (acc y : Str) : fsA acc (.str y) = if (acc ++ y).length ≤ sizeLine then some (acc ++ y) else none := ofEq rfl
@[simp] theorem sliceA_str (x : Str) (lo hi : Option Int) : sliceA A lo hi (.str x) = if x.length ≤ sizeLine then .ok (.str (cutS x lo hi)) A else .stuck := ofEq rfl
@[simp] theorem sliceA_tup (vs : List AV) (lo hi : Option Int) : sliceA A lo hi (.tup vs) = .ok (.tup (cutL vs lo hi)) A := ofEq rfl
end
end MP

set_option maxRecDepth 100000
set_option autoImplicit false
set_option maxHeartbeats 1000000
/-! MQ5: texts. -/
namespace MP
open PySem L2
theorem strOk_iff {x : Str} : PyData.strOk x = true ↔ ∀ c ∈ TL.tl x, c < 1114112 := by
  unfold PyData.strOk TL.tl
  rw [← Array.all_toList, List.all_eq_true]
  constructor
  · intro h c hc; simpa using h c hc
  · intro h c hc; simpa using h c hc
/-- a plain text of so many signs at most -/
structure TxOk (n : Nat) (x : Str) : Prop where
  ok : PyData.strOk x = true
  len : x.length ≤ n
theorem TxOk.mono {n m : Nat} {x : Str} (h : TxOk n x) (hm : n ≤ m) : TxOk m x := ⟨h.ok, Nat.le_trans h.len hm⟩
theorem TxOk.sub {n : Nat} {x y : Str} (h : TxOk n x) (hs : ∀ c ∈ TL.tl y, c ∈ TL.tl x) (hl : y.length ≤ x.length) : TxOk n y := ⟨strOk_iff.mpr fun c hc => strOk_iff.mp h.ok c (hs c hc), Nat.le_trans hl h.len⟩
theorem len_app (x y : Str) : (x ++ y).length = x.length + y.length := by
  rw [TL.len_tl, TL.tl_append, List.length_append, ← TL.len_tl, ← TL.len_tl]
theorem TxOk.app {n m k : Nat} {x y : Str} (h : TxOk n x) (h' : TxOk m y) (hk : n + m ≤ k) : TxOk k (x ++ y) := by
  refine ⟨strOk_iff.mpr fun c hc => ?_, ?_⟩
  · rw [TL.tl_append] at hc
    rcases List.mem_append.mp hc with hc | hc
    · exact strOk_iff.mp h.ok c hc
    · exact strOk_iff.mp h'.ok c hc
  · rw [len_app]
    have := h.len
    have := h'.len
    omega
theorem tl_cut (x : Str) (lo hi : Option Int) : TL.tl (cutS x lo hi) = ((TL.tl x).drop (HT.sIx x.length 0 lo)).take (HT.sIx x.length x.length hi - HT.sIx x.length 0 lo) := rfl
theorem TxOk.cut {n : Nat} {x : Str} (h : TxOk n x) (lo hi : Option Int) : TxOk n (cutS x lo hi) := h.sub (fun c hc => by rw [tl_cut] at hc; exact List.mem_of_mem_drop (List.mem_of_mem_take hc)) (cutS_length _ _ _)
theorem toD_str {A : AH} {n : Nat} {x : Str} (h : PyData.strOk x = true) : toD A (n + 1) (.str x) = some (.str x) := by
  show (if PyData.strOk x then some (PyData.str x) else none) = _
  rw [if_pos h]
theorem str_beq (x y : Str) : (x == y) = decide (x = y) := by
  rw [Bool.eq_iff_iff]
  simp
theorem eq_str {A : AH} {x y : Str} (hx : PyData.strOk x = true) (hy : PyData.strOk y = true) : cmpA A .eq (.str x) (.str y) = some (decide (x = y)) := by
  rw [eq_D (toD_str hx) (toD_str hy)]
  simp [PyData.eqv, str_beq]
theorem ne_str {A : AH} {x y : Str} (hx : PyData.strOk x = true) (hy : PyData.strOk y = true) : cmpA A .ne (.str x) (.str y) = some (!decide (x = y)) := by
  rw [ne_D (toD_str hx) (toD_str hy)]
  simp [PyData.eqv, str_beq]
@[simp] theorem op_addS {A : AH} (x y : Str) : opA A .add (.str x) (.str y) = if x.length + y.length ≤ sizeLine then .ok (.str (x ++ y)) A else .stuck := ofEq rfl
@[simp] theorem op_mulS {A : AH} (x : Str) (k : Int) : opA A .mul (.str x) (.int k) = if 0 ≤ k ∧ k ≤ 4000 ∧ x.length ≤ 4000 then .ok (.str (Txt.mul x k)) A else .stuck := ofEq rfl
@[simp] theorem blt_lenS {A : AH} (x : Str) : bltA A .len [.str x] = if x.length ≤ sizeLine then .ok (.int x.length) A else .stuck := ofEq rfl
@[simp] theorem blt_strI {A : AH} (i : Int) : bltA A .str [.int i] = if i.natAbs.log2 < 1920 then .ok (.str (numS i)) A else .stuck := ofEq rfl
@[simp] theorem blt_reprI {A : AH} (i : Int) : bltA A .repr [.int i] = if i.natAbs.log2 < 1920 then .ok (.str (numS i)) A else .stuck := ofEq rfl
@[simp] theorem rcv_str {A : AH} (m : BM) (x : Str) : rcvA A m (.str x) = m.isStr := by cases m <;> rfl
@[simp] theorem bm_starts {A : AH} (x y : Str) : bmA A .startswith (.str x) [.str y] = .ok (.bl (Txt.startswith x y)) A := ofEq rfl
@[simp] theorem bm_find {A : AH} (x y : Str) : bmA A .find (.str x) [.str y] = .ok (.int (Txt.find x y)) A := ofEq rfl
@[simp] theorem isStr_st : BM.startswith.isStr = true := ofEq rfl
@[simp] theorem isStr_fi : BM.find.isStr = true := ofEq rfl
@[simp] theorem isStr_pa : BM.partition.isStr = true := ofEq rfl
@[simp] theorem isStr_sp : BM.split.isStr = true := ofEq rfl
@[simp] theorem isStr_jo : BM.join.isStr = true := ofEq rfl
@[simp] theorem truA_str {A : AH} (x : Str) : truA A (.str x) = if x.length ≤ sizeLine then some (x.length != 0) else none := ofEq rfl
@[simp] theorem is_non {A : AH} (v : AV) : cmpA A .is v .non = some v.isNon := by cases v <;> rfl
@[simp] theorem isnot_non {A : AH} (v : AV) : cmpA A .isnot v .non = some (!v.isNon) := by cases v <;> rfl
@[simp] theorem isNon_non : AV.non.isNon = true := ofEq rfl
@[simp] theorem isNon_int (i : Int) : (AV.int i).isNon = false := ofEq rfl
@[simp] theorem isNon_tup (vs : List AV) : (AV.tup vs).isNon = false := ofEq rfl
@[simp] theorem isNon_str (x : Str) : (AV.str x).isNon = false := ofEq rfl
theorem idx_str {A : AH} {x : Str} (h : x.length ≤ sizeLine) (i : Int) : idxA A (.str x) (.int i) = (atI (TL.tl x) i).map fun c => .str ⟨#[c]⟩ := by
  show (if x.length ≤ sizeLine then _ else none) = _
  rw [if_pos h]
theorem ofS_ok (s : String) : TxOk s.length (Str.ofString s) := by
  refine ⟨strOk_iff.mpr fun c hc => ?_, ?_⟩
  · rw [TL.tl_ofString] at hc
    obtain ⟨d, _, rfl⟩ := List.mem_map.mp hc
    have := d.valid
    show d.val.toNat < 1114112
    rcases this with h | ⟨_, h⟩
    · omega
    · exact h
  · rw [TL.len_tl, TL.tl_ofString, List.length_map, String.length_toList]
    exact Nat.le_refl _
theorem num_ok {n : Nat} {i : Int} (hn : 0 < n) (h : Bd n i) : TxOk (n + 1) (numS i) := (ofS_ok _).mono (int_text_length_le hn (h.log hn))
theorem cat0 (x : Str) : Str.empty ++ x = x := TL.ext_tl (by rw [TL.tl_append]; rfl)
theorem cat3 (x y z : Str) : x ++ y ++ z = x ++ (y ++ z) := TL.ext_tl (by simp only [TL.tl_append, List.append_assoc])
/-! ### figures -/
def dig (c : Nat) : Bool := decide (48 ≤ c) && decide (c ≤ 57)
theorem notin_dig {A : AH} (c : Nat) : cmpA A .notin (.str ⟨#[c]⟩) (.str "0123456789") = some (!dig c) := by
  show some (!subText ⟨#[c]⟩ "0123456789") = _
  unfold subText
  rw [PySem.StrLaws.found_one]
  have e : (Str.ofString "0123456789").cps.toList = [48, 49, 50, 51, 52, 53, 54, 55, 56, 57] := by decide +kernel
  rw [e]
  congr 2
  unfold dig
  rw [Bool.eq_iff_iff]
  simp
  omega
abbrev digB : MSs := (.cons (.iff (.cmp .notin (.var 2) (.cst (.str "0123456789"))) (.cons (.ret (.cst .non))
    .nil) .nil)
    .nil)
theorem dig_loop (c : Cl) (A : AH) (a b : Option AV) : ∀ (l : List Nat) (pre : List Nat) (x : Option AV),
    (l.all dig = true ∧ ∃ y, forL (.nm 2) (fun s A => exSs c s digB A) (.fx ((pre ++ l).map fun c => .str ⟨#[c]⟩)) l.length pre.length [a, b, x] A = .nx [a, b, y] A) ∨
    (l.all dig = false ∧ ∃ s, forL (.nm 2) (fun s A => exSs c s digB A) (.fx ((pre ++ l).map fun c => .str ⟨#[c]⟩)) l.length pre.length [a, b, x] A = .rt .non s A)
  | [], pre, x => by
    left
    refine ⟨rfl, x, ?_⟩
    show forL _ _ _ 0 _ _ _ = _
    unfold forL
    simp [Src.at]
  | d :: l, pre, x => by
    have ih := dig_loop c A a b l (pre ++ [d]) (some (.str ⟨#[d]⟩))
    rw [List.append_assoc, List.length_append] at ih
    have e1 : Src.at A pre.length (.fx ((pre ++ d :: l).map fun c => AV.str ⟨#[c]⟩)) = some (some (.str ⟨#[d]⟩)) := by
      simp [Src.at]
    by_cases hd : dig d = true
    · have eb : exSs c [a, b, some (.str ⟨#[d]⟩)] digB A = .nx [a, b, some (.str ⟨#[d]⟩)] A := by
        simp [notin_dig, hd]
      have ef : forL (.nm 2) (fun s A => exSs c s digB A) (.fx ((pre ++ d :: l).map fun c => .str ⟨#[c]⟩)) (l.length + 1) pre.length [a, b, x] A = forL (.nm 2) (fun s A => exSs c s digB A) (.fx ((pre ++ d :: l).map fun c => .str ⟨#[c]⟩)) l.length (pre.length + 1) [a, b, some (.str ⟨#[d]⟩)] A := by
        conv => lhs; unfold forL
        simp only [e1, bindT, List.set]
        rw [eb]
      have el : (d :: l).all dig = l.all dig := by rw [List.all_cons, hd]; rfl
      rw [el, List.length_cons, ef]
      exact ih
    · right
      have hd' : dig d = false := by simpa using hd
      have eb : exSs c [a, b, some (.str ⟨#[d]⟩)] digB A = .rt .non [a, b, some (.str ⟨#[d]⟩)] A := by
        simp [notin_dig, hd']
      refine ⟨by rw [List.all_cons, hd']; rfl, [a, b, some (.str ⟨#[d]⟩)], ?_⟩
      show forL _ _ _ (l.length + 1) _ _ _ = _
      unfold forL
      simp only [e1, bindT, List.set]
      rw [eb]
end MP

set_option maxRecDepth 100000
set_option autoImplicit false
set_option maxHeartbeats 1000000
/-! MQ6: words read as numbers. -/
namespace MP
open PySem L2
def numO (w f : Str) : Option Int := if TL.tl f = [] ∨ 60 < f.length then none else if (TL.tl f).all dig = true then (if (TL.tl f).head? = some 48 ∧ w ≠ "0" then none else intText? w) else none
def numV : Option Int → AV
  | none => .non
  | some n => .int n
@[simp] theorem numV_none : numV none = .non := ofEq rfl
@[simp] theorem numV_some (n : Int) : numV (some n) = .int n := ofEq rfl
def figs (w : Str) : Str := if (TL.tl w).head? = some 45 then cutS w (some 1) none else w
def readN (w : Str) : Option Int := numO w (figs w)
theorem tl_cut1 (w : Str) : TL.tl (cutS w (some 1) none) = (TL.tl w).drop 1 := by
  rw [tl_cut]
  have hl : w.length = (TL.tl w).length := TL.len_tl w
  have e1 : HT.sIx w.length 0 (some 1) = min 1 w.length := HT.sIx_nat w.length 0 1
  rw [HT.sIx_none, e1]
  by_cases h : 1 ≤ w.length
  · rw [Nat.min_eq_left h, List.take_of_length_le (by rw [List.length_drop]; omega)]
  · have h0 : TL.tl w = [] := List.length_eq_zero_iff.mp (by omega)
    rw [h0]; simp
theorem figs_tl (w : Str) : (TL.tl w).head? = some 45 ∧ TL.tl w = 45 :: TL.tl (figs w) ∨ (TL.tl w).head? ≠ some 45 ∧ figs w = w := by
  unfold figs
  by_cases h : (TL.tl w).head? = some 45
  · left
    rw [if_pos h, tl_cut1]
    refine ⟨h, ?_⟩
    cases e : TL.tl w with
    | nil => rw [e] at h; cases h
    | cons c r => rw [e] at h; cases h; rfl
  · right
    rw [if_neg h]
    exact ⟨h, rfl⟩
theorem figs_ok {n : Nat} {w : Str} (h : TxOk n w) : TxOk n (figs w) := by
  unfold figs
  split
  · exact h.cut _ _
  · exact h
theorem all_dig {l : List Nat} (h : l.all dig = true) : NumText.AllDigits l := fun c hc => by
  have := List.all_eq_true.mp h c hc
  unfold dig at this
  simpa using this
theorem digVal_lt : ∀ (l : List Nat) (a : Nat), NumText.AllDigits l → l.foldl (fun acc c => acc * 10 + (c - 48)) a < (a + 1) * 10 ^ l.length
  | [], a, _ => by simp
  | c :: l, a, h => by
    have hc := h.head
    have ih := digVal_lt l (a * 10 + (c - 48)) h.tail
    rw [List.foldl_cons, List.length_cons, Nat.pow_succ]
    refine Nat.lt_of_lt_of_le ih ?_
    have : (a * 10 + (c - 48) + 1) ≤ (a + 1) * 10 := by omega
    calc (a * 10 + (c - 48) + 1) * 10 ^ l.length ≤ ((a + 1) * 10) * 10 ^ l.length := Nat.mul_le_mul_right _ this
      _ = (a + 1) * (10 ^ l.length * 10) := by rw [Nat.mul_assoc, Nat.mul_comm 10]
/-- such a word's number -/
theorem num_text {w : Str} (h0 : TL.tl (figs w) ≠ []) (h1 : (figs w).length ≤ 60) (h2 : (TL.tl (figs w)).all dig = true) : w.length ≤ 61 ∧ ∃ n : Int, intText? w = some n ∧ n.natAbs < 10 ^ 60 := by
  have ha := all_dig h2
  have hv : NumText.digitsVal (TL.tl (figs w)) < 10 ^ 60 := by
    have z := digVal_lt (TL.tl (figs w)) 0 ha
    have hp : 10 ^ (TL.tl (figs w)).length ≤ 10 ^ 60 := Nat.pow_le_pow_right (by omega) (by rw [← TL.len_tl]; exact h1)
    unfold NumText.digitsVal
    omega
  rcases figs_tl w with ⟨e1, e2⟩ | ⟨e1, e2⟩
  · have hl : w.length ≤ 61 := by
      rw [TL.len_tl, e2, List.length_cons, ← TL.len_tl]
      omega
    exact ⟨hl, -((NumText.digitsVal (TL.tl (figs w)) : Nat) : Int), PySem.intText_neg e2 ha h0 (by omega), by omega⟩
  · rw [e2] at ha h0 h1 hv
    exact ⟨by omega, ((NumText.digitsVal (TL.tl w) : Nat) : Int), PySem.intText_digits ha h0 (by omega), by omega⟩
theorem numO_bd {w : Str} {n : Int} (h : readN w = some n) : n.natAbs < 10 ^ 60 := by
  unfold readN numO at h
  split at h
  · cases h
  · rename_i h1
    split at h
    · rename_i h2
      split at h
      · cases h
      · obtain ⟨_, m, e, hm⟩ := num_text (w := w) (fun z => h1 (.inl z)) (by omega) h2
        rw [e] at h
        cases h
        exact hm
    · cases h
abbrev tailB (m : ME) : MSs := (.cons (.iff (.bop false (.cons (.cmp .eq (.var 1) (.cst (.str ""))) (.cons (.cmp .gt (.blt .len (.cons (.var 1) .nil)) m) .nil))) (.cons (.ret (.cst .non))
    .nil) .nil)
    (.cons (.forr (.nm 2) .seq (.cons (.var 1) .nil) digB)
    (.cons (.iff (.bop true (.cons (.cmp .eq (.idx (.var 1) (.cst (.int 0))) (.cst (.str "0"))) (.cons (.cmp .ne (.var 0) (.cst (.str "0"))) .nil))) (.cons (.ret (.cst .non))
    .nil) .nil)
    (.cons (.ret (.blt .int (.cons (.var 0) .nil)))
    .nil))))
theorem empty_iff (f : Str) : f = Str.ofString "" ↔ TL.tl f = [] := ⟨fun h => by rw [h]; decide, fun h => TL.ext_tl (by rw [h]; decide)⟩
theorem srcF_str {c : Cl} {t : MT} {b : MSs} {s : AS} {A : AH} {f : Str} : srcF c t b s A (srcA A .seq [.str f]) = forD c t b (.fx ((TL.tl f).map fun c => .str ⟨#[c]⟩)) (TL.tl f).length s A := by
  show (match Src.len A (.fx (signs f)) with | none => F.stuck | some n => forD c t b (.fx (signs f)) n s A) = _
  unfold signs
  simp [Src.len]
theorem blt_intS {A : AH} {w : Str} {n : Int} (hl : w.length ≤ 640) (h : intText? w = some n) : bltA A BF.int [.str w] = .ok (.int n) A := by
  show (if w.length ≤ 640 then (match PySem.intText? w with | some n => R.ok (AV.int n) A | none => R.stuck) else R.stuck) = _
  rw [if_pos hl, h]
theorem tail_ok (c : Cl) (A : AH) {m : ME} (hm : ∀ s, evE c s m A = .ok (.int 60) A) {w : Str} (hw : TxOk 4000 w) : retA (exSs c [some (.str w), some (.str (figs w)), none] (tailB m) A) = .ok (numV (readN w)) A := by
  have hf := figs_ok hw
  have hz : (4000 : Nat) ≤ sizeLine := by decide +kernel
  have hle : (figs w).length ≤ sizeLine := Nat.le_trans hf.len hz
  have e0 : PyData.strOk (Str.ofString "") = true := by decide +kernel
  have e00 : PyData.strOk (Str.ofString "0") = true := by decide +kernel
  unfold readN numO
  by_cases h1 : TL.tl (figs w) = []
  · have h1' := (empty_iff _).mpr h1
    rw [if_pos (Or.inl h1)]
    simp [eq_str e0 e0, h1']
  · have h1' : ¬ figs w = Str.ofString "" := fun z => h1 ((empty_iff _).mp z)
    by_cases h2 : 60 < (figs w).length
    · have h2' : (60 : Int) < (figs w).length := by omega
      simp [eq_str hf.ok e0, h1', h1, hm, hle, h2, h2']
    · have h2' : ¬ (60 : Int) < (figs w).length := by omega
      simp only [h1, h2, or_self, if_false]
      have step : ∀ (b : MSs), exSs c [some (.str w), some (.str (figs w)), none] (.cons (.iff (.bop false (.cons (.cmp .eq (.var 1) (.cst (.str ""))) (.cons (.cmp .gt (.blt .len (.cons (.var 1) .nil)) m) .nil))) (.cons (.ret (.cst .non)) .nil) .nil) b) A = exSs c [some (.str w), some (.str (figs w)), none] b A := fun b => by
        simp [eq_str hf.ok e0, h1', h1, hm, hle, h2']
      rw [step]
      rw [exs_cons, ex_forr]
      simp only [evs_cons, ev_var, evs_nil, List.getElem?_cons_succ, List.getElem?_cons_zero, slotR_ok, consK_ok, consK2_ok, forK_ok]
      rw [srcF_str]
      unfold forD
      rcases dig_loop c A (some (.str w)) (some (.str (figs w))) (TL.tl (figs w)) [] none with ⟨hd, y, e⟩ | ⟨hd, s', e⟩
      · rw [List.nil_append, List.length_nil] at e
        rw [e, if_pos hd]
        obtain ⟨hwl, n, en, hn⟩ := num_text h1 (by omega) hd
        cases er : TL.tl (figs w) with
        | nil => exact absurd er h1
        | cons d r =>
          have hdd : 48 ≤ d ∧ d ≤ 57 := all_dig hd d (by rw [er]; exact List.mem_cons_self ..)
          have hs : PyData.strOk (⟨#[d]⟩ : Str) = true := strOk_iff.mpr fun c hc => by
            have : c ∈ [d] := hc
            rw [List.mem_singleton] at this
            omega
          have hi : idxA A (.str (figs w)) (.int 0) = some (.str ⟨#[d]⟩) := by
            rw [idx_str hle, er]
            simp
          have e48 : (⟨#[d]⟩ : Str) = Str.ofString "0" ↔ d = 48 := by
            constructor
            · intro z
              have : TL.tl (⟨#[d]⟩ : Str) = TL.tl (Str.ofString "0") := by rw [z]
              have z2 : TL.tl (Str.ofString "0") = [48] := by decide +kernel
              rw [z2] at this
              have z3 : [d] = [48] := this
              simpa using z3
            · intro z
              subst z
              exact TL.ext_tl (by decide +kernel)
          by_cases h48 : d = 48
          · subst h48
            have e48' := e48.mpr rfl
            by_cases hw0 : w = Str.ofString "0"
            · have hb := blt_intS (A := A) (by omega) en
              have hn2 : cmpA A .ne (.str w) (.str (Str.ofString "0")) = some false := by rw [ne_str hw.ok e00, hw0]; simp
              have he2 : cmpA A .eq (.str ⟨#[48]⟩) (.str (Str.ofString "0")) = some true := by rw [eq_str hs e00, e48']; simp
              rw [if_neg (fun z => z.2 hw0), en]
              simp [hi, he2, hn2, hb]
            · have hn2 : cmpA A .ne (.str w) (.str (Str.ofString "0")) = some true := by rw [ne_str hw.ok e00]; simp [hw0]
              have he2 : cmpA A .eq (.str ⟨#[48]⟩) (.str (Str.ofString "0")) = some true := by rw [eq_str hs e00, e48']; simp
              rw [if_pos ⟨rfl, hw0⟩]
              simp [hi, he2, hn2]
          · have e48' : ¬ (⟨#[d]⟩ : Str) = Str.ofString "0" := fun z => h48 (e48.mp z)
            have hb := blt_intS (A := A) (by omega) en
            have he2 : cmpA A .eq (.str ⟨#[d]⟩) (.str (Str.ofString "0")) = some false := by rw [eq_str hs e00]; simp [e48']
            rw [if_neg (fun z => h48 (by have := z.1; simpa using this)), en]
            simp [hi, he2, hb]
      · rw [List.nil_append, List.length_nil] at e
        rw [e, if_neg (by rw [hd]; simp)]
        simp
end MP

set_option maxRecDepth 100000
set_option autoImplicit false
set_option maxHeartbeats 1000000
/-! MQ7: list comprehensions, loops over lists; greatest common measures of lists. -/
namespace MP
open PySem L2
/-! ### comprehensions -/
def cstep (c : Cl) (s : AS) (own : List Nat) (tg : MT) (ifs : MEs) (elt : ME) : AV → AH → R (Option AV) := fun v A => match bindT A tg v (wipeA s own) with
  | none => .stuck
  | some s2 => (evB c s2 true ifs A).bind fun t A => match t with
    | .bl true => (evE c s2 elt A).bind fun y A => .ok (some y) A
    | .bl false => .ok none A
    | _ => .stuck
def compN (c : Cl) (s : AS) (own : List Nat) (tg : MT) (ifs : MEs) (elt : ME) (sr : Src) (n : Nat) (A : AH) : R AV := compL (cstep c s own tg ifs elt) sr A.length n 0 (A ++ [.lst []])
def compS (c : Cl) (s : AS) (own : List Nat) (tg : MT) (ifs : MEs) (elt : ME) (A : AH) (o : Option Src) : R AV := match o with
  | none => .stuck
  | some sr => match sr.len A with
    | none => .stuck
    | some n => compN c s own tg ifs elt sr n A
def compK (c : Cl) (s : AS) (own : List Nat) (tg : MT) (k : IK) (ifs : MEs) (elt : ME) (r : R (List AV)) : R AV := match r with
  | .ok vs A => compS c s own tg ifs elt A (srcA A k vs)
  | .exc C fs A => .exc C fs A
  | .stuck => .stuck
@[simp] theorem compK_ok (c : Cl) (s : AS) (own : List Nat) (tg : MT) (k : IK) (ifs : MEs) (elt : ME) (vs : List AV) (A : AH) : compK c s own tg k ifs elt (.ok vs A) = compS c s own tg ifs elt A (srcA A k vs) := ofEq rfl
@[simp] theorem compK_exc (c : Cl) (s : AS) (own : List Nat) (tg : MT) (k : IK) (ifs : MEs) (elt : ME) (C : Nat) (fs : List (Str × AV)) (A : AH) : compK c s own tg k ifs elt (.exc C fs A) = .exc C fs A := ofEq rfl
@[simp] theorem ev_comp {c : Cl} {s : AS} {A : AH} (own : List Nat) (tg : MT) (k : IK) (src ifs : MEs) (elt : ME) : evE c s (.comp own tg k src ifs elt) A = compK c s own tg k ifs elt (evs c s src A) := by
  rw [evE]
  cases evs c s src A <;> rfl
theorem src_end {A : AH} {sr : Src} {vs : List AV} (h : ∀ i, sr.at A i = some vs[i]?) : sr.at A vs.length = some none := by rw [h, List.getElem?_eq_none (Nat.le_refl _)]
/-- values without effects -/
theorem comp_map {c : Cl} {s : AS} {own : List Nat} {i : Nat} {elt : ME} {A : AH} {sr : Src} {vs : List AV} (g : AV → AV) (hat : ∀ (acc : List AV) j, sr.at (A ++ [AO.lst acc]) j = some vs[j]?) (hz : vs.length ≤ sizeLine)
    (helt : ∀ v ∈ vs, ∀ acc, evE c ((wipeA s own).set i (some v)) elt (A ++ [.lst acc]) = .ok (g v) (A ++ [.lst acc])) : compN c s own (.nm i) .nil elt sr vs.length A = .ok (.ref A.length) (A ++ [.lst (vs.map g)]) := by
  have hD : ∀ acc : List AV, lstAt (A ++ [AO.lst acc]) A.length = some acc := fun acc => by rw [lstAt_iff]; simp
  have hS : ∀ acc acc' : List AV, setL (A ++ [AO.lst acc]) A.length acc' = A ++ [.lst acc'] := fun acc acc' => by unfold setL; simp
  obtain ⟨acc', A', k1, k2, k3⟩ := compL_rule (step := cstep c s own (.nm i) .nil elt) (sr := sr) (D := A.length) (fun j acc B => B = A ++ [AO.lst acc] ∧ acc = (vs.take j).map g ∧ j ≤ vs.length) vs.length
    (fun j hj acc B ⟨hB, ha, _⟩ hl => by
      subst hB
      refine ⟨vs[j], by rw [hat, List.getElem?_eq_getElem hj], .inl ⟨g vs[j], A ++ [AO.lst acc], ?_, hl, ?_, ?_⟩⟩
      · show (match bindT (A ++ [AO.lst acc]) (.nm i) vs[j] (wipeA s own) with
          | none => R.stuck
          | some s2 => (evB c s2 true MEs.nil (A ++ [AO.lst acc])).bind fun t A => match t with
            | .bl true => (evE c s2 elt A).bind fun y A => .ok (some y) A
            | .bl false => .ok none A
            | _ => .stuck) = _
        simp only [bindT, evB, R.bind]
        rw [helt _ (List.getElem_mem hj) acc]
      · rw [ha, List.length_map, List.length_take]
        omega
      · rw [hS]
        refine ⟨rfl, ?_, hj⟩
        rw [ha, List.take_succ_eq_append_getElem hj, List.map_append]
        rfl)
    (fun acc B ⟨hB, _, _⟩ => by subst hB; exact src_end (hat acc)) (fun B acc y h => lst_set h) vs.length 0 (by omega) [] (A ++ [AO.lst []]) ⟨rfl, by simp, Nat.zero_le _⟩ (hD [])
  obtain ⟨hB, ha, _⟩ := k2
  rw [List.take_length] at ha
  show compL _ sr A.length vs.length 0 (A ++ [.lst []]) = _
  rw [k1, hB, ha]
/-- the rule with a list at its address -/
theorem at_dyA {A : AH} {h : Nat} {vs : List AV} (hh : A[h]? = some (.lst vs)) (G : AH) (i : Nat) : Src.at (A ++ G) i (.dy h) = some vs[i]? := by
  have hl := (List.getElem?_eq_some_iff.mp hh).1
  show ((A ++ G)[h]?.bind AO.items?).map (·[i]?) = _
  rw [List.getElem?_append_left hl, hh]; rfl
theorem compS_dy {c : Cl} {s : AS} {own : List Nat} {i : Nat} {elt : ME} {A : AH} {h : Nat} {vs : List AV} (g : AV → AV) (hh : A[h]? = some (.lst vs)) (hz : vs.length ≤ sizeLine)
    (helt : ∀ v ∈ vs, ∀ acc, evE c ((wipeA s own).set i (some v)) elt (A ++ [.lst acc]) = .ok (g v) (A ++ [.lst acc])) : compS c s own (.nm i) .nil elt A (srcA A .seq [.ref h]) = .ok (.ref A.length) (A ++ [.lst (vs.map g)]) := by
  have e1 : srcA A .seq [.ref h] = some (.dy h) := by
    show (match A[h]?.bind AO.items? with | some _ => some (Src.dy h) | none => none) = _
    rw [hh]; rfl
  have e2 : Src.len A (.dy h) = some vs.length := by
    show (A[h]?.bind AO.items?).map (·.length) = _
    rw [hh]; rfl
  rw [e1]
  show (match Src.len A (.dy h) with | none => R.stuck | some n => compN c s own (.nm i) .nil elt (.dy h) n A) = _
  rw [e2]
  exact comp_map g (fun acc j => at_dyA hh _ j) hz helt
theorem compS_tup {c : Cl} {s : AS} {own : List Nat} {i : Nat} {elt : ME} {A : AH} {vs : List AV} (g : AV → AV) (hz : vs.length ≤ sizeLine)
    (helt : ∀ v ∈ vs, ∀ acc, evE c ((wipeA s own).set i (some v)) elt (A ++ [.lst acc]) = .ok (g v) (A ++ [.lst acc])) : compS c s own (.nm i) .nil elt A (srcA A .seq [.tup vs]) = .ok (.ref A.length) (A ++ [.lst (vs.map g)]) :=
  comp_map (sr := .fx vs) g (fun acc j => rfl) hz helt
/-! ### loops over a list -/
theorem srcF_dyA {A : AH} {h : Nat} {vs : List AV} (hh : A[h]? = some (.lst vs)) (c : Cl) (t : MT) (b : MSs) (s : AS) : srcF c t b s A (srcA A .seq [.ref h]) = forD c t b (.dy h) vs.length s A := by
  have e1 : srcA A .seq [.ref h] = some (.dy h) := by
    show (match A[h]?.bind AO.items? with | some _ => some (Src.dy h) | none => none) = _
    rw [hh]; rfl
  have e2 : Src.len A (.dy h) = some vs.length := by
    show (A[h]?.bind AO.items?).map (·.length) = _
    rw [hh]; rfl
  rw [e1]
  show (match Src.len A (.dy h) with | none => F.stuck | some n => forD c t b (.dy h) n s A) = _
  rw [e2]
theorem at_dy0 {A : AH} {h : Nat} {vs : List AV} (hh : A[h]? = some (.lst vs)) (i : Nat) : Src.at A i (.dy h) = some vs[i]? := by
  have := at_dyA hh [] i
  rwa [List.append_nil] at this
/-! ### greatest common measures -/
def gcdL (ws : List Int) : Int := ws.foldl (fun (a b : Int) => (Int.gcd a b : Int)) 0
theorem gcdL_take {ws : List Int} {i : Nat} (hi : i < ws.length) : gcdL (ws.take (i + 1)) = (Int.gcd (gcdL (ws.take i)) ws[i] : Int) := by
  unfold gcdL
  rw [List.take_succ_eq_append_getElem hi, List.foldl_append]
  rfl
def commonOfB (g : Nat) : MSs := (.cons (.asg (.nm 1) (.cst (.int 0)))
    (.cons (.forr (.nm 2) .seq (.cons (.var 0) .nil) (.cons (.asg (.nm 1) (.call g (.cons (.var 1) (.cons (.var 2) .nil))))
    .nil))
    (.cons (.ret (.var 1))
    .nil)))
/-- it tells the greatest common measure of a list -/
def GcdLOk (T : Tb) (f : Nat) : Prop := ∀ (k : Nat) (A : AH) (n : Nat) (ws : List Int), A[n]? = some (.lst (ws.map AV.int)) → callN T (k + 2) f [.ref n] A = .ok (.int (gcdL ws)) A
abbrev gstepB (g : Nat) : MSs := (.cons (.asg (.nm 1) (.call g (.cons (.var 1) (.cons (.var 2) .nil)))) .nil)
theorem gloop {T : Tb} {g : Nat} (hg : GcdOk T g) (k : Nat) (A : AH) (n : Nat) (ws : List Int) (hh : A[n]? = some (.lst (ws.map AV.int))) (s0 : Option AV) (x : Option AV) :
    ∃ y, forD (clOf T (callN T (k + 1))) (.nm 2) (gstepB g) (.dy n) ws.length [s0, some (.int 0), x] A = .nx [s0, some (.int (gcdL ws)), y] A := by
  have lp := forL_inv (t := .nm 2) (body := fun s A => exSs (clOf T (callN T (k + 1))) s (gstepB g) A) (sr := .dy n)
    (fun i s A' => A' = A ∧ i ≤ ws.length ∧ ∃ y, s = [s0, some (.int (gcdL (ws.take i))), y]) ws.length
    (fun i hi s A' hP => by
      obtain ⟨rfl, hi2, y, rfl⟩ := hP
      refine ⟨.int ws[i], _, ?_, bindT_nm _ _ _, [s0, some (.int (gcdL (ws.take (i + 1)))), some (.int ws[i])], A', ?_, rfl, hi, _, rfl⟩
      · rw [at_dy0 hh, List.getElem?_map, List.getElem?_eq_getElem hi]; rfl
      · rw [gcdL_take hi]
        have e := hg k A' (gcdL (ws.take i)) ws[i]
        simp [e])
    (fun s A' hP => by
      obtain ⟨rfl, _, _, rfl⟩ := hP
      rw [at_dy0 hh]
      simp) [s0, some (.int 0), x] A ⟨rfl, Nat.zero_le _, x, rfl⟩
  obtain ⟨s', A', e, rfl, _, y, rfl⟩ := lp
  rw [List.take_length] at e
  exact ⟨y, e⟩
theorem commonOf_ok {T : Tb} {f g : Nat} (h : Has T f 1 3 (commonOfB g)) (hg : GcdOk T g) : GcdLOk T f := fun k A n ws hh => by
  rw [h.call rfl]
  obtain ⟨y, e⟩ := gloop hg k A n ws hh (some (.ref n)) none
  simp [commonOfB, startA]
  rw [srcF_dyA hh, List.length_map, e]
  simp
theorem gcdL_dvd : ∀ (ws : List Int) (a : Int), (ws.foldl (fun (a b : Int) => (Int.gcd a b : Int)) a) ∣ a ∧ ∀ w ∈ ws, (ws.foldl (fun (a b : Int) => (Int.gcd a b : Int)) a) ∣ w
  | [], a => ⟨Int.dvd_refl a, fun _ h => nomatch h⟩
  | w :: ws, a => by
    obtain ⟨h1, h2⟩ := gcdL_dvd ws (Int.gcd a w : Int)
    refine ⟨Int.dvd_trans h1 (Int.gcd_dvd_left a w), fun v hv => ?_⟩
    rcases List.mem_cons.mp hv with rfl | hv
    · exact Int.dvd_trans h1 (Int.gcd_dvd_right a v)
    · exact h2 v hv
theorem gcdL_nonneg (ws : List Int) : 0 ≤ gcdL ws := by
  have : ∀ (ws : List Int) (a : Int), 0 ≤ a → 0 ≤ ws.foldl (fun (a b : Int) => (Int.gcd a b : Int)) a := fun ws => by
    induction ws with
    | nil => intro a h; exact h
    | cons w ws ih => intro a _; exact ih _ (Int.natCast_nonneg _)
  exact this ws 0 (by omega)
theorem gcdL_pos {ws : List Int} (h : ∃ w ∈ ws, w ≠ 0) : 0 < gcdL ws := by
  obtain ⟨w, hw, h0⟩ := h
  have h1 := (gcdL_dvd ws 0).2 w hw
  have h2 := gcdL_nonneg ws
  rcases Int.lt_or_eq_of_le h2 with z | z
  · exact z
  · exfalso
    have : gcdL ws ∣ w := h1
    rw [← z] at this
    exact h0 (Int.zero_dvd.mp this)
/-- in lowest terms -/
def lowL (ws : List Int) : List Int := ws.map fun w => w.fdiv (gcdL ws)
theorem lowL_len (ws : List Int) : (lowL ws).length = ws.length := by simp [lowL]
def lowestB (g : Nat) : MSs := (.cons (.asg (.nm 1) (.cst (.int 0)))
    (.cons (.forr (.nm 2) .seq (.cons (.var 0) .nil) (gstepB g))
    (.cons (.ret (.comp [2] (.nm 2) .seq (.cons (.var 0) .nil) .nil (.bin .fdiv (.var 2) (.var 1))))
    .nil)))
theorem dvd_bd {n : Nat} {g w : Int} (h : g ∣ w) (h0 : w ≠ 0) (hb : Bd n w) : Bd n g := by
  unfold Bd at *
  have := Nat.le_of_dvd (by omega) (Int.natAbs_dvd_natAbs.mpr h)
  omega
/-- numbers with a greatest common measure that may divide -/
structure Ws (ws : List Int) : Prop where
  ne : ∃ w ∈ ws, w ≠ 0
  bd : ∀ w ∈ ws, Bd 8000 w
theorem Ws.gbd {ws : List Int} (h : Ws ws) : Bd 8000 (gcdL ws) := by
  obtain ⟨w, hw, h0⟩ := h.ne
  exact dvd_bd ((gcdL_dvd ws 0).2 w hw) h0 (h.bd w hw)
theorem Ws.fdiv {ws : List Int} (h : Ws ws) (A : AH) (w : Int) : opA A .fdiv (.int w) (.int (gcdL ws)) = .ok (.int (w.fdiv (gcdL ws))) A := op_fdivB h.gbd (by omega) (by omega) (by have := gcdL_pos h.ne; omega)
theorem lowest_ok {T : Tb} {f g : Nat} (h : Has T f 1 3 (lowestB g)) (hg : GcdOk T g) (k : Nat) (A : AH) (n : Nat) (ws : List Int) (hh : A[n]? = some (.lst (ws.map AV.int))) (hw : Ws ws) (hz : ws.length ≤ 1000) :
    callN T (k + 2) f [.ref n] A = .ok (.ref A.length) (A ++ [.lst ((lowL ws).map AV.int)]) := by
  rw [h.call rfl]
  obtain ⟨y, e⟩ := gloop hg k A n ws hh (some (.ref n)) none
  have hs : (1000 : Nat) ≤ sizeLine := by decide +kernel
  simp [lowestB, startA]
  rw [srcF_dyA hh, List.length_map, e]
  have cm := compS_dy (c := clOf T (callN T (k + 1))) (s := [some (.ref n), some (.int (gcdL ws)), y]) (own := [2]) (i := 2) (elt := .bin .fdiv (.var 2) (.var 1)) (fun v => match v with | .int w => .int (w.fdiv (gcdL ws)) | v => v) hh (by rw [List.length_map]; omega)
    (fun v hv acc => by
      obtain ⟨w, _, rfl⟩ := List.mem_map.mp hv
      simp [wipeA, hw.fdiv])
  simp [cm, lowL]
end MP

set_option maxRecDepth 100000
set_option autoImplicit false
set_option maxHeartbeats 1000000
/-! MQ8: beliefs. -/
namespace MP
open PySem L2
/-- a plain value -/
def AV.flat : AV → Bool
  | .non => true
  | .bl _ => true
  | .int _ => true
  | .str _ => true
  | _ => false
def AV.whole : AV → Bool
  | .int _ => true
  | _ => false
theorem wholeV_ok {T : Tb} {f : Nat} (h : Has T f 1 1 wholeB) (k : Nat) (A : AH) {v : AV} (hv : v.flat = true) : callN T (k + 1) f [v] A = .ok (.bl v.whole) A := by
  rw [h.call rfl]
  cases v <;> first
    | cases hv
    | skip
  · simp [wholeB, startA, AV.whole]
  · simp [wholeB, startA, AV.whole]
  · simp [wholeB, startA, AV.whole]
  · simp [wholeB, startA, AV.whole]
/-- a weight that stands -/
def AV.okW : AV → Bool
  | .int i => decide (0 ≤ i)
  | _ => false
abbrev ffLoopB (w : Nat) : MSs := (.cons (.iff (.bop false (.cons (.not (.call w (.cons (.var 2) .nil))) (.cons (.cmp .lt (.var 2) (.cst (.int 0))) .nil))) (.cons (.ret (.var 1))
    .nil) .nil)
    .nil)
def firstFaultB (w g : Nat) : MSs := (.cons (.forr (.tp [(.nm 1), (.nm 2)]) .enum (.cons (.var 0) .nil) (ffLoopB w))
    (.cons (.iff (.bop false (.cons (.cmp .eq (.blt .len (.cons (.var 0) .nil)) (.cst (.int 0))) (.cons (.cmp .gt (.blt .len (.cons (.var 0) .nil)) (.gl g)) (.cons (.cmp .eq (.blt .sum (.cons (.var 0) .nil)) (.cst (.int 0))) .nil)))) (.cons (.ret (.blt .len (.cons (.var 0) .nil)))
    .nil) .nil)
    (.cons (.ret (.cst .non))
    .nil)))
theorem allInts_map (ws : List Int) : allInts (ws.map AV.int) = some ws := by
  induction ws with
  | nil => rfl
  | cons w ws ih =>
    show (allInts (ws.map AV.int)).map (w :: ·) = _
    rw [ih]; rfl
theorem sum_lst {A : AH} {n : Nat} {ws : List Int} (h : A[n]? = some (.lst (ws.map AV.int))) : bltA A .sum [.ref n] = .ok (.int ws.sum) A := by
  have e : intsOf A (.ref n) = some ws := by
    show (A[n]?.bind AO.items?).bind allInts = _
    rw [h]
    exact allInts_map ws
  show (match intsOf A (.ref n) with | some ns => R.ok (AV.int ns.sum) A | none => R.stuck) = _
  rw [e]
/-- what first_fault tells of a list -/
def ffV (vs : List AV) : Option Nat := match vs.findIdx? fun v => !v.okW with
  | some i => some i
  | none => match allInts vs with
    | some ws => if ws.length = 0 ∨ 4 < ws.length ∨ ws.sum = 0 then some ws.length else none
    | none => none
def natV : Option Nat → AV
  | some i => .int i
  | none => .non
theorem ok_ints : ∀ {vs : List AV}, (∀ v ∈ vs, v.okW = true) → ∃ ws : List Int, vs = ws.map AV.int ∧ ∀ w ∈ ws, 0 ≤ w
  | [], _ => ⟨[], rfl, fun _ h => nomatch h⟩
  | v :: vs, h => by
    obtain ⟨ws, e, hw⟩ := ok_ints fun v hv => h v (List.mem_cons_of_mem _ hv)
    have h0 := h v (List.mem_cons_self ..)
    cases v <;> first
      | cases h0
      | skip
    rename_i i
    refine ⟨i :: ws, by rw [e]; rfl, fun w hw' => ?_⟩
    rcases List.mem_cons.mp hw' with rfl | hw'
    · exact of_decide_eq_true h0
    · exact hw w hw'
def FfOk (T : Tb) (f : Nat) : Prop := ∀ (k : Nat) (A : AH) (n : Nat) (vs : List AV), A[n]? = some (.lst vs) → (∀ v ∈ vs, v.flat = true) → callN T (k + 2) f [.ref n] A = .ok (natV (ffV vs)) A
theorem firstFault_ok {T : Tb} {f w g : Nat} (h : Has T f 1 3 (firstFaultB w g)) (hw : Has T w 1 1 wholeB) (hg : (T.gls[g]?).map (·.2) = some (.int 4)) : FfOk T f := fun k A n vs hh hf => by
  rw [h.call rfl]
  have src : ∀ (s : AS), srcF (clOf T (callN T (k + 1))) (.tp [.nm 1, .nm 2]) (ffLoopB w) s A (srcA A .enum [.ref n]) = forD (clOf T (callN T (k + 1))) (.tp [.nm 1, .nm 2]) (ffLoopB w) (.en (.dy n)) vs.length s A := fun s => by
    have e1 : srcA A .enum [.ref n] = some (.en (.dy n)) := by
      show ((match A[n]?.bind AO.items? with | some _ => some (Src.dy n) | none => none)).map Src.en = _
      rw [hh]; rfl
    have e2 : Src.len A (.en (.dy n)) = some vs.length := by
      show (A[n]?.bind AO.items?).map (·.length) = _
      rw [hh]; rfl
    rw [e1]
    show (match Src.len A (.en (.dy n)) with | none => F.stuck | some m => forD _ _ _ (.en (.dy n)) m s A) = _
    rw [e2]
  have at_ : ∀ i, Src.at A i (.en (.dy n)) = some ((vs[i]?).map fun v => .tup [.int i, v]) := fun i => by
    show (Src.at A i (.dy n)).map _ = _
    rw [at_dy0 hh]; rfl
  have lp := forL_rule (t := .tp [.nm 1, .nm 2]) (body := fun s A => exSs (clOf T (callN T (k + 1))) s (ffLoopB w) A) (sr := .en (.dy n))
    (fun i s A' => A' = A ∧ i ≤ vs.length ∧ (∀ j (hj : j < vs.length), j < i → vs[j].okW = true) ∧ ∃ x y, s = [some (.ref n), x, y])
    (fun r => ∃ i, ∃ hi : i < vs.length, (∀ j (hj : j < vs.length), j < i → vs[j].okW = true) ∧ vs[i].okW = false ∧ ∃ s, r = .rt (.int i) s A) vs.length
    (fun i hi s A' hP => by
      obtain ⟨rfl, hi2, hok, x, y, rfl⟩ := hP
      refine ⟨.tup [.int i, vs[i]], [some (.ref n), some (.int i), some vs[i]], by rw [at_, List.getElem?_eq_getElem hi]; rfl, rfl, ?_⟩
      have fl := hf _ (List.getElem_mem hi)
      have ew := wholeV_ok hw k A' fl
      cases hv : vs[i].okW with
      | true =>
        left
        refine ⟨[some (.ref n), some (.int i), some vs[i]], A', .inl ?_, rfl, hi, fun j hj hji => ?_, some (.int i), some vs[i], rfl⟩
        · cases hq : vs[i] <;> rw [hq] at hv <;> first
            | cases hv
            | skip
          rename_i z
          rw [hq] at ew
          have h0 : ¬ z < 0 := by have : 0 ≤ z := of_decide_eq_true hv; omega
          simp [ew, AV.whole, h0]
        · by_cases hq : j = i
          · subst hq; exact hv
          · exact hok j hj (by omega)
      | false =>
        right; right; left
        refine ⟨.int i, [some (.ref n), some (.int i), some vs[i]], A', ?_, i, hi, hok, hv, _, rfl⟩
        cases hq : vs[i] <;> rw [hq] at fl ew hv <;> first
          | cases fl
          | skip
        · simp [ew, AV.whole]
        · simp [ew, AV.whole]
        · rename_i z
          have h0 : z < 0 := by
            have : ¬ 0 ≤ z := of_decide_eq_false hv
            omega
          simp [ew, AV.whole, h0]
        · simp [ew, AV.whole])
    (fun s A' hP => by
      obtain ⟨rfl, _⟩ := hP
      rw [at_, List.getElem?_eq_none (Nat.le_refl _)]; rfl) vs.length 0 (by omega) [some (.ref n), none, none] A ⟨rfl, Nat.zero_le _, fun j _ h => by omega, none, none, rfl⟩
  rcases lp with ⟨s', A', e, rfl, _, hok, x, y, rfl⟩ | ⟨i, hi, hok, hv, s', e⟩
  · obtain ⟨ws, rfl, hws⟩ := ok_ints (vs := vs) fun v hv => by
      obtain ⟨j, hj, rfl⟩ := List.mem_iff_getElem.mp hv
      exact hok j hj hj
    have hfi : (ws.map AV.int).findIdx? (fun v => !v.okW) = none := by
      rw [List.findIdx?_eq_none_iff]
      intro v hv
      obtain ⟨j, hj, rfl⟩ := List.mem_iff_getElem.mp hv
      rw [hok j hj hj]; rfl
    have e1 := sum_lst hh
    have e2 := len_lst hh
    rw [List.length_map] at e2
    unfold ffV
    rw [hfi, allInts_map]
    have hgl : ∀ (s : AS), evE (clOf T (callN T (k + 1))) s (.gl g) A' = .ok (.int 4) A' := fun s => by
      rw [ev_gl]
      show optR A' ((T.gls[g]?).map (·.2)) = _
      rw [hg]; rfl
    simp only [firstFaultB, startA]
    simp only [exs_cons, ex_forr, evs_cons, ev_var, evs_nil, List.map, List.length_cons, List.length_nil, Nat.zero_add, List.replicate, List.cons_append, List.nil_append, List.getElem?_cons_zero, slotR_ok, consK_ok, consK2_ok, forK_ok]
    rw [src]
    unfold forD
    simp only [List.length_map] at e
    rw [List.length_map, e]
    by_cases q1 : ws.length = 0
    · simp [e1, e2, hgl, q1, natV]
    · by_cases q2 : 4 < ws.length
      · have q2' : (4 : Int) < ws.length := by omega
        have q1' : ¬ (ws.length : Int) = 0 := by omega
        simp [e1, e2, hgl, q1, q1', q2, q2', natV]
      · have q2' : ¬ (4 : Int) < ws.length := by omega
        have q1' : ¬ (ws.length : Int) = 0 := by omega
        by_cases q3 : ws.sum = 0
        · simp [e1, e2, hgl, q1, q1', q2, q2', q3, natV]
        · simp [e1, e2, hgl, q1, q1', q2, q2', q3, natV]
  · have hfi : vs.findIdx? (fun v => !v.okW) = some i := by
      rw [List.findIdx?_eq_some_iff_getElem]
      exact ⟨hi, by rw [hv]; rfl, fun j hj => by rw [hok j (by omega) hj]; simp⟩
    unfold ffV
    rw [hfi]
    simp only [firstFaultB, startA]
    simp only [exs_cons, ex_forr, evs_cons, ev_var, evs_nil, List.map, List.length_cons, List.length_nil, Nat.zero_add, List.replicate, List.cons_append, List.nil_append, List.getElem?_cons_zero, slotR_ok, consK_ok, consK2_ok, forK_ok]
    rw [src]
    unfold forD
    rw [e]
    simp [natV]
/-! ### a belief made -/
/-- weights that make a belief -/
structure Good4 (ws : List Int) : Prop where
  pos : ∀ w ∈ ws, 0 ≤ w
  l1 : 1 ≤ ws.length
  l4 : ws.length ≤ 4
  sum : ws.sum ≠ 0
  bd : ∀ w ∈ ws, Bd 1800 w
theorem sum_zero : ∀ {ws : List Int}, (∀ w ∈ ws, w = 0) → ws.sum = 0
  | [], _ => rfl
  | w :: ws, h => by
    rw [List.sum_cons, h w (List.mem_cons_self ..), sum_zero fun v hv => h v (List.mem_cons_of_mem _ hv)]
    rfl
theorem Good4.ws {ws : List Int} (h : Good4 ws) : Ws ws where
  ne := Classical.byContradiction fun z => h.sum (sum_zero fun w hw => Classical.byContradiction fun q => z ⟨w, hw, q⟩)
  bd := fun w hw => (h.bd w hw).mono (by omega)
theorem Good4.ff {ws : List Int} (h : Good4 ws) : ffV (ws.map AV.int) = none := by
  have hfi : (ws.map AV.int).findIdx? (fun v => !v.okW) = none := by
    rw [List.findIdx?_eq_none_iff]
    intro v hv
    obtain ⟨w, hw, rfl⟩ := List.mem_map.mp hv
    have := h.pos w hw
    simp [AV.okW, this]
  unfold ffV
  rw [hfi, allInts_map]
  have h1 := h.l1
  have h4 := h.l4
  have hs := h.sum
  show (if ws.length = 0 ∨ 4 < ws.length ∨ ws.sum = 0 then some ws.length else none) = none
  rw [if_neg]
  rintro (z | z | z)
  · omega
  · omega
  · exact hs z
theorem ints_flat (ws : List Int) : ∀ v ∈ ws.map AV.int, v.flat = true := fun v hv => by
  obtain ⟨w, _, rfl⟩ := List.mem_map.mp hv
  rfl
def beliefInitB (ff co ex : Nat) : MSs := (.cons (.asg (.nm 2) (.call ff (.cons (.var 1) .nil)))
    (.cons (.iff (.cmp .isnot (.var 2) (.cst .non)) (.cons (.raise ex (.cons (.var 2) .nil))
    .nil) .nil)
    (.cons (.asg (.nm 3) (.call co (.cons (.var 1) .nil)))
    (.cons (.setFld (.var 0) "weights" (.blt .tuple (.cons (.comp [4] (.nm 4) .seq (.cons (.var 1) .nil) .nil (.bin .fdiv (.var 4) (.var 3))) .nil)))
    .nil))))
/-- a belief's object -/
def bel (C : Nat) (ws : List Int) : AO := .ins C [("weights", .tup (ws.map AV.int))]
def intL (ws : List Int) : AO := .lst (ws.map AV.int)
theorem tuple_lst {A : AH} {n : Nat} {vs : List AV} (h : A[n]? = some (.lst vs)) : bltA A .tuple [.ref n] = .ok (.tup vs) A := by
  show (match A[n]?.bind AO.items? with | some vs => R.ok (AV.tup vs) A | none => .stuck) = _
  rw [h]; rfl
def MkOk (T : Tb) (f C : Nat) : Prop := ∀ (k : Nat) (A : AH) (n : Nat) (ws : List Int), A[n]? = some (intL ws) → Good4 ws → callN T (k + 3) f [.ref A.length, .ref n] (A ++ [.ins C []]) = .ok .non (A ++ [bel C (lowL ws), intL (lowL ws)])
theorem beliefMk_ok {T : Tb} {f ff co ex C : Nat} (h : Has T f 2 5 (beliefInitB ff co ex)) (h1 : FfOk T ff) (h2 : GcdLOk T co) (hf : T.fldN C "weights" = true) : MkOk T f C := fun k A n ws hn hg => by
  rw [h.call rfl]
  have hl := (List.getElem?_eq_some_iff.mp hn).1
  have hn' : (A ++ [AO.ins C []])[n]? = some (.lst (ws.map AV.int)) := by rw [List.getElem?_append_left hl]; exact hn
  have e1 := h1 k (A ++ [.ins C []]) n _ hn' (ints_flat ws)
  rw [hg.ff] at e1
  have e2 := h2 k (A ++ [.ins C []]) n ws hn'
  have hs : (1000 : Nat) ≤ sizeLine := by decide +kernel
  have cm := compS_dy (c := clOf T (callN T (k + 2))) (s := [some (.ref A.length), some (.ref n), some .non, some (.int (gcdL ws)), none]) (own := [4]) (i := 4) (elt := .bin .fdiv (.var 4) (.var 3)) (fun v => match v with | .int w => .int (w.fdiv (gcdL ws)) | v => v) hn' (by have := hg.l4; rw [List.length_map]; omega)
    (fun v hv acc => by
      obtain ⟨w, _, rfl⟩ := List.mem_map.mp hv
      simp [wipeA, hg.ws.fdiv])
  have em : (ws.map AV.int).map (fun v => match v with | .int w => .int (w.fdiv (gcdL ws)) | v => v) = (lowL ws).map AV.int := by simp [lowL]
  rw [em] at cm
  have et : bltA (A ++ [AO.ins C []] ++ [AO.lst ((lowL ws).map AV.int)]) .tuple [.ref (A ++ [AO.ins C []]).length] = .ok (.tup ((lowL ws).map AV.int)) (A ++ [AO.ins C []] ++ [AO.lst ((lowL ws).map AV.int)]) := tuple_lst (by simp)
  have es : ∀ c : Cl, c.fldB = T.fldN → setFldA c (A ++ [AO.ins C []] ++ [AO.lst ((lowL ws).map AV.int)]) "weights" (.ref A.length) (.tup ((lowL ws).map AV.int)) = some (A ++ [bel C (lowL ws), intL (lowL ws)]) := fun c hc => by
    have hi : (A ++ [AO.ins C []] ++ [AO.lst ((lowL ws).map AV.int)])[A.length]? = some (.ins C []) := by simp
    unfold setFldA
    simp only [hi]
    rw [hc]
    simp [hf, putF, bel, intL]
  have e1' : callN T (k + 2) ff [.ref n] (A ++ [.ins C []]) = .ok .non (A ++ [.ins C []]) := e1
  simp only [List.append_assoc, List.cons_append, List.nil_append, List.length_append, List.length_cons, List.length_nil, Nat.zero_add] at cm et es e1' e2
  simp [beliefInitB, startA, e1', e2, cm, et, es]
/-! ### looks at beliefs -/
def sameListB (w : Nat) : MSs := (.cons (.iff (.bop false (.cons (.not (.isi (.var 0) .list)) (.cons (.cmp .ne (.blt .len (.cons (.var 0) .nil)) (.blt .len (.cons (.var 1) .nil))) .nil))) (.cons (.ret (.cst (.bl false)))
    .nil) .nil)
    (.cons (.forr (.nm 2) .range1 (.cons (.blt .len (.cons (.var 1) .nil)) .nil) (.cons (.iff (.bop false (.cons (.not (.call w (.cons (.idx (.var 0) (.var 2)) .nil))) (.cons (.cmp .ne (.idx (.var 0) (.var 2)) (.idx (.var 1) (.var 2))) .nil))) (.cons (.ret (.cst (.bl false)))
    .nil) .nil)
    .nil))
    (.cons (.ret (.cst (.bl true)))
    .nil)))
theorem isi_lst {A : AH} {n : Nat} {vs : List AV} (h : A[n]? = some (.lst vs)) (t : TyN) : isiA A (.ref n) t = some (decide (t = .list)) := by
  show (match A[n]?.bind AO.items? with | some _ => some (decide (t = TyN.list)) | none => none) = _
  rw [h]; rfl
theorem srcF_range {c : Cl} {t : MT} {b : MSs} {s : AS} {A : AH} {v : Nat} (hv : v < 2 ^ 60) : srcF c t b s A (srcA A .range1 [.int v]) = forD c t b (.fx (rangeL 0 v)) v s A := by
  have e : srcA A .range1 [.int v] = some (.fx (rangeL 0 v)) := by
    show (if -big ≤ (v : Int) ∧ (v : Int) < big then some (Src.fx (rangeL 0 v)) else none) = _
    rw [if_pos (by unfold big; omega)]
  rw [e]
  show forD c t b (.fx (rangeL 0 v)) (rangeL 0 v).length s A = _
  have : (rangeL 0 (v : Int)).length = v := by simp [rangeL]
  rw [this]
theorem at_range {A : AH} {v : Nat} (i : Nat) : Src.at A i (.fx (rangeL 0 v)) = some (if i < v then some (.int i) else none) := by
  show some (rangeL 0 v)[i]? = _
  unfold rangeL
  rw [List.getElem?_map]
  by_cases h : i < v
  · rw [List.getElem?_range (by omega), if_pos h]; simp
  · rw [List.getElem?_eq_none (by simp; omega), if_neg h]; rfl
def SameListOk (T : Tb) (f : Nat) : Prop := ∀ (k : Nat) (A : AH) (n m : Nat) (ws : List Int), A[n]? = some (intL ws) → A[m]? = some (intL ws) → ws.length < 1000 → callN T (k + 2) f [.ref n, .ref m] A = .ok (.bl true) A
theorem sameList_ok {T : Tb} {f w : Nat} (h : Has T f 2 3 (sameListB w)) (hw : Has T w 1 1 wholeB) : SameListOk T f := fun k A n m ws hn hm hl => by
  rw [h.call rfl]
  have e1 := len_lst hn
  have e2 := len_lst hm
  rw [List.length_map] at e1 e2
  have lp := forL_inv (t := .nm 2) (body := fun s A => exSs (clOf T (callN T (k + 1))) s (.cons (.iff (.bop false (.cons (.not (.call w (.cons (.idx (.var 0) (.var 2)) .nil))) (.cons (.cmp .ne (.idx (.var 0) (.var 2)) (.idx (.var 1) (.var 2))) .nil))) (.cons (.ret (.cst (.bl false))) .nil) .nil) .nil) A) (sr := .fx (rangeL 0 ws.length))
    (fun i s A' => A' = A ∧ i ≤ ws.length ∧ ∃ y, s = [some (.ref n), some (.ref m), y]) ws.length
    (fun i hi s A' hP => by
      obtain ⟨rfl, _, y, rfl⟩ := hP
      refine ⟨.int i, [some (.ref n), some (.ref m), some (.int i)], by rw [at_range, if_pos hi], rfl, [some (.ref n), some (.ref m), some (.int i)], A', ?_, rfl, hi, _, rfl⟩
      have i1 : idxA A' (.ref n) (.int i) = some (.int ws[i]) := by rw [idx_lst hn, MP.atI_nat, List.getElem?_map, List.getElem?_eq_getElem hi]; rfl
      have i2 : idxA A' (.ref m) (.int i) = some (.int ws[i]) := by rw [idx_lst hm, MP.atI_nat, List.getElem?_map, List.getElem?_eq_getElem hi]; rfl
      simp [i1, i2, whole_ok hw])
    (fun s A' hP => by rw [at_range, if_neg (by omega)]) [some (.ref n), some (.ref m), none] A ⟨rfl, Nat.zero_le _, none, rfl⟩
  obtain ⟨s', A', e, rfl, _, y, rfl⟩ := lp
  simp only [sameListB, startA]
  have step : ∀ b, exSs (clOf T (callN T (k + 1))) ([AV.ref n, AV.ref m].map some ++ List.replicate (3 - [AV.ref n, AV.ref m].length) none) (.cons (.iff (.bop false (.cons (.not (.isi (.var 0) .list)) (.cons (.cmp .ne (.blt .len (.cons (.var 0) .nil)) (.blt .len (.cons (.var 1) .nil))) .nil))) (.cons (.ret (.cst (.bl false))) .nil) .nil) b) A' = exSs (clOf T (callN T (k + 1))) [some (.ref n), some (.ref m), none] b A' := fun b => by
    simp [isi_lst hn, e1, e2]
  rw [step]
  simp only [exs_cons, ex_forr, evs_cons, ev_var, evs_nil, List.getElem?_cons_zero, List.getElem?_cons_succ, slotR_ok, consK_ok, consK2_ok, forK_ok, ev_blt, bltK_ok, e2]
  rw [srcF_range (by omega)]
  unfold forD
  rw [e]
  simp
def sameTupleB (l : Nat) : MSs := (.cons (.iff (.not (.isi (.var 0) .tuple)) (.cons (.ret (.cst (.bl false)))
    .nil) .nil)
    (.cons (.ret (.call l (.cons (.blt .list (.cons (.var 0) .nil)) (.cons (.blt .list (.cons (.var 1) .nil)) .nil))))
    .nil))
theorem list_tup {A : AH} (vs : List AV) : bltA A .list [.tup vs] = .ok (.ref A.length) (A ++ [.lst vs]) := rfl
theorem list_lst {A : AH} {n : Nat} {vs : List AV} (h : A[n]? = some (.lst vs)) : bltA A .list [.ref n] = .ok (.ref A.length) (A ++ [.lst vs]) := by
  show (match A[n]?.bind AO.items? with | some vs => new A (.lst vs) | none => .stuck) = _
  rw [h]; rfl
def SameTupOk (T : Tb) (f : Nat) : Prop := ∀ (k : Nat) (A : AH) (m : Nat) (ws : List Int), A[m]? = some (intL ws) → ws.length < 1000 → callN T (k + 3) f [.tup (ws.map AV.int), .ref m] A = .ok (.bl true) (A ++ [intL ws, intL ws])
theorem sameTuple_ok {T : Tb} {f l : Nat} (h : Has T f 2 2 (sameTupleB l)) (hl : SameListOk T l) : SameTupOk T f := fun k A m ws hm hz => by
  rw [h.call rfl]
  have hb := (List.getElem?_eq_some_iff.mp hm).1
  have e2 : bltA (A ++ [AO.lst (ws.map AV.int)]) .list [.ref m] = .ok (.ref (A.length + 1)) (A ++ [AO.lst (ws.map AV.int)] ++ [AO.lst (ws.map AV.int)]) := by
    rw [list_lst (vs := ws.map AV.int) (by rw [List.getElem?_append_left hb]; exact hm)]
    simp
  have e3 := hl k (A ++ [AO.lst (ws.map AV.int)] ++ [AO.lst (ws.map AV.int)]) A.length (A.length + 1) ws (by simp [intL]) (by simp [intL]) hz
  simp only [List.append_assoc, List.cons_append, List.nil_append] at e2 e3
  simp [sameTupleB, startA, list_tup, e2, e3, intL]
def isBeliefB (C st lo : Nat) : MSs := (.cons (.ret (.bop true (.cons (.isc (.var 0) C) (.cons (.call st (.cons (.fld (.var 0) "weights") (.cons (.call lo (.cons (.var 1) .nil)) .nil))) .nil))))
    .nil)
theorem isc_bel {c : Cl} {A : AH} {b C : Nat} {ws : List Int} (h : A[b]? = some (bel C ws)) (ho : c.ownB C = true) : iscA c A C (.ref b) = some true := by
  have e : tyA A (.ref b) = some (.inr C) := by
    show (match A[b]? with
      | some (.ins D _) => some (Sum.inr D)
      | some (.lst _) => some (.inl "list")
      | some (.ro _) => some (.inl "list")
      | _ => none) = _
    rw [h]; rfl
  unfold iscA
  rw [e]
  simp [ho]
theorem fld_bel {c : Cl} {A : AH} {b C : Nat} {ws : List Int} (h : A[b]? = some (bel C ws)) (hf : c.fldB C "weights" = true) : fldA c A "weights" (.ref b) = some (.tup (ws.map AV.int)) := by
  have e : insAt A (.ref b) = some (C, [(("weights" : Str), AV.tup (ws.map AV.int))]) := by
    show (match A[b]? with | some (.ins C fs) => some (C, fs) | _ => none) = _
    rw [h]; rfl
  unfold fldA
  rw [e]
  simp [hf]
def IsBelOk (T : Tb) (f C : Nat) : Prop := ∀ (k : Nat) (A : AH) (b m : Nat) (ws : List Int), A[b]? = some (bel C (lowL ws)) → A[m]? = some (intL ws) → Ws ws → ws.length < 1000 → callN T (k + 4) f [.ref b, .ref m] A = .ok (.bl true) (A ++ [intL (lowL ws), intL (lowL ws), intL (lowL ws)])
theorem isBelief_ok {T : Tb} {f C st lo g : Nat} (h : Has T f 2 2 (isBeliefB C st lo)) (hs : SameTupOk T st) (hl : Has T lo 1 3 (lowestB g)) (hg : GcdOk T g) (ho : T.ownN C = true) (hf : T.fldN C "weights" = true) : IsBelOk T f C := fun k A b m ws hb hm hw hz => by
  rw [h.call rfl]
  have e1 := isc_bel (c := clOf T (callN T (k + 3))) hb ho
  have e2 := fld_bel (c := clOf T (callN T (k + 3))) hb hf
  have e3 := lowest_ok hl hg (k + 1) A m ws hm hw (by omega)
  have e4 := hs k (A ++ [AO.lst ((lowL ws).map AV.int)]) A.length (lowL ws) (by simp [intL]) (by rw [lowL_len]; exact hz)
  simp only [List.append_assoc, List.cons_append, List.nil_append] at e4
  simp [isBeliefB, startA, e1, e2, e3, e4, intL]
end MP

set_option maxRecDepth 100000
set_option autoImplicit false
set_option maxHeartbeats 1000000
/-! MQ9: texts of beliefs, words between colons. -/
namespace MP
open PySem L2
/-! ### lowest terms are lowest -/
theorem gcdL_dvd_of : ∀ (ws : List Int) (a m : Int), m ∣ a → (∀ w ∈ ws, m ∣ w) → m ∣ ws.foldl (fun (a b : Int) => (Int.gcd a b : Int)) a
  | [], a, m, h, _ => h
  | w :: ws, a, m, h, hw => gcdL_dvd_of ws _ m (Int.dvd_coe_gcd h (hw w (List.mem_cons_self ..))) fun v hv => hw v (List.mem_cons_of_mem _ hv)
theorem low_mem {ws : List Int} {w : Int} (h : Ws ws) (hw : w ∈ ws) : gcdL ws * w.fdiv (gcdL ws) = w := by
  have hp := gcdL_pos h.ne
  obtain ⟨q, hq⟩ := (gcdL_dvd ws 0).2 w hw
  have hq : w = gcdL ws * q := hq
  have e : w.fdiv (gcdL ws) = q := by
    have := Int.mul_fdiv_cancel_left q (show gcdL ws ≠ 0 by omega)
    rw [← hq] at this
    exact this
  rw [e]
  exact hq.symm
theorem gcdL_low {ws : List Int} (h : Ws ws) : gcdL (lowL ws) = 1 := by
  have hp := gcdL_pos h.ne
  have h1 : gcdL ws * gcdL (lowL ws) ∣ gcdL ws := by
    refine gcdL_dvd_of ws 0 _ (Int.dvd_zero _) fun w hw => ?_
    have hm : w.fdiv (gcdL ws) ∈ lowL ws := List.mem_map.mpr ⟨w, hw, rfl⟩
    have h2 : gcdL (lowL ws) ∣ w.fdiv (gcdL ws) := (gcdL_dvd (lowL ws) 0).2 _ hm
    have h3 := Int.mul_dvd_mul (Int.dvd_refl (gcdL ws)) h2
    rw [low_mem h hw] at h3
    exact h3
  have h4 : gcdL (lowL ws) ∣ 1 := by
    obtain ⟨q, hq⟩ := h1
    refine ⟨q, ?_⟩
    have : gcdL ws * 1 = gcdL ws * (gcdL (lowL ws) * q) := by rw [Int.mul_one, ← Int.mul_assoc]; exact hq
    exact Int.eq_of_mul_eq_mul_left (by omega) this
  have h5 := gcdL_nonneg (lowL ws)
  exact Int.eq_one_of_dvd_one h5 h4
theorem low_low {ws : List Int} (h : Ws ws) : lowL (lowL ws) = lowL ws := by
  unfold lowL
  rw [show gcdL (ws.map fun w => w.fdiv (gcdL ws)) = 1 from gcdL_low h, List.map_map]
  refine List.map_congr_left fun w hw => ?_
  show (w.fdiv (gcdL ws)).fdiv 1 = _
  simp
theorem low_good {ws : List Int} (h : Good4 ws) : Good4 (lowL ws) := by
  have hp := gcdL_pos h.ws.ne
  have key : ∀ w ∈ ws, 0 ≤ w.fdiv (gcdL ws) ∧ w.fdiv (gcdL ws) ≤ w := fun w hw => by
    have e := low_mem h.ws hw
    have h0 := h.pos w hw
    have h1 : 0 ≤ w.fdiv (gcdL ws) := by
      by_cases z : w.fdiv (gcdL ws) < 0
      · have := Int.mul_neg_of_pos_of_neg hp z
        omega
      · omega
    refine ⟨h1, ?_⟩
    have : 1 * w.fdiv (gcdL ws) ≤ gcdL ws * w.fdiv (gcdL ws) := Int.mul_le_mul_of_nonneg_right (by omega) h1
    omega
  refine ⟨fun v hv => ?_, by rw [lowL_len]; exact h.l1, by rw [lowL_len]; exact h.l4, fun z => ?_, fun v hv => ?_⟩
  · obtain ⟨w, hw, rfl⟩ := List.mem_map.mp hv
    exact (key w hw).1
  · have : ∀ (l : List Int), (∀ v ∈ l, 0 ≤ v) → l.sum = 0 → ∀ v ∈ l, v = 0 := fun l => by
      induction l with
      | nil => intro _ _ v hv; cases hv
      | cons a l ih =>
        intro h0 hs v hv
        rw [List.sum_cons] at hs
        have ha := h0 a (List.mem_cons_self ..)
        have hl : 0 ≤ l.sum := by
          have : ∀ (l : List Int), (∀ v ∈ l, 0 ≤ v) → 0 ≤ l.sum := fun l => by
            induction l with
            | nil => intro _; exact Int.le_refl _
            | cons a l ih =>
              intro h0
              rw [List.sum_cons]
              have := h0 a (List.mem_cons_self ..)
              have := ih fun v hv => h0 v (List.mem_cons_of_mem _ hv)
              omega
          exact this l fun v hv => h0 v (List.mem_cons_of_mem _ hv)
        rcases List.mem_cons.mp hv with rfl | hv
        · omega
        · exact ih (fun v hv => h0 v (List.mem_cons_of_mem _ hv)) (by omega) v hv
    obtain ⟨w, hw, h0⟩ := h.ws.ne
    have hz := this (lowL ws) (fun v hv => by obtain ⟨w, hw, rfl⟩ := List.mem_map.mp hv; exact (key w hw).1) z _ (List.mem_map.mpr ⟨w, hw, rfl⟩)
    have e := low_mem h.ws hw
    rw [hz] at e
    omega
  · obtain ⟨w, hw, rfl⟩ := List.mem_map.mp hv
    have h1 := key w hw
    have h2 := h.bd w hw
    unfold Bd at *
    omega
theorem low_le {ws : List Int} (h : Good4 ws) {N : Int} (hN : ∀ w ∈ ws, w < N) : ∀ v ∈ lowL ws, v < N := fun v hv => by
  obtain ⟨w, hw, rfl⟩ := List.mem_map.mp hv
  have hp := gcdL_pos h.ws.ne
  have e := low_mem h.ws hw
  have h0 := h.pos w hw
  have h1 := (low_good h).pos _ (List.mem_map.mpr ⟨w, hw, rfl⟩)
  have : 1 * w.fdiv (gcdL ws) ≤ gcdL ws * w.fdiv (gcdL ws) := Int.mul_le_mul_of_nonneg_right (by omega) h1
  have := hN w hw
  omega
/-! ### a belief's text -/
def btext (ws : List Int) : Str := Txt.join (Str.ofString ":") (ws.map numS)
theorem allStrs_map (ys : List Str) : allStrs (ys.map AV.str) = some ys := by
  induction ys with
  | nil => rfl
  | cons y ys ih =>
    show (allStrs (ys.map AV.str)).map (y :: ·) = _
    rw [ih]; rfl
theorem join_lst {A : AH} {n : Nat} {x : Str} {ys : List Str} (h : A[n]? = some (.lst (ys.map AV.str))) (hz : (ys.map (·.length)).sum + ys.length * x.length ≤ 16777216) : bmA A .join (.str x) [.ref n] = .ok (.str (Txt.join x ys)) A := by
  have e : (itemsOf A (.ref n)).bind allStrs = some ys := by
    show (A[n]?.bind AO.items?).bind allStrs = _
    rw [h]
    exact allStrs_map ys
  show (match (itemsOf A (.ref n)).bind allStrs with
    | some ys => if (ys.map (fun y : Str => y.length)).sum + ys.length * x.length ≤ 16777216 then R.ok (AV.str (Txt.join x ys)) A else .stuck
    | none => .stuck) = _
  rw [e]
  exact if_pos hz
def beliefStrB : MSs := (.cons (.ret (.bm .join (.cst (.str ":")) (.cons (.comp [1] (.nm 1) .seq (.cons (.fld (.var 0) "weights") .nil) .nil (.blt .str (.cons (.var 1) .nil))) .nil)))
    .nil)
theorem sum_le {ys : List Str} {k : Nat} (h : ∀ y ∈ ys, y.length ≤ k) : (ys.map (·.length)).sum ≤ ys.length * k := by
  induction ys with
  | nil => simp
  | cons y ys ih =>
    rw [List.map_cons, List.sum_cons, List.length_cons, Nat.succ_mul]
    have := h y (List.mem_cons_self ..)
    have := ih fun z hz => h z (List.mem_cons_of_mem _ hz)
    omega
def StrBOk (T : Tb) (f C : Nat) : Prop := ∀ (k : Nat) (A : AH) (b : Nat) (ws : List Int), A[b]? = some (bel C ws) → ws.length ≤ 4 → (∀ w ∈ ws, Bd 1800 w) → callN T (k + 1) f [.ref b] A = .ok (.str (btext ws)) (A ++ [.lst ((ws.map numS).map AV.str)])
theorem beliefStr_ok {T : Tb} {f C : Nat} (h : Has T f 1 2 beliefStrB) (hf : T.fldN C "weights" = true) : StrBOk T f C := fun k A b ws hb hl hw => by
  rw [h.call rfl]
  have e1 := fld_bel (c := clOf T (callN T k)) hb hf
  have hs : (1000 : Nat) ≤ sizeLine := by decide +kernel
  have cm := compS_tup (c := clOf T (callN T k)) (s := [some (.ref b), none]) (own := [1]) (i := 1) (A := A) (vs := ws.map AV.int) (elt := .blt .str (.cons (.var 1) .nil)) (fun v => match v with | .int w => .str (numS w) | v => v) (by rw [List.length_map]; omega)
    (fun v hv acc => by
      obtain ⟨w, hw', rfl⟩ := List.mem_map.mp hv
      have : w.natAbs.log2 < 1920 := by have := (hw w hw').log (by omega); omega
      simp [wipeA, this])
  have em : (ws.map AV.int).map (fun v => match v with | .int w => .str (numS w) | v => v) = (ws.map numS).map AV.str := by simp
  rw [em] at cm
  have ej : bmA (A ++ [.lst ((ws.map numS).map AV.str)]) .join (.str (Str.ofString ":")) [.ref A.length] = .ok (.str (btext ws)) (A ++ [.lst ((ws.map numS).map AV.str)]) := by
    refine join_lst (by simp) ?_
    have h1 := sum_le (ys := ws.map numS) (k := 1801) fun y hy => by
      obtain ⟨w, hw', rfl⟩ := List.mem_map.mp hy
      exact (num_ok (by omega) (hw w hw')).len
    have h2 : (Str.ofString ":").length = 1 := by decide +kernel
    rw [h2]
    rw [List.length_map] at h1 ⊢
    omega
  simp [beliefStrB, startA, e1, cm, ej, -List.map_map]
/-! ### words between colons -/
theorem tl_col : TL.tl (Str.ofString ":") = [58] := by decide +kernel
def words (x : Str) : List Str := Txt.split x (Str.ofString ":")
theorem words_tl (x : Str) : (words x).map TL.tl = TL.spl [58] 0 [] (TL.tl x) := by
  have h := TL.split_spl x (Str.ofString ":") (by rw [tl_col]; simp) (TL.kind_ok (by decide +kernel))
  rw [tl_col] at h
  exact h
theorem spl_sub : ∀ (l : List Nat) (k : Nat) (acc p : List Nat), p ∈ TL.spl [58] k acc l → (∀ c ∈ p, c ∈ acc ∨ c ∈ l) ∧ p.length ≤ acc.length + l.length
  | [], k, acc, p, h => by
    rw [TL.spl_nil, List.mem_singleton] at h
    subst h
    exact ⟨fun c hc => .inl hc, by simp⟩
  | c :: r, k + 1, acc, p, h => by
    obtain ⟨h1, h2⟩ := spl_sub r k acc p h
    exact ⟨fun d hd => (h1 d hd).imp id (List.mem_cons_of_mem _), by rw [List.length_cons]; omega⟩
  | c :: r, 0, acc, p, h => by
    by_cases hp : TL.pre [58] (c :: r) = true
    · rw [TL.spl_hit hp] at h
      rcases List.mem_cons.mp h with rfl | h
      · exact ⟨fun d hd => .inl hd, by simp⟩
      · obtain ⟨h1, h2⟩ := spl_sub r _ [] p h
        exact ⟨fun d hd => (h1 d hd).elim (fun z => by cases z) fun z => .inr (List.mem_cons_of_mem _ z), by simp at h2 ⊢; omega⟩
    · rw [TL.spl_miss (by simpa using hp)] at h
      obtain ⟨h1, h2⟩ := spl_sub r 0 (acc ++ [c]) p h
      refine ⟨fun d hd => ?_, by simp at h2 ⊢; omega⟩
      rcases h1 d hd with z | z
      · rcases List.mem_append.mp z with z | z
        · exact .inl z
        · exact .inr (by rw [List.mem_singleton.mp z]; exact List.mem_cons_self ..)
      · exact .inr (List.mem_cons_of_mem _ z)
theorem words_ok {n : Nat} {x : Str} (h : TxOk n x) : ∀ w ∈ words x, TxOk n w := fun w hw => by
  have hm : TL.tl w ∈ TL.spl [58] 0 [] (TL.tl x) := by rw [← words_tl]; exact List.mem_map.mpr ⟨w, hw, rfl⟩
  obtain ⟨h1, h2⟩ := spl_sub _ _ _ _ hm
  refine h.sub (fun c hc => (h1 c hc).elim (fun z => by cases z) id) ?_
  rw [TL.len_tl, TL.len_tl x]
  simpa using h2
theorem spl_ne : ∀ (l : List Nat) (k : Nat) (acc : List Nat), TL.spl [58] k acc l ≠ []
  | [], k, acc, h => by rw [TL.spl_nil] at h; cases h
  | c :: r, k + 1, acc, h => spl_ne r k acc h
  | c :: r, 0, acc, h => by
    by_cases hp : TL.pre [58] (c :: r) = true
    · rw [TL.spl_hit hp] at h; cases h
    · rw [TL.spl_miss (by simpa using hp)] at h
      exact spl_ne r 0 _ h
theorem spl_len : ∀ (l : List Nat) (k : Nat) (acc : List Nat), (TL.spl [58] k acc l).length ≤ l.length + 1
  | [], k, acc => by rw [TL.spl_nil]; simp
  | c :: r, k + 1, acc => by
    have := spl_len r k acc
    show (TL.spl [58] k acc r).length ≤ _
    rw [List.length_cons]; omega
  | c :: r, 0, acc => by
    by_cases hp : TL.pre [58] (c :: r) = true
    · rw [TL.spl_hit hp]
      have := spl_len r (([58] : List Nat).length - 1) []
      show (TL.spl [58] (([58] : List Nat).length - 1) [] r).length + 1 ≤ r.length + 1 + 1
      omega
    · rw [TL.spl_miss (by simpa using hp), List.length_cons]
      have := spl_len r 0 (acc ++ [c])
      omega
theorem words_ne (x : Str) : words x ≠ [] := fun h => by
  have := words_tl x
  rw [h] at this
  exact spl_ne _ _ _ this.symm
theorem words_len {x : Str} : (words x).length ≤ x.length + 1 := by
  have h := spl_len (TL.tl x) 0 []
  rw [← words_tl, List.length_map, ← TL.len_tl] at h
  exact h
theorem split_ok {A : AH} {x : Str} (h : x.length ≤ 4000) : bmA A .split (.str x) [.str (Str.ofString ":")] = .ok (.ref A.length) (A ++ [.lst ((words x).map AV.str)]) := by
  have hz : (5000 : Nat) ≤ sizeLine := by decide +kernel
  have h1 : ((Str.ofString ":").length == 0) = false := by decide +kernel
  show (if _ ∧ _ then _ else _) = _
  rw [if_pos ⟨h1, by omega⟩]
  rfl
/-! ### a belief's text, read back -/
theorem numL_head : ∀ n : Nat, n ≠ 0 → (TL.numL n).head? ≠ some 48 := fun n => by
  induction n using Nat.strongRecOn with
  | _ n ih =>
    intro h0
    by_cases h : n < 10
    · rw [TL.numL_lt h]
      simp
      omega
    · rw [TL.numL_step (by omega)]
      have hi := ih (n / 10) (by omega) (by omega)
      cases e : TL.numL (n / 10) with
      | nil => exact absurd e (TL.numL_ne _)
      | cons c r => rw [e] at hi; simpa using hi
theorem numS_tl (n : Nat) : TL.tl (numS (n : Int)) = TL.numL n := TL.tl_num n
theorem readN_num {w : Int} (h0 : 0 ≤ w) (h1 : w < 10 ^ 60) : readN (numS w) = some w := by
  obtain ⟨n, rfl⟩ := Int.eq_ofNat_of_zero_le h0
  have hn : n < 10 ^ 60 := by omega
  have hl : (TL.numL n).length ≤ 60 := TL.numL_len (by omega) hn
  have hd := TL.numL_digits n
  have hh : (TL.tl (numS (n : Int))).head? ≠ some 45 := by
    rw [numS_tl]
    intro z
    have : 45 ∈ TL.numL n := List.mem_of_mem_head? z
    have := hd 45 this
    omega
  have hf : figs (numS (n : Int)) = numS (n : Int) := by unfold figs; rw [if_neg hh]
  unfold readN numO
  rw [hf, numS_tl, if_neg, if_pos, if_neg]
  · exact TL.int_num (by omega)
  · rintro ⟨z1, z2⟩
    by_cases hz : n = 0
    · subst hz
      exact z2 (by decide +kernel)
    · exact numL_head n hz z1
  · refine List.all_eq_true.mpr fun c hc => ?_
    have := hd c hc
    simp [dig, this]
  · rintro (z | z)
    · exact TL.numL_ne n z
    · rw [TL.len_tl, numS_tl] at z
      omega
theorem words_btext {ws : List Int} (hne : ws ≠ []) (h : ∀ w ∈ ws, 0 ≤ w) : words (btext ws) = ws.map numS := by
  unfold words btext
  refine TL.split_join (s := 58) (S := []) tl_col (by decide +kernel) (by simpa using hne) fun p hp => ?_
  obtain ⟨w, hw, rfl⟩ := List.mem_map.mp hp
  obtain ⟨n, rfl⟩ := Int.eq_ofNat_of_zero_le (h w hw)
  rw [numS_tl]
  exact TL.numL_free (.inr (by omega))
end MP

set_option maxRecDepth 100000
set_option maxHeartbeats 0
namespace Lk16
open PySem PySem.Spec PyProof.Rows L2 MP
def top (i : Nat) : Stmt := PySem.Challenge.pw_surmise_k16_beliefs_read.main.body.getD i (.Pass ⟨0, 0, 0, 0⟩)
def sub (i j : Nat) : Stmt := match top i with
  | .ClassDef _ _ _ b _ _ _ _ _ _ _ => b.getD j (.Pass ⟨0, 0, 0, 0⟩)
  | _ => .Pass ⟨0, 0, 0, 0⟩
def b0 : MSs := (.cons (.ret (.bop true (.cons (.isi (.var 0) .int) (.cons (.not (.isi (.var 0) .bool)) .nil))))
    .nil)
def f0 : FnT := { name := "is_whole", at_ := ("is_whole", none), qual := "is_whole", params := defArgs (top 8), ps := ["thing"], N := ["thing"], sc := defScope (top 8), body := b0, src := defBody (top 8) }
def b1 : MSs := (.cons (.par [0, 1] (.cons (.blt .abs (.cons (.var 0) .nil)) (.cons (.blt .abs (.cons (.var 1) .nil)) .nil)))
    (.cons (.whl (.cmp .gt (.var 1) (.cst (.int 0))) (.cons (.par [0, 1] (.cons (.var 1) (.cons (.bin .mod (.var 0) (.var 1)) .nil)))
    .nil))
    (.cons (.ret (.var 0))
    .nil)))
def f1 : FnT := { name := "common", at_ := ("common", none), qual := "common", params := defArgs (top 9), ps := ["one", "other"], N := ["one", "other"], sc := defScope (top 9), body := b1, src := defBody (top 9) }
def b2 : MSs := (.cons (.asg (.nm 1) (.cst (.int 0)))
    (.cons (.forr (.nm 2) .seq (.cons (.var 0) .nil) (.cons (.asg (.nm 1) (.call 1 (.cons (.var 1) (.cons (.var 2) .nil))))
    .nil))
    (.cons (.ret (.var 1))
    .nil)))
def f2 : FnT := { name := "common_of", at_ := ("common_of", none), qual := "common_of", params := defArgs (top 10), ps := ["numbers"], N := ["numbers", "told", "number"], sc := defScope (top 10), body := b2, src := defBody (top 10) }
def b3 : MSs := (.cons (.asg (.nm 1) (.ife (.bm .startswith (.var 0) (.cons (.cst (.str "-")) .nil)) (.slc (.var 0) (.cons (.cst (.int 1)) .nil) .nil) (.var 0)))
    (.cons (.iff (.bop false (.cons (.cmp .eq (.var 1) (.cst (.str ""))) (.cons (.cmp .gt (.blt .len (.cons (.var 1) .nil)) (.gl 1)) .nil))) (.cons (.ret (.cst .non))
    .nil) .nil)
    (.cons (.forr (.nm 2) .seq (.cons (.var 1) .nil) (.cons (.iff (.cmp .notin (.var 2) (.cst (.str "0123456789"))) (.cons (.ret (.cst .non))
    .nil) .nil)
    .nil))
    (.cons (.iff (.bop true (.cons (.cmp .eq (.idx (.var 1) (.cst (.int 0))) (.cst (.str "0"))) (.cons (.cmp .ne (.var 0) (.cst (.str "0"))) .nil))) (.cons (.ret (.cst .non))
    .nil) .nil)
    (.cons (.ret (.blt .int (.cons (.var 0) .nil)))
    .nil)))))
def f3 : FnT := { name := "read_whole", at_ := ("read_whole", none), qual := "read_whole", params := defArgs (top 11), ps := ["word"], N := ["word", "figures", "sign"], sc := defScope (top 11), body := b3, src := defBody (top 11) }
def b4 : MSs := (.cons (.forr (.tp [(.nm 1), (.nm 2)]) .enum (.cons (.var 0) .nil) (.cons (.iff (.bop false (.cons (.not (.call 0 (.cons (.var 2) .nil))) (.cons (.cmp .lt (.var 2) (.cst (.int 0))) .nil))) (.cons (.ret (.var 1))
    .nil) .nil)
    .nil))
    (.cons (.iff (.bop false (.cons (.cmp .eq (.blt .len (.cons (.var 0) .nil)) (.cst (.int 0))) (.cons (.cmp .gt (.blt .len (.cons (.var 0) .nil)) (.gl 0)) (.cons (.cmp .eq (.blt .sum (.cons (.var 0) .nil)) (.cst (.int 0))) .nil)))) (.cons (.ret (.blt .len (.cons (.var 0) .nil)))
    .nil) .nil)
    (.cons (.ret (.cst .non))
    .nil)))
def f4 : FnT := { name := "first_fault", at_ := ("first_fault", none), qual := "first_fault", params := defArgs (top 14), ps := ["weights"], N := ["weights", "at", "weight"], sc := defScope (top 14), body := b4, src := defBody (top 14) }
def b5 : MSs := (.cons (.asg (.nm 2) (.call 4 (.cons (.var 1) .nil)))
    (.cons (.iff (.cmp .isnot (.var 2) (.cst .non)) (.cons (.raise 2 (.cons (.var 2) .nil))
    .nil) .nil)
    (.cons (.asg (.nm 3) (.call 2 (.cons (.var 1) .nil)))
    (.cons (.setFld (.var 0) "weights" (.blt .tuple (.cons (.comp [4] (.nm 4) .seq (.cons (.var 1) .nil) .nil (.bin .fdiv (.var 4) (.var 3))) .nil)))
    .nil))))
def f5 : FnT := { name := "__init__", at_ := ("Belief", some "__init__"), qual := "Belief.__init__", params := defArgs (sub 15 0), ps := ["self", "weights"], N := ["self", "weights", "at", "by", "weight"], sc := defScope (sub 15 0), body := b5, src := defBody (sub 15 0) }
def b6 : MSs := (.cons (.ret (.bm .join (.cst (.str ":")) (.cons (.comp [1] (.nm 1) .seq (.cons (.fld (.var 0) "weights") .nil) .nil (.blt .str (.cons (.var 1) .nil))) .nil)))
    .nil)
def f6 : FnT := { name := "__str__", at_ := ("Belief", some "__str__"), qual := "Belief.__str__", params := defArgs (sub 15 7), ps := ["self"], N := ["self", "weight"], sc := defScope (sub 15 7), body := b6, src := defBody (sub 15 7) }
def b7s4 : MSs := .nil
def b7s3 : MSs := .cons (.ret (.mk 4 (.cons (.var 1) .nil))) b7s4
def b7s2 : MSs := .cons (.iff (.cmp .isnot (.call 4 (.cons (.var 1) .nil)) (.cst .non)) (.cons (.raise 3 .nil)
    .nil) .nil) b7s3
def b7s1 : MSs := .cons (.forr (.nm 2) .seq (.cons (.var 1) .nil) (.cons (.iff (.cmp .is (.var 2) (.cst .non)) (.cons (.raise 3 .nil)
    .nil) .nil)
    .nil)) b7s2
def b7s0 : MSs := .cons (.asg (.nm 1) (.comp [3] (.nm 3) .seq (.cons (.bm .split (.var 0) (.cons (.cst (.str ":")) .nil)) .nil) .nil (.call 3 (.cons (.var 3) .nil)))) b7s1
def b7 : MSs := b7s0
def f7 : FnT := { name := "read_belief", at_ := ("read_belief", none), qual := "read_belief", params := defArgs (top 16), ps := ["text"], N := ["text", "weights", "weight", "word"], sc := defScope (top 16), body := b7, src := defBody (top 16) }
def b8 : MSs := (.cons (.ret (.bop true (.cons (.isi (.var 0) .int) (.cons (.not (.isi (.var 0) .bool)) .nil))))
    .nil)
def f8 : FnT := { name := "_law_whole", at_ := ("_law_whole", none), qual := "_law_whole", params := defArgs (top 18), ps := ["_law_x"], N := ["_law_x"], sc := defScope (top 18), body := b8, src := defBody (top 18) }
def b9 : MSs := (.cons (.iff (.cmp .lt (.var 0) (.cst (.int 0))) (.cons (.asg (.nm 0) (.neg (.var 0)))
    .nil) .nil)
    (.cons (.iff (.cmp .lt (.var 1) (.cst (.int 0))) (.cons (.asg (.nm 1) (.neg (.var 1)))
    .nil) .nil)
    (.cons (.whl (.cmp .gt (.var 1) (.cst (.int 0))) (.cons (.par [0, 1] (.cons (.var 1) (.cons (.bin .mod (.var 0) (.var 1)) .nil)))
    .nil))
    (.cons (.ret (.var 0))
    .nil))))
def f9 : FnT := { name := "_law_gcd", at_ := ("_law_gcd", none), qual := "_law_gcd", params := defArgs (top 19), ps := ["_law_a", "_law_b"], N := ["_law_a", "_law_b"], sc := defScope (top 19), body := b9, src := defBody (top 19) }
def b10 : MSs := (.cons (.iff (.bop false (.cons (.not (.isi (.var 0) .list)) (.cons (.cmp .ne (.blt .len (.cons (.var 0) .nil)) (.blt .len (.cons (.var 1) .nil))) .nil))) (.cons (.ret (.cst (.bl false)))
    .nil) .nil)
    (.cons (.forr (.nm 2) .range1 (.cons (.blt .len (.cons (.var 1) .nil)) .nil) (.cons (.iff (.bop false (.cons (.not (.call 8 (.cons (.idx (.var 0) (.var 2)) .nil))) (.cons (.cmp .ne (.idx (.var 0) (.var 2)) (.idx (.var 1) (.var 2))) .nil))) (.cons (.ret (.cst (.bl false)))
    .nil) .nil)
    .nil))
    (.cons (.ret (.cst (.bl true)))
    .nil)))
def f10 : FnT := { name := "_law_same_list", at_ := ("_law_same_list", none), qual := "_law_same_list", params := defArgs (top 20), ps := ["_law_x", "_law_due_here"], N := ["_law_x", "_law_due_here", "_law_k"], sc := defScope (top 20), body := b10, src := defBody (top 20) }
def b11 : MSs := (.cons (.iff (.not (.isi (.var 0) .tuple)) (.cons (.ret (.cst (.bl false)))
    .nil) .nil)
    (.cons (.ret (.call 10 (.cons (.blt .list (.cons (.var 0) .nil)) (.cons (.blt .list (.cons (.var 1) .nil)) .nil))))
    .nil))
def f11 : FnT := { name := "_law_same_tuple", at_ := ("_law_same_tuple", none), qual := "_law_same_tuple", params := defArgs (top 21), ps := ["_law_x", "_law_due_here"], N := ["_law_x", "_law_due_here"], sc := defScope (top 21), body := b11, src := defBody (top 21) }
def b12 : MSs := (.cons (.ret (.lst (.cons (.var 0) (.cons (.cst (.int 0)) (.cons (.cst (.int 0)) (.cons (.cst (.int 7)) .nil))))))
    .nil)
def f12 : FnT := { name := "_law_start", at_ := ("_law_start", none), qual := "_law_start", params := defArgs (top 22), ps := ["_law_script"], N := ["_law_script"], sc := defScope (top 22), body := b12, src := defBody (top 22) }
def b13 : MSs := (.cons (.iff (.cmp .gt (.idx (.var 0) (.cst (.int 2))) (.cst (.int 0))) (.cons (.asg (.nm 2) (.bin .mod (.idx (.var 0) (.cst (.int 2))) (.var 1)))
    (.cons (.setSub (.var 0) (.cst (.int 2)) (.bin .fdiv (.idx (.var 0) (.cst (.int 2))) (.var 1)))
    (.cons (.ret (.var 2))
    .nil))) .nil)
    (.cons (.asg (.nm 3) (.cst (.int 0)))
    (.cons (.iff (.cmp .gt (.blt .len (.cons (.idx (.var 0) (.cst (.int 0))) .nil)) (.cst (.int 0))) (.cons (.asg (.nm 3) (.idx (.idx (.var 0) (.cst (.int 0))) (.bin .mod (.idx (.var 0) (.cst (.int 1))) (.blt .len (.cons (.idx (.var 0) (.cst (.int 0))) .nil)))))
    .nil) .nil)
    (.cons (.setSub (.var 0) (.cst (.int 1)) (.bin .add (.idx (.var 0) (.cst (.int 1))) (.cst (.int 1))))
    (.cons (.iff (.cmp .le (.var 3) (.bin .sub (.cst (.int 0)) (.bin .pow (.cst (.int 10)) (.cst (.int 18))))) (.cons (.asg (.nm 3) (.bin .sub (.cst (.int 0)) (.var 3)))
    .nil) .nil)
    (.cons (.iff (.cmp .ge (.var 3) (.bin .pow (.cst (.int 10)) (.cst (.int 18)))) (.cons (.setSub (.var 0) (.cst (.int 2)) (.bin .fdiv (.var 3) (.var 1)))
    (.cons (.ret (.bin .mod (.var 3) (.var 1)))
    .nil)) .nil)
    (.cons (.setSub (.var 0) (.cst (.int 3)) (.bin .mod (.bin .add (.bin .add (.bin .mul (.idx (.var 0) (.cst (.int 3))) (.cst (.int 69621))) (.bin .mod (.var 3) (.cst (.int 2147483647)))) (.idx (.var 0) (.cst (.int 1)))) (.cst (.int 2147483647))))
    (.cons (.ret (.bin .mod (.bin .fdiv (.idx (.var 0) (.cst (.int 3))) (.cst (.int 64))) (.var 1)))
    .nil))))))))
def f13 : FnT := { name := "_law_draw", at_ := ("_law_draw", none), qual := "_law_draw", params := defArgs (top 23), ps := ["_law_d", "_law_many"], N := ["_law_d", "_law_many", "_law_told", "_law_cell"], sc := defScope (top 23), body := b13, src := defBody (top 23) }
def b14 : MSs := (.cons (.asg (.nm 1) (.cst (.int 0)))
    (.cons (.forr (.nm 2) .seq (.cons (.var 0) .nil) (.cons (.asg (.nm 1) (.call 9 (.cons (.var 1) (.cons (.var 2) .nil))))
    .nil))
    (.cons (.ret (.comp [2] (.nm 2) .seq (.cons (.var 0) .nil) .nil (.bin .fdiv (.var 2) (.var 1))))
    .nil)))
def f14 : FnT := { name := "_law_lowest", at_ := ("_law_lowest", none), qual := "_law_lowest", params := defArgs (top 24), ps := ["_law_weights"], N := ["_law_weights", "_law_by", "_law_x"], sc := defScope (top 24), body := b14, src := defBody (top 24) }
def b15 : MSs := (.cons (.ret (.bop true (.cons (.isc (.var 0) 4) (.cons (.call 11 (.cons (.fld (.var 0) "weights") (.cons (.call 14 (.cons (.var 1) .nil)) .nil))) .nil))))
    .nil)
def f15 : FnT := { name := "_law_is_belief", at_ := ("_law_is_belief", none), qual := "_law_is_belief", params := defArgs (top 25), ps := ["_law_x", "_law_weights"], N := ["_law_x", "_law_weights"], sc := defScope (top 25), body := b15, src := defBody (top 25) }
def b16 : MSs := (.cons (.iff (.bop false (.cons (.cmp .eq (.var 0) (.cst (.str ""))) (.cons (.cmp .gt (.blt .len (.cons (.var 0) .nil)) (.cst (.int 60))) (.cons (.bop true (.cons (.cmp .eq (.idx (.var 0) (.cst (.int 0))) (.cst (.str "0"))) (.cons (.cmp .ne (.var 0) (.cst (.str "0"))) .nil))) .nil)))) (.cons (.ret (.cst .non))
    .nil) .nil)
    (.cons (.forr (.nm 1) .seq (.cons (.var 0) .nil) (.cons (.iff (.cmp .notin (.var 1) (.cst (.str "0123456789"))) (.cons (.ret (.cst .non))
    .nil) .nil)
    .nil))
    (.cons (.ret (.blt .int (.cons (.var 0) .nil)))
    .nil)))
def f16 : FnT := { name := "_law_number", at_ := ("_law_number", none), qual := "_law_number", params := defArgs (top 26), ps := ["_law_word"], N := ["_law_word", "_law_sign"], sc := defScope (top 26), body := b16, src := defBody (top 26) }
def b17s4 : MSs := .nil
def b17s3 : MSs := .cons (.ret (.var 1)) b17s4
def b17s2 : MSs := .cons (.iff (.bop false (.cons (.cmp .gt (.blt .len (.cons (.var 1) .nil)) (.cst (.int 4))) (.cons (.cmp .eq (.blt .sum (.cons (.var 1) .nil)) (.cst (.int 0))) .nil))) (.cons (.ret (.cst .non))
    .nil) .nil) b17s3
def b17s1 : MSs := .cons (.forr (.nm 2) .seq (.cons (.bm .split (.var 0) (.cons (.cst (.str ":")) .nil)) .nil) (.cons (.asg (.nm 3) (.call 16 (.cons (.var 2) .nil)))
    (.cons (.iff (.cmp .is (.var 3) (.cst .non)) (.cons (.ret (.cst .non))
    .nil) .nil)
    (.cons (.expr (.bm .append (.var 1) (.cons (.var 3) .nil)))
    .nil)))) b17s2
def b17s0 : MSs := .cons (.asg (.nm 1) (.lst .nil)) b17s1
def b17 : MSs := b17s0
def f17 : FnT := { name := "_law_due", at_ := ("_law_due", none), qual := "_law_due", params := defArgs (top 27), ps := ["_law_text"], N := ["_law_text", "_law_some", "_law_word", "_law_number_here"], sc := defScope (top 27), body := b17, src := defBody (top 27) }
def b18 : MSs := (.cons (.tryAs (.cons (.ret (.call 7 (.cons (.var 0) .nil)))
    .nil) (.cons (.own 3) (some 1) (.cons (.ret (.xfld 1 "word"))
    .nil) .nil))
    .nil)
def f18 : FnT := { name := "_law_read", at_ := ("_law_read", none), qual := "_law_read", params := defArgs (top 28), ps := ["_law_text"], N := ["_law_text", "e"], sc := defScope (top 28), body := b18, src := defBody (top 28) }
def b19s10 : MSs := .nil
def b19s9 : MSs := .cons (.ret (.call 15 (.cons (.call 18 (.cons (.var 3) .nil)) (.cons (.var 6) .nil)))) b19s10
def b19s8 : MSs := .cons (.iff (.bop false (.cons (.not (.call 15 (.cons (.var 7) (.cons (.var 6) .nil)))) (.cons (.not (.call 15 (.cons (.call 18 (.cons (.ostr (.var 7)) .nil)) (.cons (.var 6) .nil)))) .nil))) (.cons (.ret (.cst (.bl false)))
    .nil) .nil) b19s9
def b19s7 : MSs := .cons (.iff (.cmp .is (.var 6) (.cst .non)) (.cons (.ret (.cmp .eq (.var 7) (.cst (.str "BadText"))))
    .nil) .nil) b19s8
def b19s6 : MSs := .cons (.asg (.nm 7) (.call 18 (.cons (.var 3) .nil))) b19s7
def b19s5 : MSs := .cons (.asg (.nm 6) (.call 17 (.cons (.var 3) .nil))) b19s6
def b19s4 : MSs := .cons (.iff (.cmp .eq (.call 13 (.cons (.var 1) (.cons (.cst (.int 2)) .nil))) (.cst (.int 0))) (.cons (.asg (.nm 4) (.call 13 (.cons (.var 1) (.cons (.bin .add (.blt .len (.cons (.var 3) .nil)) (.cst (.int 1))) .nil))))
    (.cons (.asg (.nm 5) (.idx (.lst (.cons (.cst (.str "0")) (.cons (.cst (.str "1")) (.cons (.cst (.str ":")) (.cons (.cst (.str "-")) (.cons (.cst (.str " ")) (.cons (.cst (.str "+")) (.cons (.cst (.str "x")) (.cons (.cst (.str "_")) .nil))))))))) (.call 13 (.cons (.var 1) (.cons (.cst (.int 8)) .nil)))))
    (.cons (.asg (.nm 3) (.bin .add (.bin .add (.slc (.var 3) .nil (.cons (.var 4) .nil)) (.var 5)) (.slc (.var 3) (.cons (.bin .add (.var 4) (.call 13 (.cons (.var 1) (.cons (.cst (.int 2)) .nil)))) .nil) .nil)))
    .nil))) .nil) b19s5
def b19s3 : MSs := .cons (.iff (.cmp .eq (.call 13 (.cons (.var 1) (.cons (.cst (.int 6)) .nil))) (.cst (.int 0))) (.cons (.asg (.nm 3) (.bin .add (.bin .add (.cst (.str "1")) (.bin .mul (.cst (.str "7")) (.bin .add (.cst (.int 57)) (.call 13 (.cons (.var 1) (.cons (.cst (.int 5)) .nil)))))) (.idx (.lst (.cons (.cst (.str ":0")) (.cons (.cst (.str "")) (.cons (.bin .add (.cst (.str ":")) (.bin .mul (.cst (.str "3")) (.cst (.int 60)))) .nil)))) (.call 13 (.cons (.var 1) (.cons (.cst (.int 3)) .nil))))))
    .nil) .nil) b19s4
def b19s2 : MSs := .cons (.asg (.nm 3) (.bm .join (.cst (.str ":")) (.cons (.comp [8] (.nm 8) .range1 (.cons (.bin .add (.cst (.int 1)) (.call 13 (.cons (.var 1) (.cons (.cst (.int 5)) .nil)))) .nil) .nil (.blt .str (.cons (.call 13 (.cons (.var 1) (.cons (.var 2) .nil))) .nil))) .nil))) b19s3
def b19s1 : MSs := .cons (.asg (.nm 2) (.idx (.lst (.cons (.cst (.int 2)) (.cons (.cst (.int 3)) (.cons (.cst (.int 40)) (.cons (.bin .pow (.cst (.int 10)) (.cst (.int 20))) .nil))))) (.call 13 (.cons (.var 1) (.cons (.cst (.int 4)) .nil))))) b19s2
def b19s0 : MSs := .cons (.asg (.nm 1) (.call 12 (.cons (.var 0) .nil))) b19s1
def b19 : MSs := b19s0
def f19 : FnT := { name := "law", at_ := ("law", none), qual := "law", params := defArgs (top 29), ps := ["_law_script"], N := ["_law_script", "_law_d", "_law_wide", "_law_text", "_law_at", "_law_sign", "_law_due_here", "_law_told", "_law_k"], sc := defScope (top 29), body := b19, src := defBody (top 29) }
theorem k0 : ∀ (kV doc pm : Value) (an : Option Addr) (cdv ct : Value) (us : List Value), us.length = f0.ps.length → bindArgs (PySem.W.fnOf f0.name f0.qual f0.params f0.src f0.sc .none kV doc pm an cdv ct) ⟨us, []⟩ = pure (f0.ps.zip us) := fun _ _ _ _ _ _ us hl => match us, hl with | [_], _ => rfl
theorem bk0 : BindOk f0 := bind_plain rfl rfl k0
theorem k1 : ∀ (kV doc pm : Value) (an : Option Addr) (cdv ct : Value) (us : List Value), us.length = f1.ps.length → bindArgs (PySem.W.fnOf f1.name f1.qual f1.params f1.src f1.sc .none kV doc pm an cdv ct) ⟨us, []⟩ = pure (f1.ps.zip us) := fun _ _ _ _ _ _ us hl => match us, hl with | [_, _], _ => rfl
theorem bk1 : BindOk f1 := bind_plain rfl rfl k1
theorem k2 : ∀ (kV doc pm : Value) (an : Option Addr) (cdv ct : Value) (us : List Value), us.length = f2.ps.length → bindArgs (PySem.W.fnOf f2.name f2.qual f2.params f2.src f2.sc .none kV doc pm an cdv ct) ⟨us, []⟩ = pure (f2.ps.zip us) := fun _ _ _ _ _ _ us hl => match us, hl with | [_], _ => rfl
theorem bk2 : BindOk f2 := bind_plain rfl rfl k2
theorem k3 : ∀ (kV doc pm : Value) (an : Option Addr) (cdv ct : Value) (us : List Value), us.length = f3.ps.length → bindArgs (PySem.W.fnOf f3.name f3.qual f3.params f3.src f3.sc .none kV doc pm an cdv ct) ⟨us, []⟩ = pure (f3.ps.zip us) := fun _ _ _ _ _ _ us hl => match us, hl with | [_], _ => rfl
theorem bk3 : BindOk f3 := bind_plain rfl rfl k3
theorem k4 : ∀ (kV doc pm : Value) (an : Option Addr) (cdv ct : Value) (us : List Value), us.length = f4.ps.length → bindArgs (PySem.W.fnOf f4.name f4.qual f4.params f4.src f4.sc .none kV doc pm an cdv ct) ⟨us, []⟩ = pure (f4.ps.zip us) := fun _ _ _ _ _ _ us hl => match us, hl with | [_], _ => rfl
theorem bk4 : BindOk f4 := bind_plain rfl rfl k4
theorem k5 : ∀ (kV doc pm : Value) (an : Option Addr) (cdv ct : Value) (us : List Value), us.length = f5.ps.length → bindArgs (PySem.W.fnOf f5.name f5.qual f5.params f5.src f5.sc .none kV doc pm an cdv ct) ⟨us, []⟩ = pure (f5.ps.zip us) := fun _ _ _ _ _ _ us hl => match us, hl with | [_, _], _ => rfl
theorem bk5 : BindOk f5 := bind_plain rfl rfl k5
theorem k6 : ∀ (kV doc pm : Value) (an : Option Addr) (cdv ct : Value) (us : List Value), us.length = f6.ps.length → bindArgs (PySem.W.fnOf f6.name f6.qual f6.params f6.src f6.sc .none kV doc pm an cdv ct) ⟨us, []⟩ = pure (f6.ps.zip us) := fun _ _ _ _ _ _ us hl => match us, hl with | [_], _ => rfl
theorem bk6 : BindOk f6 := bind_plain rfl rfl k6
theorem k7 : ∀ (kV doc pm : Value) (an : Option Addr) (cdv ct : Value) (us : List Value), us.length = f7.ps.length → bindArgs (PySem.W.fnOf f7.name f7.qual f7.params f7.src f7.sc .none kV doc pm an cdv ct) ⟨us, []⟩ = pure (f7.ps.zip us) := fun _ _ _ _ _ _ us hl => match us, hl with | [_], _ => rfl
theorem bk7 : BindOk f7 := bind_plain rfl rfl k7
theorem k8 : ∀ (kV doc pm : Value) (an : Option Addr) (cdv ct : Value) (us : List Value), us.length = f8.ps.length → bindArgs (PySem.W.fnOf f8.name f8.qual f8.params f8.src f8.sc .none kV doc pm an cdv ct) ⟨us, []⟩ = pure (f8.ps.zip us) := fun _ _ _ _ _ _ us hl => match us, hl with | [_], _ => rfl
theorem bk8 : BindOk f8 := bind_plain rfl rfl k8
theorem k9 : ∀ (kV doc pm : Value) (an : Option Addr) (cdv ct : Value) (us : List Value), us.length = f9.ps.length → bindArgs (PySem.W.fnOf f9.name f9.qual f9.params f9.src f9.sc .none kV doc pm an cdv ct) ⟨us, []⟩ = pure (f9.ps.zip us) := fun _ _ _ _ _ _ us hl => match us, hl with | [_, _], _ => rfl
theorem bk9 : BindOk f9 := bind_plain rfl rfl k9
theorem k10 : ∀ (kV doc pm : Value) (an : Option Addr) (cdv ct : Value) (us : List Value), us.length = f10.ps.length → bindArgs (PySem.W.fnOf f10.name f10.qual f10.params f10.src f10.sc .none kV doc pm an cdv ct) ⟨us, []⟩ = pure (f10.ps.zip us) := fun _ _ _ _ _ _ us hl => match us, hl with | [_, _], _ => rfl
theorem bk10 : BindOk f10 := bind_plain rfl rfl k10
theorem k11 : ∀ (kV doc pm : Value) (an : Option Addr) (cdv ct : Value) (us : List Value), us.length = f11.ps.length → bindArgs (PySem.W.fnOf f11.name f11.qual f11.params f11.src f11.sc .none kV doc pm an cdv ct) ⟨us, []⟩ = pure (f11.ps.zip us) := fun _ _ _ _ _ _ us hl => match us, hl with | [_, _], _ => rfl
theorem bk11 : BindOk f11 := bind_plain rfl rfl k11
theorem k12 : ∀ (kV doc pm : Value) (an : Option Addr) (cdv ct : Value) (us : List Value), us.length = f12.ps.length → bindArgs (PySem.W.fnOf f12.name f12.qual f12.params f12.src f12.sc .none kV doc pm an cdv ct) ⟨us, []⟩ = pure (f12.ps.zip us) := fun _ _ _ _ _ _ us hl => match us, hl with | [_], _ => rfl
theorem bk12 : BindOk f12 := bind_plain rfl rfl k12
theorem k13 : ∀ (kV doc pm : Value) (an : Option Addr) (cdv ct : Value) (us : List Value), us.length = f13.ps.length → bindArgs (PySem.W.fnOf f13.name f13.qual f13.params f13.src f13.sc .none kV doc pm an cdv ct) ⟨us, []⟩ = pure (f13.ps.zip us) := fun _ _ _ _ _ _ us hl => match us, hl with | [_, _], _ => rfl
theorem bk13 : BindOk f13 := bind_plain rfl rfl k13
theorem k14 : ∀ (kV doc pm : Value) (an : Option Addr) (cdv ct : Value) (us : List Value), us.length = f14.ps.length → bindArgs (PySem.W.fnOf f14.name f14.qual f14.params f14.src f14.sc .none kV doc pm an cdv ct) ⟨us, []⟩ = pure (f14.ps.zip us) := fun _ _ _ _ _ _ us hl => match us, hl with | [_], _ => rfl
theorem bk14 : BindOk f14 := bind_plain rfl rfl k14
theorem k15 : ∀ (kV doc pm : Value) (an : Option Addr) (cdv ct : Value) (us : List Value), us.length = f15.ps.length → bindArgs (PySem.W.fnOf f15.name f15.qual f15.params f15.src f15.sc .none kV doc pm an cdv ct) ⟨us, []⟩ = pure (f15.ps.zip us) := fun _ _ _ _ _ _ us hl => match us, hl with | [_, _], _ => rfl
theorem bk15 : BindOk f15 := bind_plain rfl rfl k15
theorem k16 : ∀ (kV doc pm : Value) (an : Option Addr) (cdv ct : Value) (us : List Value), us.length = f16.ps.length → bindArgs (PySem.W.fnOf f16.name f16.qual f16.params f16.src f16.sc .none kV doc pm an cdv ct) ⟨us, []⟩ = pure (f16.ps.zip us) := fun _ _ _ _ _ _ us hl => match us, hl with | [_], _ => rfl
theorem bk16 : BindOk f16 := bind_plain rfl rfl k16
theorem k17 : ∀ (kV doc pm : Value) (an : Option Addr) (cdv ct : Value) (us : List Value), us.length = f17.ps.length → bindArgs (PySem.W.fnOf f17.name f17.qual f17.params f17.src f17.sc .none kV doc pm an cdv ct) ⟨us, []⟩ = pure (f17.ps.zip us) := fun _ _ _ _ _ _ us hl => match us, hl with | [_], _ => rfl
theorem bk17 : BindOk f17 := bind_plain rfl rfl k17
theorem k18 : ∀ (kV doc pm : Value) (an : Option Addr) (cdv ct : Value) (us : List Value), us.length = f18.ps.length → bindArgs (PySem.W.fnOf f18.name f18.qual f18.params f18.src f18.sc .none kV doc pm an cdv ct) ⟨us, []⟩ = pure (f18.ps.zip us) := fun _ _ _ _ _ _ us hl => match us, hl with | [_], _ => rfl
theorem bk18 : BindOk f18 := bind_plain rfl rfl k18
theorem k19 : ∀ (kV doc pm : Value) (an : Option Addr) (cdv ct : Value) (us : List Value), us.length = f19.ps.length → bindArgs (PySem.W.fnOf f19.name f19.qual f19.params f19.src f19.sc .none kV doc pm an cdv ct) ⟨us, []⟩ = pure (f19.ps.zip us) := fun _ _ _ _ _ _ us hl => match us, hl with | [_], _ => rfl
theorem bk19 : BindOk f19 := bind_plain rfl rfl k19
def x0 : FnT := { name := "__init__", at_ := ("Refused", some "__init__"), qual := "Refused.__init__", params := defArgs (sub 2 0), ps := ["self", "word"], N := ["self", "word"], sc := defScope (sub 2 0), body := .nil, src := defBody (sub 2 0) }
theorem kx0 : ∀ (kV doc pm : Value) (an : Option Addr) (cdv ct : Value) (us : List Value), us.length = x0.ps.length → bindArgs (PySem.W.fnOf x0.name x0.qual x0.params x0.src x0.sc .none kV doc pm an cdv ct) ⟨us, []⟩ = pure (x0.ps.zip us) := fun _ _ _ _ _ _ us hl => match us, hl with | [_, _], _ => rfl
theorem bkx0 : BindOk x0 := bind_plain rfl rfl kx0
def x1 : FnT := { name := "__init__", at_ := ("Misshapen", some "__init__"), qual := "Misshapen.__init__", params := defArgs (sub 3 0), ps := ["self", "word"], N := ["self", "word"], sc := defScope (sub 3 0), body := .nil, src := defBody (sub 3 0) }
theorem kx1 : ∀ (kV doc pm : Value) (an : Option Addr) (cdv ct : Value) (us : List Value), us.length = x1.ps.length → bindArgs (PySem.W.fnOf x1.name x1.qual x1.params x1.src x1.sc .none kV doc pm an cdv ct) ⟨us, []⟩ = pure (x1.ps.zip us) := fun _ _ _ _ _ _ us hl => match us, hl with | [_, _], _ => rfl
theorem bkx1 : BindOk x1 := bind_plain rfl rfl kx1
def x2 : FnT := { name := "__init__", at_ := ("BadBelief", some "__init__"), qual := "BadBelief.__init__", params := defArgs (sub 4 0), ps := ["self", "at"], N := ["self", "at"], sc := defScope (sub 4 0), body := .nil, src := defBody (sub 4 0) }
theorem kx2 : ∀ (kV doc pm : Value) (an : Option Addr) (cdv ct : Value) (us : List Value), us.length = x2.ps.length → bindArgs (PySem.W.fnOf x2.name x2.qual x2.params x2.src x2.sc .none kV doc pm an cdv ct) ⟨us, []⟩ = pure (x2.ps.zip us) := fun _ _ _ _ _ _ us hl => match us, hl with | [_, _], _ => rfl
theorem bkx2 : BindOk x2 := bind_plain rfl rfl kx2
def x3 : FnT := { name := "__init__", at_ := ("BadText", some "__init__"), qual := "BadText.__init__", params := defArgs (sub 5 0), ps := ["self"], N := ["self"], sc := defScope (sub 5 0), body := .nil, src := defBody (sub 5 0) }
theorem kx3 : ∀ (kV doc pm : Value) (an : Option Addr) (cdv ct : Value) (us : List Value), us.length = x3.ps.length → bindArgs (PySem.W.fnOf x3.name x3.qual x3.params x3.src x3.sc .none kV doc pm an cdv ct) ⟨us, []⟩ = pure (x3.ps.zip us) := fun _ _ _ _ _ _ us hl => match us, hl with | [_], _ => rfl
theorem bkx3 : BindOk x3 := bind_plain rfl rfl kx3
def T : Tb := { fns := [f0, f1, f2, f3, f4, f5, f6, f7, f8, f9, f10, f11, f12, f13, f14, f15, f16, f17, f18, f19], gls := [("MOST_ROOMS", (.int 4)), ("FIGURES", (.int 60))], free := ["ValueError", "abs", "bool", "enumerate", "int", "isinstance", "len", "list", "range", "str", "sum", "tuple"], cls := [.exc "Refused" none ["word"] [.par 0] [("word", .par 0)] x0,
  .exc "Misshapen" (some 0) ["word"] [.par 0] [] x1,
  .exc "BadBelief" (some 1) ["at"] [.cst (.str "BadBelief")] [("at", .par 0)] x2,
  .exc "BadText" (some 1) [] [.cst (.str "BadText")] [] x3,
  .own "Belief" 5 [("__str__", 6)] ["weights"]] }
theorem binds : ∀ d ∈ T.fns ++ T.xds, BindOk d := by
  intro d hd
  have hd : d ∈ [f0, f1, f2, f3, f4, f5, f6, f7, f8, f9, f10, f11, f12, f13, f14, f15, f16, f17, f18, f19, x0, x1, x2, x3] := hd
  simp only [List.mem_cons, List.not_mem_nil, or_false] at hd
  rcases hd with rfl | rfl | rfl | rfl | rfl | rfl | rfl | rfl | rfl | rfl | rfl | rfl | rfl | rfl | rfl | rfl | rfl | rfl | rfl | rfl | rfl | rfl | rfl | rfl
  · exact bk0
  · exact bk1
  · exact bk2
  · exact bk3
  · exact bk4
  · exact bk5
  · exact bk6
  · exact bk7
  · exact bk8
  · exact bk9
  · exact bk10
  · exact bk11
  · exact bk12
  · exact bk13
  · exact bk14
  · exact bk15
  · exact bk16
  · exact bk17
  · exact bk18
  · exact bk19
  · exact bkx0
  · exact bkx1
  · exact bkx2
  · exact bkx3
theorem o0 : fnB T f0 = true := by decide +kernel
theorem o1 : fnB T f1 = true := by decide +kernel
theorem o2 : fnB T f2 = true := by decide +kernel
theorem o3 : fnB T f3 = true := by decide +kernel
theorem o4 : fnB T f4 = true := by decide +kernel
theorem o5 : fnB T f5 = true := by decide +kernel
theorem o6 : fnB T f6 = true := by decide +kernel
theorem o7 : fnB T f7 = true := by decide +kernel
theorem o8 : fnB T f8 = true := by decide +kernel
theorem o9 : fnB T f9 = true := by decide +kernel
theorem o10 : fnB T f10 = true := by decide +kernel
theorem o11 : fnB T f11 = true := by decide +kernel
theorem o12 : fnB T f12 = true := by decide +kernel
theorem o13 : fnB T f13 = true := by decide +kernel
theorem o14 : fnB T f14 = true := by decide +kernel
theorem o15 : fnB T f15 = true := by decide +kernel
theorem o16 : fnB T f16 = true := by decide +kernel
theorem o17 : fnB T f17 = true := by decide +kernel
theorem o18 : fnB T f18 = true := by decide +kernel
theorem o19 : fnB T f19 = true := by decide +kernel
theorem own : (T.fns.all fun d => fnB T d) = true := by
  refine List.all_eq_true.mpr fun d hd => ?_
  have hd : d ∈ [f0, f1, f2, f3, f4, f5, f6, f7, f8, f9, f10, f11, f12, f13, f14, f15, f16, f17, f18, f19] := hd
  simp only [List.mem_cons, List.not_mem_nil, or_false] at hd
  rcases hd with rfl | rfl | rfl | rfl | rfl | rfl | rfl | rfl | rfl | rfl | rfl | rfl | rfl | rfl | rfl | rfl | rfl | rfl | rfl | rfl
  · exact o0
  · exact o1
  · exact o2
  · exact o3
  · exact o4
  · exact o5
  · exact o6
  · exact o7
  · exact o8
  · exact o9
  · exact o10
  · exact o11
  · exact o12
  · exact o13
  · exact o14
  · exact o15
  · exact o16
  · exact o17
  · exact o18
  · exact o19
theorem hat : atB T = true := by decide +kernel
end Lk16

set_option maxRecDepth 100000
set_option autoImplicit false
set_option maxHeartbeats 1000000
namespace Lk16
open PySem MP L2
theorem has (f : Nat) (d : FnT) (h : T.fns[f]? = some d) : Has T f d.ps.length d.N.length d.body := ⟨d, h, rfl, rfl, rfl⟩
theorem g1 : GcdOk T 1 := common_ok (has 1 f1 rfl)
theorem g9 : GcdOk T 9 := lgcd_ok (has 9 f9 rfl)
theorem gl2 : GcdLOk T 2 := commonOf_ok (has 2 f2 rfl) g1
theorem ff4 : FfOk T 4 := firstFault_ok (w := 0) (g := 0) (has 4 f4 rfl) (has 0 f0 rfl) rfl
theorem mk5 : MkOk T 5 4 := beliefMk_ok (has 5 f5 rfl) ff4 gl2 rfl
theorem st6 : StrBOk T 6 4 := beliefStr_ok (has 6 f6 rfl) rfl
theorem sl10 : SameListOk T 10 := sameList_ok (has 10 f10 rfl) (has 8 f8 rfl)
theorem st11 : SameTupOk T 11 := sameTuple_ok (has 11 f11 rfl) sl10
theorem ib15 : IsBelOk T 15 4 := isBelief_ok (has 15 f15 rfl) st11 (has 14 f14 rfl) g9 rfl rfl
theorem start_ok (k : Nat) (ns : List Int) : callN T (k + 1) 12 [.ref 0] [.ro (ns.map AV.int)] = .ok (.ref 1) (hp ns (0, 0, 7) []) := by
  rw [(has 12 f12 rfl).call rfl]
  have hs : (4 : Nat) ≤ sizeLine := by decide +kernel
  simp [f12, b12, startA, newL, hs, new, hp]
/-! ### words -/
theorem tl_min : TL.tl (Str.ofString "-") = [45] := by decide +kernel
theorem starts_min (w : Str) : Txt.startswith w (Str.ofString "-") = decide ((TL.tl w).head? = some 45) := by
  rw [Bool.eq_iff_iff, decide_eq_true_iff]
  have h1 : Txt.startswith w (Str.ofString "-") = true ↔ StrLaws.At w (Str.ofString "-") w.length 0 := by
    unfold Txt.startswith StrLaws.At
    simp
  rw [h1, TL.at_iff (by rw [tl_min]; simp), tl_min]
  unfold TL.pre
  cases TL.tl w with
  | nil => simp
  | cons c r => simp
theorem szw {n : Nat} {w : Str} (hw : TxOk n w) (hn : n ≤ 4000) : w.length ≤ sizeLine := by
  have hz : (4000 : Nat) ≤ sizeLine := by decide +kernel
  have := hw.len
  omega
theorem read_ok (k : Nat) (A : AH) {w : Str} (hw : TxOk 4000 w) : callN T (k + 1) 3 [.str w] A = .ok (numV (readN w)) A := by
  rw [(has 3 f3 rfl).call rfl]
  have hl := szw hw (Nat.le_refl _)
  have t := tail_ok (clOf T (callN T k)) A (m := .gl 1) (fun s => by simp [T]) hw
  rw [← t]
  unfold figs
  by_cases h : (TL.tl w).head? = some 45
  · simp only [h, if_true]
    simp only [f3, b3, startA]
    simp [starts_min, h, hl]
  · simp only [h, if_false]
    simp only [f3, b3, startA]
    simp [starts_min, h, hl]
/-- the law's own reading of a word -/
def numP (w : Str) : Option Int := match readN w with
  | some n => if 0 ≤ n then some n else none
  | none => none
theorem numP_min {w : Str} (h : (TL.tl w).head? = some 45) : numP w = none := by
  unfold numP
  cases q : readN w with
  | none => rfl
  | some n =>
    have hn : n < 0 := by
      unfold readN numO at q
      split at q
      · cases q
      · rename_i h1
        split at q
        · rename_i h2
          split at q
          · cases q
          · rename_i h3
            rcases figs_tl w with ⟨e1, e2⟩ | ⟨e1, e2⟩
            · have ha := all_dig h2
              have hl : w.length ≤ 4300 := by
                rw [TL.len_tl, e2, List.length_cons, ← TL.len_tl]
                omega
              rw [PySem.intText_neg e2 ha (fun z => h1 (.inl z)) hl] at q
              cases q
              cases e : TL.tl (figs w) with
              | nil => exact absurd (.inl e) h1
              | cons d r =>
                have hd := ha d (by rw [e]; exact List.mem_cons_self ..)
                have h48 : d ≠ 48 := fun z => h3 ⟨by rw [e, z]; rfl, fun z2 => by rw [z2] at h; exact absurd h (by decide +kernel)⟩
                have := NumText.digitsVal_pos (c := d) (cs := r) (by omega)
                omega
            · exact absurd h e1
        · cases q
    show (if 0 ≤ n then some n else none) = none
    rw [if_neg (by omega)]
theorem dig_loop1 (c : Cl) (A : AH) (a : Option AV) : ∀ (l : List Nat) (pre : List Nat) (x : Option AV),
    (l.all dig = true ∧ ∃ y, forL (.nm 1) (fun s A => exSs c s (.cons (.iff (.cmp .notin (.var 1) (.cst (.str "0123456789"))) (.cons (.ret (.cst .non)) .nil) .nil) .nil) A) (.fx ((pre ++ l).map fun c => .str ⟨#[c]⟩)) l.length pre.length [a, x] A = .nx [a, y] A) ∨
    (l.all dig = false ∧ ∃ s, forL (.nm 1) (fun s A => exSs c s (.cons (.iff (.cmp .notin (.var 1) (.cst (.str "0123456789"))) (.cons (.ret (.cst .non)) .nil) .nil) .nil) A) (.fx ((pre ++ l).map fun c => .str ⟨#[c]⟩)) l.length pre.length [a, x] A = .rt .non s A)
  | [], pre, x => by
    left
    refine ⟨rfl, x, ?_⟩
    show forL _ _ _ 0 _ _ _ = _
    unfold forL
    simp [Src.at]
  | d :: l, pre, x => by
    have ih := dig_loop1 c A a l (pre ++ [d]) (some (.str ⟨#[d]⟩))
    rw [List.append_assoc, List.length_append] at ih
    have e1 : Src.at A pre.length (.fx ((pre ++ d :: l).map fun c => AV.str ⟨#[c]⟩)) = some (some (.str ⟨#[d]⟩)) := by
      simp [Src.at]
    by_cases hd : dig d = true
    · have eb : exSs c [a, some (.str ⟨#[d]⟩)] (.cons (.iff (.cmp .notin (.var 1) (.cst (.str "0123456789"))) (.cons (.ret (.cst .non)) .nil) .nil) .nil) A = .nx [a, some (.str ⟨#[d]⟩)] A := by
        simp [notin_dig, hd]
      have el : (d :: l).all dig = l.all dig := by rw [List.all_cons, hd]; rfl
      rw [el, List.length_cons]
      conv => lhs; rhs; rhs; intro y; lhs; unfold forL
      conv => rhs; rhs; rhs; intro y; lhs; unfold forL
      simp only [e1, bindT, List.set]
      rw [eb]
      exact ih
    · right
      have hd' : dig d = false := by simpa using hd
      have eb : exSs c [a, some (.str ⟨#[d]⟩)] (.cons (.iff (.cmp .notin (.var 1) (.cst (.str "0123456789"))) (.cons (.ret (.cst .non)) .nil) .nil) .nil) A = .rt .non [a, some (.str ⟨#[d]⟩)] A := by
        simp [notin_dig, hd']
      refine ⟨by rw [List.all_cons, hd']; rfl, [a, some (.str ⟨#[d]⟩)], ?_⟩
      show forL _ _ _ (l.length + 1) _ _ _ = _
      unfold forL
      simp only [e1, bindT, List.set]
      rw [eb]
theorem number_ok (k : Nat) (A : AH) {w : Str} (hw : TxOk 4000 w) : callN T (k + 1) 16 [.str w] A = .ok (numV (numP w)) A := by
  rw [(has 16 f16 rfl).call rfl]
  have hle := szw hw (Nat.le_refl _)
  have e0 : PyData.strOk (Str.ofString "") = true := by decide +kernel
  have e00 : PyData.strOk (Str.ofString "0") = true := by decide +kernel
  have el := TL.len_tl w
  by_cases h1 : TL.tl w = []
  · have h1' := (empty_iff _).mpr h1
    have hn : numP w = none := by
      have hf : figs w = w := by unfold figs; rw [if_neg (by rw [h1]; simp)]
      unfold numP readN numO
      rw [hf, if_pos (Or.inl h1)]
    rw [hn]
    simp [f16, b16, startA, eq_str e0 e0, h1']
  · have h1' : ¬ w = Str.ofString "" := fun z => h1 ((empty_iff _).mp z)
    have ne0 : cmpA A .eq (.str w) (.str (Str.ofString "")) = some false := by rw [eq_str hw.ok e0]; simp [h1']
    cases er : TL.tl w with
    | nil => exact absurd er h1
    | cons d r =>
      have hlt : d < 1114112 := strOk_iff.mp hw.ok d (by rw [er]; exact List.mem_cons_self ..)
      have hs : PyData.strOk (⟨#[d]⟩ : Str) = true := strOk_iff.mpr fun c hc => by
        have : c ∈ [d] := hc
        rw [List.mem_singleton] at this
        omega
      have hi : idxA A (.str w) (.int 0) = some (.str ⟨#[d]⟩) := by
        rw [idx_str hle, er]
        simp
      have e48 : (⟨#[d]⟩ : Str) = Str.ofString "0" ↔ d = 48 := by
        constructor
        · intro z
          have : TL.tl (⟨#[d]⟩ : Str) = TL.tl (Str.ofString "0") := by rw [z]
          have z2 : TL.tl (Str.ofString "0") = [48] := by decide +kernel
          rw [z2] at this
          have z3 : [d] = [48] := this
          simpa using z3
        · intro z
          subst z
          exact TL.ext_tl (by decide +kernel)
      have he2 : cmpA A .eq (.str ⟨#[d]⟩) (.str (Str.ofString "0")) = some (decide (d = 48)) := by rw [eq_str hs e00]; simp [e48]
      have hn2 : cmpA A .ne (.str w) (.str (Str.ofString "0")) = some (!decide (w = Str.ofString "0")) := ne_str hw.ok e00
      by_cases h2 : 60 < w.length
      · have h2' : (60 : Int) < w.length := by omega
        have hn : numP w = none := by
          by_cases hm : (TL.tl w).head? = some 45
          · exact numP_min hm
          · have hf : figs w = w := by unfold figs; rw [if_neg hm]
            unfold numP readN numO
            rw [hf, if_pos (Or.inr h2)]
        rw [hn]
        simp [f16, b16, startA, ne0, hle, h2']
      · have h2' : ¬ (60 : Int) < w.length := by omega
        by_cases h3 : d = 48 ∧ w ≠ Str.ofString "0"
        · obtain ⟨h3, h4⟩ := h3
          subst h3
          have hn : numP w = none := by
            have hm : ¬ (TL.tl w).head? = some 45 := by rw [er]; simp
            have hf : figs w = w := by unfold figs; rw [if_neg hm]
            unfold numP readN numO
            rw [hf, if_neg (by rintro (z | z); exact h1 z; exact h2 z)]
            by_cases hd : (TL.tl w).all dig = true
            · rw [if_pos hd, if_pos ⟨by rw [er]; rfl, h4⟩]
            · rw [if_neg hd]
          have hn3 : cmpA A .ne (.str w) (.str (Str.ofString "0")) = some true := by rw [hn2, decide_eq_false h4]; rfl
          have he3 : cmpA A .eq (.str ⟨#[48]⟩) (.str (Str.ofString "0")) = some true := by rw [he2]; rfl
          rw [hn]
          simp [f16, b16, startA, ne0, hle, h2', hi, he3, hn3]
        · have step : ∀ b, exSs (clOf T (callN T k)) [some (.str w), none] (.cons (.iff (.bop false (.cons (.cmp .eq (.var 0) (.cst (.str ""))) (.cons (.cmp .gt (.blt .len (.cons (.var 0) .nil)) (.cst (.int 60))) (.cons (.bop true (.cons (.cmp .eq (.idx (.var 0) (.cst (.int 0))) (.cst (.str "0"))) (.cons (.cmp .ne (.var 0) (.cst (.str "0"))) .nil))) .nil)))) (.cons (.ret (.cst .non)) .nil) .nil) b) A = exSs (clOf T (callN T k)) [some (.str w), none] b A := fun b => by
            by_cases q : d = 48
            · have hw0 : w = Str.ofString "0" := Classical.byContradiction fun z => h3 ⟨q, z⟩
              have hn3 : cmpA A .ne (.str w) (.str (Str.ofString "0")) = some false := by rw [hn2, decide_eq_true hw0]; rfl
              have he3 : cmpA A .eq (.str ⟨#[d]⟩) (.str (Str.ofString "0")) = some true := by rw [he2, decide_eq_true q]
              simp [ne0, hle, h2', hi, he3, hn3]
            · have he3 : cmpA A .eq (.str ⟨#[d]⟩) (.str (Str.ofString "0")) = some false := by rw [he2, decide_eq_false q]
              simp [ne0, hle, h2', hi, he3]
          show retA (exSs (clOf T (callN T k)) [some (.str w), none] b16 A) = _
          unfold b16
          rw [step, exs_cons, ex_forr]
          simp only [evs_cons, ev_var, evs_nil, List.getElem?_cons_zero, slotR_ok, consK_ok, consK2_ok, forK_ok]
          rw [srcF_str]
          unfold forD
          rcases dig_loop1 (clOf T (callN T k)) A (some (.str w)) (TL.tl w) [] none with ⟨hd, y, e⟩ | ⟨hd, s', e⟩
          · rw [List.nil_append, List.length_nil] at e
            rw [e]
            have ha := all_dig hd
            have hm : ¬ (TL.tl w).head? = some 45 := fun z => by
              have := ha 45 (List.mem_of_mem_head? z)
              omega
            have hf : figs w = w := by unfold figs; rw [if_neg hm]
            have ei := PySem.intText_digits ha h1 (by omega)
            have hn : numP w = some ((NumText.digitsVal (TL.tl w) : Nat) : Int) := by
              unfold numP readN numO
              rw [hf, if_neg (by rintro (z | z); exact h1 z; exact h2 z), if_pos hd, if_neg (fun z => h3 ⟨by have := z.1; rw [er] at this; simpa using this, z.2⟩), ei]
              show (if 0 ≤ ((NumText.digitsVal (TL.tl w) : Nat) : Int) then _ else _) = _
              rw [if_pos (Int.natCast_nonneg _)]
            rw [hn]
            have hb := blt_intS (A := A) (by omega) ei
            simp [hb]
          · rw [List.nil_append, List.length_nil] at e
            rw [e]
            have hn : numP w = none := by
              by_cases hm : (TL.tl w).head? = some 45
              · exact numP_min hm
              · have hf : figs w = w := by unfold figs; rw [if_neg hm]
                unfold numP readN numO
                rw [hf, if_neg (by rintro (z | z); exact h1 z; exact h2 z), if_neg (by rw [hd]; simp)]
            rw [hn]
            simp
/-! ### what a text tells -/
theorem mapO_some {α β : Type} (f : α → Option β) (g : α → β) : ∀ (l : List α), (∀ x ∈ l, f x = some (g x)) → mapO f l = some (l.map g) := fun l h => by
  have := mapO_map f id g l (fun x hx => h x hx)
  simpa using this
theorem mapO_none {α β : Type} (f : α → Option β) : ∀ (l : List α), (∃ x ∈ l, f x = none) → mapO f l = none
  | [], h => by obtain ⟨x, hx, _⟩ := h; cases hx
  | y :: l, h => by
    rw [mapO_cons]
    by_cases hy : f y = none
    · rw [hy]
    · obtain ⟨x, hx, e⟩ := h
      rcases List.mem_cons.mp hx with rfl | hx
      · exact absurd e hy
      · rw [mapO_none f l ⟨x, hx, e⟩]
        cases f y <;> rfl
def specB (x : Str) : Option (List Int) := match mapO numP (words x) with
  | some ws => if ws.length ≤ 4 ∧ ws.sum ≠ 0 then some ws else none
  | none => none
theorem numP_bd {w : Str} {n : Int} (h : numP w = some n) : 0 ≤ n ∧ n < 10 ^ 60 := by
  unfold numP at h
  cases q : readN w with
  | none => rw [q] at h; cases h
  | some m =>
    rw [q] at h
    have h : (if 0 ≤ m then some m else none) = some n := h
    split at h
    · cases h
      have := numO_bd q
      exact ⟨by assumption, by omega⟩
    · cases h
/-- either some word tells none, or all tell a number -/
theorem words_case (f : Str → Option Int) (l : List Str) : (∃ w ∈ l, f w = none) ∨ ∃ g : Str → Int, ∀ w ∈ l, f w = some (g w) := by
  by_cases h : ∃ w ∈ l, f w = none
  · exact .inl h
  · refine .inr ⟨fun w => (f w).getD 0, fun w hw => ?_⟩
    cases q : f w with
    | none => exact absurd ⟨w, hw, q⟩ h
    | some n =>
      show some n = some ((f w).getD 0)
      rw [q]; rfl
theorem bd60 {n : Int} (h0 : 0 ≤ n) (h : n < 10 ^ 60) : Bd 1800 n := by
  unfold Bd
  have : (10 : Nat) ^ 60 ≤ 2 ^ 1800 := Nat.le_trans (show (10 : Nat) ^ 60 ≤ 2 ^ 200 by decide +kernel) (Nat.pow_le_pow_right (by omega) (by omega))
  omega
theorem spec_good {x : Str} {ws : List Int} (h : specB x = some ws) : Good4 ws ∧ ∀ w ∈ ws, w < 10 ^ 60 := by
  unfold specB at h
  rcases words_case numP (words x) with hn | ⟨g, hg⟩
  · rw [mapO_none _ _ hn] at h; cases h
  · rw [mapO_some numP g _ hg] at h
    have h : (if ((words x).map g).length ≤ 4 ∧ ((words x).map g).sum ≠ 0 then some ((words x).map g) else none) = some ws := h
    split at h
    · rename_i hc
      cases h
      have hb : ∀ v ∈ (words x).map g, 0 ≤ v ∧ v < 10 ^ 60 := fun v hv => by
        obtain ⟨w, hw, rfl⟩ := List.mem_map.mp hv
        exact numP_bd (hg w hw)
      refine ⟨⟨fun v hv => (hb v hv).1, ?_, hc.1, hc.2, fun v hv => bd60 (hb v hv).1 (hb v hv).2⟩, fun v hv => (hb v hv).2⟩
      rw [List.length_map]
      exact List.length_pos_iff.mpr (words_ne x)
    · cases h
/-- a belief's text tells it -/
theorem spec_btext {us : List Int} (h : Good4 us) (hN : ∀ w ∈ us, w < 10 ^ 60) : specB (btext us) = some us := by
  have hne : us ≠ [] := by
    intro z
    have := h.l1
    rw [z] at this
    simp at this
  unfold specB
  rw [words_btext hne h.pos]
  have e : mapO numP (us.map numS) = some (us.map id) := mapO_map numP numS id us fun w hw => by
    unfold numP
    rw [readN_num (h.pos w hw) (hN w hw)]
    show (if 0 ≤ w then some w else none) = some w
    rw [if_pos (h.pos w hw)]
  rw [e, List.map_id]
  show (if us.length ≤ 4 ∧ us.sum ≠ 0 then some us else none) = _
  rw [if_pos ⟨h.l4, h.sum⟩]
/-! ### read_belief -/
def ex3 : List (Str × AV) := [("word", .str "BadText")]
theorem xf3 : xfN T.cls 8 3 [] = some ex3 := rfl
def vals (x : Str) : List AV := (words x).map fun w => numV (readN w)
abbrev nLoop : MSs := (.cons (.iff (.cmp .is (.var 2) (.cst .non)) (.cons (.raise 3 .nil)
    .nil) .nil)
    .nil)
theorem none_loop (k : Nat) (A : AH) (h : Nat) (vs : List AV) (hh : A[h]? = some (.lst vs)) (s0 s1 x y : Option AV) :
    ((∀ v ∈ vs, v.isNon = false) ∧ ∃ z, forD (clOf T (callN T k)) (.nm 2) nLoop (.dy h) vs.length [s0, s1, x, y] A = .nx [s0, s1, z, y] A) ∨
    ((∃ v ∈ vs, v.isNon = true) ∧ ∃ s, forD (clOf T (callN T k)) (.nm 2) nLoop (.dy h) vs.length [s0, s1, x, y] A = .exc 3 ex3 s A) := by
  rcases forL_rule (t := .nm 2) (body := fun s A => exSs (clOf T (callN T k)) s nLoop A) (sr := .dy h)
    (fun i s A' => A' = A ∧ i ≤ vs.length ∧ (∀ j (hj : j < vs.length), j < i → vs[j].isNon = false) ∧ ∃ z, s = [s0, s1, z, y])
    (fun r => (∃ v ∈ vs, v.isNon = true) ∧ ∃ s, r = .exc 3 ex3 s A) vs.length
    (fun i hi s A' hP => by
      obtain ⟨rfl, _, hok, z, rfl⟩ := hP
      refine ⟨vs[i], [s0, s1, some vs[i], y], by rw [at_dy0 hh, List.getElem?_eq_getElem hi], rfl, ?_⟩
      cases hv : vs[i].isNon with
      | false =>
        left
        refine ⟨[s0, s1, some vs[i], y], A', .inl ?_, rfl, hi, fun j hj hji => ?_, _, rfl⟩
        · simp [hv]
        · by_cases q : j = i
          · subst q; exact hv
          · exact hok j hj (by omega)
      | true =>
        right; right; right
        exact ⟨3, ex3, [s0, s1, some vs[i], y], A', by simp [hv, xf3], ⟨vs[i], List.getElem_mem hi, hv⟩, _, rfl⟩)
    (fun s A' hP => by
      obtain ⟨rfl, _⟩ := hP
      rw [at_dy0 hh, List.getElem?_eq_none (Nat.le_refl _)]) vs.length 0 (by omega) [s0, s1, x, y] A ⟨rfl, Nat.zero_le _, fun j _ hj => by omega, x, rfl⟩ with ⟨s', A', e, rfl, _, hok, z, rfl⟩ | ⟨hz, s', e⟩
  · refine .inl ⟨fun v hv => ?_, z, e⟩
    obtain ⟨j, hj, rfl⟩ := List.mem_iff_getElem.mp hv
    exact hok j hj hj
  · exact .inr ⟨hz, s', e⟩
def rdB (x : Str) (A : AH) (r : R AV) : Prop := match specB x with
  | some ws => r = .ok (.ref (A.length + 2)) (A ++ [.lst ((words x).map AV.str), intL ws, bel 4 (lowL ws), intL (lowL ws)])
  | none => ∃ G, r = .exc 3 ex3 (A ++ G)
theorem rb_ok (k : Nat) (A : AH) {x : Str} (hx : TxOk 4000 x) : rdB x A (callN T (k + 4) 7 [.str x] A) := by
  rw [(has 7 f7 rfl).call rfl]
  have e1 := split_ok (A := A) hx.len
  have hz : (5000 : Nat) ≤ sizeLine := by decide +kernel
  have hwl := words_len (x := x)
  have cm := compS_dy (c := clOf T (callN T (k + 3))) (s := [some (.str x), none, none, none]) (own := [3]) (i := 3) (A := A ++ [.lst ((words x).map AV.str)]) (h := A.length) (vs := (words x).map AV.str) (elt := .call 3 (.cons (.var 3) .nil)) (fun v => match v with | .str w => numV (readN w) | v => v) (by simp) (by rw [List.length_map]; have := hx.len; omega)
    (fun v hv acc => by
      obtain ⟨w, hw, rfl⟩ := List.mem_map.mp hv
      have e := read_ok (k + 2) (A ++ [.lst ((words x).map AV.str)] ++ [.lst acc]) (words_ok hx w hw)
      have e' : callN T (k + 3) 3 [.str w] (A ++ [.lst ((words x).map AV.str)] ++ [.lst acc]) = .ok (numV (readN w)) (A ++ [.lst ((words x).map AV.str)] ++ [.lst acc]) := e
      simp only [wipeA, List.set_cons_succ, List.set_cons_zero, ev_call, evs_cons, ev_var, evs_nil, List.getElem?_cons_succ, List.getElem?_cons_zero, slotR_ok, consK_ok, consK2_ok, callK_ok, clOf_call]
      rw [e'])
  have em : ((words x).map AV.str).map (fun v => match v with | .str w => numV (readN w) | v => v) = vals x := by simp [vals]
  rw [em] at cm
  have hh : (A ++ [AO.lst ((words x).map AV.str)] ++ [AO.lst (vals x)])[A.length + 1]? = some (.lst (vals x)) := by simp
  have hlen : (A ++ [AO.lst ((words x).map AV.str)]).length = A.length + 1 := by simp
  rw [hlen] at cm
  have head : exSs (clOf T (callN T (k + 3))) [some (.str x), none, none, none] b7 A = seqF (clOf T (callN T (k + 3))) b7s2 (forD (clOf T (callN T (k + 3))) (.nm 2) nLoop (.dy (A.length + 1)) (vals x).length [some (.str x), some (.ref (A.length + 1)), none, none] (A ++ [.lst ((words x).map AV.str)] ++ [.lst (vals x)])) := by
    unfold b7 b7s0
    have s1 : exS (clOf T (callN T (k + 3))) [some (.str x), none, none, none] (.asg (.nm 1) (.comp [3] (.nm 3) .seq (.cons (.bm .split (.var 0) (.cons (.cst (.str ":")) .nil)) .nil) .nil (.call 3 (.cons (.var 3) .nil)))) A = .nx [some (.str x), some (.ref (A.length + 1)), none, none] (A ++ [.lst ((words x).map AV.str)] ++ [.lst (vals x)]) := by
      simp [e1, cm]
    rw [exs_cons, s1, seqF_nx]
    unfold b7s1
    rw [exs_cons, ex_forr]
    simp only [evs_cons, ev_var, evs_nil, List.getElem?_cons_succ, List.getElem?_cons_zero, slotR_ok, consK_ok, consK2_ok, forK_ok]
    rw [srcF_dyA hh]
  show rdB x A (retA (exSs (clOf T (callN T (k + 3))) [some (.str x), none, none, none] b7 A))
  rw [head]
  unfold rdB
  rcases none_loop (k + 3) (A ++ [AO.lst ((words x).map AV.str)] ++ [AO.lst (vals x)]) (A.length + 1) (vals x) hh (some (.str x)) (some (.ref (A.length + 1))) none none with ⟨hok, z, e⟩ | ⟨hn, s', e⟩
  · rw [e, seqF_nx]
    rcases words_case readN (words x) with ⟨w, hw, hr⟩ | ⟨g, hg⟩
    · exfalso
      have := hok (numV (readN w)) (List.mem_map.mpr ⟨w, hw, rfl⟩)
      rw [hr] at this
      cases this
    · have ev : vals x = ((words x).map g).map AV.int := by
        unfold vals
        rw [List.map_map]
        exact List.map_congr_left fun w hw => by rw [hg w hw]; rfl
      have e4 := ff4 (k + 1) (A ++ [AO.lst ((words x).map AV.str)] ++ [AO.lst (vals x)]) (A.length + 1) (vals x) hh (by rw [ev]; exact ints_flat _)
      by_cases hneg : ∃ w ∈ words x, g w < 0
      · have hs : specB x = none := by
          unfold specB
          obtain ⟨w, hw, hl⟩ := hneg
          rw [mapO_none numP _ ⟨w, hw, by unfold numP; rw [hg w hw]; show (if 0 ≤ g w then some (g w) else none) = none; rw [if_neg (by omega)]⟩]
        rw [hs]
        have hf : ∃ i, ffV (vals x) = some i := by
          unfold ffV
          cases q : (vals x).findIdx? fun v => !v.okW with
          | some i => exact ⟨i, rfl⟩
          | none =>
            exfalso
            rw [List.findIdx?_eq_none_iff] at q
            obtain ⟨w, hw, hl⟩ := hneg
            have := q (.int (g w)) (by rw [ev]; exact List.mem_map.mpr ⟨_, List.mem_map.mpr ⟨w, hw, rfl⟩, rfl⟩)
            simp [AV.okW] at this
            omega
        obtain ⟨i, hf⟩ := hf
        rw [hf] at e4
        have e4' : callN T (k + 3) 4 [.ref (A.length + 1)] (A ++ [AO.lst ((words x).map AV.str)] ++ [AO.lst (vals x)]) = .ok (.int i) (A ++ [AO.lst ((words x).map AV.str)] ++ [AO.lst (vals x)]) := e4
        simp only [List.append_assoc, List.cons_append, List.nil_append] at e4' ⊢
        exact ⟨[.lst ((words x).map AV.str), .lst (vals x)], by simp [b7s2, e4', xf3]⟩
      · have hp : ∀ w ∈ words x, numP w = some (g w) := fun w hw => by
          unfold numP
          rw [hg w hw]
          show (if 0 ≤ g w then some (g w) else none) = _
          rw [if_pos (Classical.byContradiction fun z => hneg ⟨w, hw, by omega⟩)]
        have hm : mapO numP (words x) = some ((words x).map g) := mapO_some numP g _ hp
        have hff : ffV (vals x) = if ((words x).map g).length = 0 ∨ 4 < ((words x).map g).length ∨ ((words x).map g).sum = 0 then some ((words x).map g).length else none := by
          unfold ffV
          have q : (vals x).findIdx? (fun v => !v.okW) = none := by
            rw [List.findIdx?_eq_none_iff, ev]
            intro v hv
            obtain ⟨n, hn, rfl⟩ := List.mem_map.mp hv
            obtain ⟨w, hw, rfl⟩ := List.mem_map.mp hn
            have := (numP_bd (hp w hw)).1
            simp [AV.okW, this]
          rw [q, ev, allInts_map]
        have hl0 : ((words x).map g).length ≠ 0 := by
          rw [List.length_map]
          have := List.length_pos_iff.mpr (words_ne x)
          omega
        by_cases hc : ((words x).map g).length ≤ 4 ∧ ((words x).map g).sum ≠ 0
        · have hs : specB x = some ((words x).map g) := by
            unfold specB
            rw [hm]
            exact if_pos hc
          rw [hs]
          rw [hff, if_neg (by rintro (z | z | z); exact hl0 z; omega; exact hc.2 z)] at e4
          have e4' : callN T (k + 3) 4 [.ref (A.length + 1)] (A ++ [AO.lst ((words x).map AV.str)] ++ [AO.lst (vals x)]) = .ok .non (A ++ [AO.lst ((words x).map AV.str)] ++ [AO.lst (vals x)]) := e4
          have em := mk5 k (A ++ [AO.lst ((words x).map AV.str)] ++ [AO.lst (vals x)]) (A.length + 1) ((words x).map g) (by rw [hh, ev]; rfl) (spec_good hs).1
          have hi : T.initN 4 = some 5 := rfl
          rw [ev] at e4' em ⊢
          simp only [List.append_assoc, List.cons_append, List.nil_append, List.length_append, List.length_cons, List.length_nil, Nat.zero_add, Nat.reduceAdd] at e4' em ⊢
          simp [b7s2, b7s3, b7s4, e4', hi, em, intL, -List.map_map]
        · have hs : specB x = none := by
            unfold specB
            rw [hm]
            exact if_neg hc
          rw [hs]
          rw [hff, if_pos (by by_cases q : ((words x).map g).length ≤ 4; exact .inr (.inr (Classical.byContradiction fun z => hc ⟨q, z⟩)); exact .inr (.inl (by omega)))] at e4
          have e4' : callN T (k + 3) 4 [.ref (A.length + 1)] (A ++ [AO.lst ((words x).map AV.str)] ++ [AO.lst (vals x)]) = .ok (.int ((words x).map g).length) (A ++ [AO.lst ((words x).map AV.str)] ++ [AO.lst (vals x)]) := e4
          simp only [List.append_assoc, List.cons_append, List.nil_append] at e4' ⊢
          exact ⟨[.lst ((words x).map AV.str), .lst (vals x)], by simp [b7s2, e4', xf3]⟩
  · rw [e, seqF_exc]
    have hs : specB x = none := by
      unfold specB
      obtain ⟨v, hv, hvn⟩ := hn
      obtain ⟨w, hw, rfl⟩ := List.mem_map.mp hv
      rw [mapO_none numP _ ⟨w, hw, by
        unfold numP
        cases q : readN w with
        | none => rfl
        | some n => rw [q] at hvn; cases hvn⟩]
    rw [hs]
    exact ⟨[.lst ((words x).map AV.str), .lst (vals x)], by simp⟩
/-! ### the law's own look -/
abbrev dLoop : MSs := (.cons (.asg (.nm 3) (.call 16 (.cons (.var 2) .nil)))
    (.cons (.iff (.cmp .is (.var 3) (.cst .non)) (.cons (.ret (.cst .non))
    .nil) .nil)
    (.cons (.expr (.bm .append (.var 1) (.cons (.var 3) .nil)))
    .nil)))
theorem due_loop (k : Nat) (A : AH) {x : Str} (hx : TxOk 4000 x) :
    (∃ ws : List Int, mapO numP (words x) = some ws ∧ ∃ y z, forD (clOf T (callN T (k + 1))) (.nm 2) dLoop (.dy (A.length + 1)) (words x).length [some (.str x), some (.ref A.length), none, none] (A ++ [intL [], .lst ((words x).map AV.str)]) = .nx [some (.str x), some (.ref A.length), y, z] (A ++ [intL ws, .lst ((words x).map AV.str)])) ∨
    (mapO numP (words x) = none ∧ ∃ s G, forD (clOf T (callN T (k + 1))) (.nm 2) dLoop (.dy (A.length + 1)) (words x).length [some (.str x), some (.ref A.length), none, none] (A ++ [intL [], .lst ((words x).map AV.str)]) = .rt .non s (A ++ G)) := by
  have hz : (5000 : Nat) ≤ sizeLine := by decide +kernel
  have hwl := words_len (x := x)
  have hxl := hx.len
  have hdy : ∀ (ds : List Int) (i : Nat), Src.at (A ++ [intL ds, .lst ((words x).map AV.str)]) i (.dy (A.length + 1)) = some (((words x)[i]?).map AV.str) := fun ds i => by
    have hh : (A ++ [intL ds, AO.lst ((words x).map AV.str)])[A.length + 1]? = some (.lst ((words x).map AV.str)) := by simp
    rw [at_dy0 hh, List.getElem?_map]
  rcases forL_rule (t := .nm 2) (body := fun s A => exSs (clOf T (callN T (k + 1))) s dLoop A) (sr := .dy (A.length + 1))
    (fun i s A' => i ≤ (words x).length ∧ ∃ ds : List Int, mapO numP ((words x).take i) = some ds ∧ ds.length = i ∧ A' = A ++ [intL ds, .lst ((words x).map AV.str)] ∧ ∃ y z, s = [some (.str x), some (.ref A.length), y, z])
    (fun r => mapO numP (words x) = none ∧ ∃ s G, r = .rt .non s (A ++ G)) (words x).length
    (fun i hi s A' hP => by
      obtain ⟨_, ds, hm, hl, rfl, y, z, rfl⟩ := hP
      refine ⟨.str (words x)[i], [some (.str x), some (.ref A.length), some (.str (words x)[i]), z], by rw [hdy, List.getElem?_eq_getElem hi]; rfl, rfl, ?_⟩
      have en := number_ok k (A ++ [intL ds, .lst ((words x).map AV.str)]) (words_ok hx _ (List.getElem_mem hi))
      cases q : numP (words x)[i] with
      | none =>
        right; right; left
        rw [q] at en
        exact ⟨.non, [some (.str x), some (.ref A.length), some (.str (words x)[i]), some .non], A ++ [intL ds, .lst ((words x).map AV.str)], by simp [en], mapO_none _ _ ⟨_, List.getElem_mem hi, q⟩, [some (.str x), some (.ref A.length), some (.str (words x)[i]), some .non], [intL ds, .lst ((words x).map AV.str)], rfl⟩
      | some n =>
        left
        rw [q] at en
        have h1 : (A ++ [intL ds, AO.lst ((words x).map AV.str)])[A.length]? = some (.lst (ds.map AV.int)) := by simp [intL]
        have ea : bmA (A ++ [intL ds, AO.lst ((words x).map AV.str)]) .append (.ref A.length) [.int n] = .ok .non (A ++ [intL (ds ++ [n]), AO.lst ((words x).map AV.str)]) := by
          rw [app_lst h1 (by rw [List.length_map]; omega)]
          simp [intL]
        refine ⟨[some (.str x), some (.ref A.length), some (.str (words x)[i]), some (.int n)], _, .inl ?_, hi, ds ++ [n], ?_, by simp [hl], rfl, _, _, rfl⟩
        · simp [en, rcv_lst h1, ea]
        · rw [List.take_succ_eq_append_getElem hi]
          have key : ∀ (l : List Str) (es : List Int), mapO numP l = some es → mapO numP (l ++ [(words x)[i]]) = some (es ++ [n]) := fun l => by
            induction l with
            | nil =>
              intro es he
              cases he
              rw [List.nil_append, mapO_cons, q]; rfl
            | cons a l ih =>
              intro es he
              rw [mapO_cons] at he
              rw [List.cons_append, mapO_cons]
              cases qa : numP a with
              | none => rw [qa] at he; cases he
              | some b =>
                cases ql : mapO numP l with
                | none => rw [qa, ql] at he; cases he
                | some bs =>
                  rw [qa, ql] at he
                  cases he
                  rw [ih bs ql]
                  rfl
          exact key _ _ hm)
    (fun s A' hP => by
      obtain ⟨_, ds, _, _, rfl, _⟩ := hP
      rw [hdy, List.getElem?_eq_none (Nat.le_refl _)]; rfl) (words x).length 0 (by omega) [some (.str x), some (.ref A.length), none, none] (A ++ [intL [], .lst ((words x).map AV.str)]) ⟨Nat.zero_le _, [], rfl, rfl, rfl, none, none, rfl⟩ with ⟨s', A', e, _, ds, hm, hl, rfl, y, z, rfl⟩ | ⟨hm, s', G, e⟩
  · rw [List.take_length] at hm
    exact .inl ⟨ds, hm, y, z, e⟩
  · exact .inr ⟨hm, s', G, e⟩
theorem due_ok (k : Nat) (A : AH) {x : Str} (hx : TxOk 4000 x) : ∃ G, callN T (k + 2) 17 [.str x] A = .ok (match specB x with | some _ => .ref A.length | none => .non) (A ++ G) ∧ ∀ ws, specB x = some ws → (A ++ G)[A.length]? = some (intL ws) := by
  rw [(has 17 f17 rfl).call rfl]
  have hz : (5000 : Nat) ≤ sizeLine := by decide +kernel
  have e1 := split_ok (A := A ++ [intL []]) hx.len
  have hh : (A ++ [intL []] ++ [AO.lst ((words x).map AV.str)])[A.length + 1]? = some (.lst ((words x).map AV.str)) := by simp
  have hl : (A ++ [intL []]).length = A.length + 1 := by simp
  rw [hl] at e1
  have head : exSs (clOf T (callN T (k + 1))) [some (.str x), none, none, none] b17 A = seqF (clOf T (callN T (k + 1))) b17s2 (forD (clOf T (callN T (k + 1))) (.nm 2) dLoop (.dy (A.length + 1)) (words x).length [some (.str x), some (.ref A.length), none, none] (A ++ [intL [], .lst ((words x).map AV.str)])) := by
    unfold b17 b17s0
    have s1 : exS (clOf T (callN T (k + 1))) [some (.str x), none, none, none] (.asg (.nm 1) (.lst .nil)) A = .nx [some (.str x), some (.ref A.length), none, none] (A ++ [intL []]) := by
      simp [newL, new, intL]
    rw [exs_cons, s1, seqF_nx]
    unfold b17s1
    rw [exs_cons, ex_forr]
    have s2 : evs (clOf T (callN T (k + 1))) [some (.str x), some (.ref A.length), none, none] (.cons (.bm .split (.var 0) (.cons (.cst (.str ":")) .nil)) .nil) (A ++ [intL []]) = .ok [.ref (A.length + 1)] (A ++ [intL []] ++ [.lst ((words x).map AV.str)]) := by
      simp only [evs_cons, ev_bm, ev_var, ev_cst, evs_nil, List.getElem?_cons_zero, slotR_ok, bmK_ok, rcv_str, isStr_sp, if_true, consK_ok, consK2_ok, bmK2_ok]
      rw [e1]
      simp
    rw [s2, forK_ok, srcF_dyA hh, List.length_map, List.append_assoc]
    rfl
  show ∃ G, retA (exSs (clOf T (callN T (k + 1))) [some (.str x), none, none, none] b17 A) = _ ∧ _
  rw [head]
  rcases due_loop k A hx with ⟨ws, hm, y, z, e⟩ | ⟨hm, s', G, e⟩
  · rw [e, seqF_nx]
    have h1 : (A ++ [intL ws, AO.lst ((words x).map AV.str)])[A.length]? = some (.lst (ws.map AV.int)) := by simp [intL]
    have e2 := len_lst h1
    have e3 := sum_lst h1
    rw [List.length_map] at e2
    by_cases hc : ws.length ≤ 4 ∧ ws.sum ≠ 0
    · have hs : specB x = some ws := by
        unfold specB
        rw [hm]
        exact if_pos hc
      have q2 : ¬ (4 : Int) < ws.length := by omega
      refine ⟨[intL ws, .lst ((words x).map AV.str)], ?_, fun ws' h' => ?_⟩
      · rw [hs]
        simp [b17s2, b17s3, b17s4, e2, e3, q2, hc.2]
      · rw [hs] at h'
        cases h'
        exact h1
    · have hs : specB x = none := by
        unfold specB
        rw [hm]
        exact if_neg hc
      refine ⟨[intL ws, .lst ((words x).map AV.str)], ?_, fun ws' h' => by rw [hs] at h'; cases h'⟩
      rw [hs]
      by_cases q2 : (4 : Int) < ws.length
      · simp [b17s2, e2, e3, q2]
      · have q3 : ws.sum = 0 := Classical.byContradiction fun z => hc ⟨by omega, z⟩
        simp [b17s2, e2, e3, q2, q3]
  · rw [e, seqF_rt]
    have hs : specB x = none := by
      unfold specB
      rw [hm]
    exact ⟨G, by rw [hs]; simp, fun ws' h' => by rw [hs] at h'; cases h'⟩
/-! ### reading, tried -/
theorem try_ok (k : Nat) (A : AH) {x : Str} (hx : TxOk 4000 x) : (∀ ws, specB x = some ws → callN T (k + 5) 18 [.str x] A = .ok (.ref (A.length + 2)) (A ++ [.lst ((words x).map AV.str), intL ws, bel 4 (lowL ws), intL (lowL ws)])) ∧
    (specB x = none → ∃ G, callN T (k + 5) 18 [.str x] A = .ok (.str "BadText") (A ++ G)) := by
  rw [(has 18 f18 rfl).call rfl]
  have e := rb_ok k A hx
  unfold rdB at e
  constructor
  · intro ws hs
    rw [hs] at e
    have e : callN T (k + 4) 7 [.str x] A = .ok (.ref (A.length + 2)) (A ++ [.lst ((words x).map AV.str), intL ws, bel 4 (lowL ws), intL (lowL ws)]) := e
    simp [f18, b18, startA, e, -List.map_map]
  · intro hs
    rw [hs] at e
    obtain ⟨G, e⟩ := e
    have s0 : subT T.cls 3 (.own 3) = some true := rfl
    have x2 : ∀ (c : Cl), xfldA (inX c (some 1) 3 (A ++ G).length) ((A ++ G) ++ [.xd ex3]) 1 "word" = some (.str "BadText") := fun c => by
      simp only [xfldA, inX_some, if_true, List.getElem?_concat_length]
      rfl
    refine ⟨G ++ [.xd ex3], ?_⟩
    rw [← List.append_assoc]
    simp [f18, b18, startA, e, s0, -List.append_assoc, -List.length_append]
    rw [x2]
    simp
/-! ### the end of the law -/
theorem ext {A : AH} {n : Nat} {o : AO} (G : AH) (h : A[n]? = some o) : (A ++ G)[n]? = some o := by
  rw [List.getElem?_append_left (List.getElem?_eq_some_iff.mp h).1]
  exact h
theorem join_tx {n : Nat} : ∀ (ps : List Str), (∀ p ∈ ps, TxOk n p) → TxOk (ps.length * (n + 1)) (Str.join (Str.ofString ":") ps)
  | [], _ => ⟨by decide +kernel, Nat.le_trans (show (Str.join (Str.ofString ":") []).length ≤ 0 by decide +kernel) (Nat.zero_le _)⟩
  | [p], h => (h p (List.mem_singleton.mpr rfl)).mono (by simp)
  | p :: q :: r, h => by
    have ih := join_tx (q :: r) fun z hz => h z (List.mem_cons_of_mem _ hz)
    have hc : TxOk 1 (Str.ofString ":") := ⟨by decide +kernel, by decide +kernel⟩
    have e : Str.join (Str.ofString ":") (p :: q :: r) = p ++ Str.ofString ":" ++ Str.join (Str.ofString ":") (q :: r) := rfl
    rw [e]
    refine ((h p (List.mem_cons_self ..)).app hc (Nat.le_refl _)).app ih ?_
    simp only [List.length_cons, Nat.add_mul]
    omega
theorem btext_tx {us : List Int} (h : Good4 us) (hN : ∀ w ∈ us, w < 10 ^ 60) : TxOk 4000 (btext us) := by
  unfold btext
  rw [TL.join_eq]
  refine (join_tx (n := 201) _ fun p hp => ?_).mono ?_
  · obtain ⟨w, hw, rfl⟩ := List.mem_map.mp hp
    refine num_ok (by omega) ?_
    have h0 := h.pos w hw
    have h1 := hN w hw
    unfold Bd
    have : (10 : Nat) ^ 60 ≤ 2 ^ 200 := by decide +kernel
    omega
  · rw [List.length_map]
    have := h.l4
    omega
theorem rest_ok (k : Nat) (A : AH) (s0 s1 s2 s4 s5 s6 s7 s8 : Option AV) {x : Str} (hx : TxOk 4000 x) : ∃ A', retA (exSs (clOf T (callN T (k + 5))) [s0, s1, s2, some (.str x), s4, s5, s6, s7, s8] b19s5 A) = .ok (.bl true) A' := by
  obtain ⟨G, e1, hm⟩ := due_ok (k + 3) A hx
  have e1 : callN T (k + 5) 17 [.str x] A = .ok (match specB x with | some _ => .ref A.length | none => .non) (A ++ G) := e1
  generalize A ++ G = A1 at e1 hm
  obtain ⟨t1, t2⟩ := try_ok k A1 hx
  cases hs : specB x with
  | none =>
    rw [hs] at e1
    obtain ⟨G2, e2⟩ := t2 hs
    have hb : PyData.strOk (Str.ofString "BadText") = true := by decide +kernel
    exact ⟨A1 ++ G2, by simp [b19s5, b19s6, b19s7, e1, e2, eq_str hb hb]⟩
  | some ws =>
    rw [hs] at e1
    obtain ⟨hg, hN⟩ := spec_good hs
    have hm := hm ws hs
    generalize A.length = m at e1 hm
    have hl : ws.length < 1000 := by have := hg.l4; omega
    -- told
    have e2 := t1 ws hs
    have b1 : (A1 ++ [AO.lst ((words x).map AV.str), intL ws, bel 4 (lowL ws), intL (lowL ws)])[A1.length + 2]? = some (bel 4 (lowL ws)) := by simp
    have m2 := ext [AO.lst ((words x).map AV.str), intL ws, bel 4 (lowL ws), intL (lowL ws)] hm
    generalize A1.length + 2 = n1 at e2 b1
    generalize A1 ++ [AO.lst ((words x).map AV.str), intL ws, bel 4 (lowL ws), intL (lowL ws)] = A2 at e2 b1 m2
    have e3 := ib15 (k + 1) A2 n1 m ws b1 m2 hg.ws hl
    have e3 : callN T (k + 5) 15 [.ref n1, .ref m] A2 = .ok (.bl true) (A2 ++ [intL (lowL ws), intL (lowL ws), intL (lowL ws)]) := e3
    have b3 := ext [intL (lowL ws), intL (lowL ws), intL (lowL ws)] b1
    have m3 := ext [intL (lowL ws), intL (lowL ws), intL (lowL ws)] m2
    generalize A2 ++ [intL (lowL ws), intL (lowL ws), intL (lowL ws)] = A3 at e3 b3 m3
    -- its text
    have hlow := low_good hg
    have hlN := low_le hg hN
    have e4 := st6 (k + 4) A3 n1 (lowL ws) b3 hlow.l4 hlow.bd
    have e4 : callN T (k + 5) 6 [.ref n1] A3 = .ok (.str (btext (lowL ws))) (A3 ++ [.lst (((lowL ws).map numS).map AV.str)]) := e4
    have hd : ∀ c : Cl, c.dun = T.dunN → dunA c A3 "__str__" (.ref n1) = some 6 := fun c hc => by
      have ei : insAt A3 (.ref n1) = some (4, [(("weights" : Str), AV.tup ((lowL ws).map AV.int))]) := by
        show (match A3[n1]? with | some (.ins C fs) => some (C, fs) | _ => none) = _
        rw [b3]; rfl
      unfold dunA
      rw [ei, hc]
      rfl
    have m4 := ext [AO.lst (((lowL ws).map numS).map AV.str)] m3
    generalize A3 ++ [AO.lst (((lowL ws).map numS).map AV.str)] = A4 at e4 m4
    -- read back
    have e5 := (try_ok k A4 (btext_tx hlow hlN)).1 (lowL ws) (spec_btext hlow hlN)
    rw [low_low hg.ws] at e5
    generalize hy : (words (btext (lowL ws))).map AV.str = W at e5
    have b5 : (A4 ++ [AO.lst W, intL (lowL ws), bel 4 (lowL ws), intL (lowL ws)])[A4.length + 2]? = some (bel 4 (lowL ws)) := by simp
    have m5 := ext [AO.lst W, intL (lowL ws), bel 4 (lowL ws), intL (lowL ws)] m4
    generalize A4.length + 2 = n2 at e5 b5
    generalize A4 ++ [AO.lst W, intL (lowL ws), bel 4 (lowL ws), intL (lowL ws)] = A5 at e5 b5 m5
    have e6 : callN T (k + 5) 15 [.ref n2, .ref m] A5 = .ok (.bl true) (A5 ++ [intL (lowL ws), intL (lowL ws), intL (lowL ws)]) := ib15 (k + 1) A5 n2 m ws b5 m5 hg.ws hl
    have m6 := ext [intL (lowL ws), intL (lowL ws), intL (lowL ws)] m5
    generalize A5 ++ [intL (lowL ws), intL (lowL ws), intL (lowL ws)] = A6 at e6 m6
    -- again
    have e7 := (try_ok k A6 hx).1 ws hs
    have b7 : (A6 ++ [AO.lst ((words x).map AV.str), intL ws, bel 4 (lowL ws), intL (lowL ws)])[A6.length + 2]? = some (bel 4 (lowL ws)) := by simp
    have m7 := ext [AO.lst ((words x).map AV.str), intL ws, bel 4 (lowL ws), intL (lowL ws)] m6
    generalize A6.length + 2 = n3 at e7 b7
    generalize A6 ++ [AO.lst ((words x).map AV.str), intL ws, bel 4 (lowL ws), intL (lowL ws)] = A7 at e7 b7 m7
    have e8 : callN T (k + 5) 15 [.ref n3, .ref m] A7 = .ok (.bl true) (A7 ++ [intL (lowL ws), intL (lowL ws), intL (lowL ws)]) := ib15 (k + 1) A7 n3 m ws b7 m7 hg.ws hl
    have hi : (AV.ref m).isNon = false := rfl
    have hd' := hd (clOf T (callN T (k + 5))) rfl
    have e1 : callN T (k + 5) 17 [.str x] A = .ok (.ref m) A1 := e1
    exact ⟨_, by simp [b19s5, b19s6, b19s7, b19s8, b19s9, b19s10, e1, e2, hi, e3, hd', e4, e5, e6, e7, e8]; rfl⟩
theorem one_S (c : Nat) (s : String) (h : TL.tl (Str.ofString s) = [c]) : Str.ofString s = ⟨#[c]⟩ := TL.ext_tl h
theorem mul_tx {c : Nat} {s : String} (h : TL.tl (Str.ofString s) = [c]) (hc : c < 1114112) {v : Int} {n : Nat} (hv : v ≤ n) : TxOk n (Txt.mul (Str.ofString s) v) := by
  rw [one_S c s h]
  have e : TL.tl (Txt.mul ⟨#[c]⟩ v) = List.replicate v.toNat c := PyProof.Rows.mul_one_list c v
  refine ⟨strOk_iff.mpr fun d hd => ?_, ?_⟩
  · rw [e] at hd
    rw [(List.mem_replicate.mp hd).2]
    exact hc
  · rw [TL.len_tl, e, List.length_replicate]
    omega
theorem pick_str {A : AH} {n : Nat} {l : List Str} (h : A[n]? = some (.lst (l.map AV.str))) {v : Int} (h0 : 0 ≤ v) (h1 : v < l.length) : ∃ z ∈ l, idxA A (.ref n) (.int v) = some (.str z) := by
  rw [idx_lst h]
  obtain ⟨i, rfl⟩ := Int.eq_ofNat_of_zero_le h0
  have hi : i < l.length := by omega
  refine ⟨l[i], List.getElem_mem hi, ?_⟩
  rw [MP.atI_nat, List.getElem?_map, List.getElem?_eq_getElem hi]
  rfl
abbrev signsL : List Str := ["0", "1", ":", "-", " ", "+", "x", "_"]
theorem sig_ok : ∀ x ∈ signsL, TxOk 1 x := fun x hx => by
  have : (signsL.all fun x => PyData.strOk x && decide (x.length ≤ 1)) = true := by decide +kernel
  have h := List.all_eq_true.mp this x hx
  obtain ⟨h1, h2⟩ := Bool.and_eq_true_iff.mp h
  exact ⟨h1, of_decide_eq_true h2⟩
theorem mid2_ok (k : Nat) (ns : List Int) (d : Dr) (hd : d.ok) (B : AH) (s2 s8 : Option AV) {x : Str} (hx : TxOk 1900 x) : ∃ A', retA (exSs (clOf T (callN T (k + 5))) [some (.ref 0), some (.ref 1), s2, some (.str x), none, none, none, none, s8] b19s4 (hp ns d B)) = .ok (.bl true) A' := by
  have hdr := draw_ok (has 13 f13 rfl)
  have h8 : (8 : Nat) ≤ sizeLine := by decide +kernel
  have hz : (4000 : Nat) ≤ sizeLine := by decide +kernel
  have hxl := hx.len
  have hl : x.length ≤ sizeLine := by omega
  obtain ⟨v1, d1, e1, a1, b1, c1⟩ := hdr (k + 4) ns d hd B 2 (by omega) (by omega)
  by_cases h0 : v1 = 0
  · subst h0
    obtain ⟨v2, d2, e2, a2, b2, c2⟩ := hdr (k + 4) ns d1 c1 B ((x.length : Int) + 1) (by omega) (by omega)
    obtain ⟨v3, d3, e3, a3, b3, c3⟩ := hdr (k + 4) ns d2 c2 (B ++ [.lst (signsL.map AV.str)]) 8 (by omega) (by omega)
    obtain ⟨v4, d4, e4, a4, b4, c4⟩ := hdr (k + 4) ns d3 c3 (B ++ [.lst (signsL.map AV.str)]) 2 (by omega) (by omega)
    have hg : (hp ns d3 (B ++ [.lst (signsL.map AV.str)]))[B.length + 2]? = some (.lst (signsL.map AV.str)) := by simp [hp]
    obtain ⟨z, hz1, ez⟩ := pick_str hg a3 (by exact b3)
    have tz := sig_ok z hz1
    have t1 := hx.cut none (some v2)
    have t2 := hx.cut (some (v2 + v4)) none
    have q1 := t1.len
    have q2 := t2.len
    have qz := tz.len
    have s1 : (cutS x none (some v2)).length + z.length ≤ sizeLine := by omega
    have s3 : (cutS x none (some v2) ++ z).length + (cutS x (some (v2 + v4)) none).length ≤ sizeLine := by rw [len_app]; omega
    obtain ⟨A', r⟩ := rest_ok k (hp ns d4 (B ++ [.lst (signsL.map AV.str)])) (some (.ref 0)) (some (.ref 1)) s2 (some (.int v2)) (some (.str z)) none none s8 (((t1.app tz (Nat.le_refl _)).app t2 (Nat.le_refl _)).mono (by omega))
    refine ⟨A', ?_⟩
    simp only [List.map] at e3 e4 ez r
    rw [b19s4, exs_cons]
    refine Eq.trans (congrArg retA (congrArg (seqF _ _) (?_ : _ = F.nx [some (.ref 0), some (.ref 1), s2, some (.str (cutS x none (some v2) ++ z ++ cutS x (some (v2 + v4)) none)), some (.int v2), some (.str z), none, none, s8] (hp ns d4 (B ++ [.lst (signsL.map AV.str)]))))) ?_
    · simp [e1, hl, e2, newL, h8, new, e3, ez, e4, s1, s3]
    · rw [seqF_nx]
      exact r
  · obtain ⟨A', r⟩ := rest_ok k (hp ns d1 B) (some (.ref 0)) (some (.ref 1)) s2 none none none none s8 (hx.mono (by omega))
    refine ⟨A', ?_⟩
    rw [b19s4, exs_cons]
    refine Eq.trans (congrArg retA (congrArg (seqF _ _) (?_ : _ = F.nx [some (.ref 0), some (.ref 1), s2, some (.str x), none, none, none, none, s8] (hp ns d1 B)))) ?_
    · simp [e1, h0]
    · rw [seqF_nx]
      exact r
theorem mid1_ok (k : Nat) (ns : List Int) (d : Dr) (hd : d.ok) (B : AH) (s2 s8 : Option AV) {x : Str} (hx : TxOk 1900 x) : ∃ A', retA (exSs (clOf T (callN T (k + 5))) [some (.ref 0), some (.ref 1), s2, some (.str x), none, none, none, none, s8] b19s3 (hp ns d B)) = .ok (.bl true) A' := by
  have hdr := draw_ok (has 13 f13 rfl)
  have h3 : (3 : Nat) ≤ sizeLine := by decide +kernel
  have hz : (4000 : Nat) ≤ sizeLine := by decide +kernel
  obtain ⟨v1, d1, e1, a1, b1, c1⟩ := hdr (k + 4) ns d hd B 6 (by omega) (by omega)
  by_cases h0 : v1 = 0
  · subst h0
    obtain ⟨v2, d2, e2, a2, b2, c2⟩ := hdr (k + 4) ns d1 c1 B 5 (by omega) (by omega)
    have t3 : TxOk 60 (Txt.mul (Str.ofString "3") 60) := mul_tx (c := 51) (by decide +kernel) (by omega) (by omega)
    have tc : TxOk 1 (Str.ofString ":") := ⟨by decide +kernel, by decide +kernel⟩
    have t61 := tc.app t3 (Nat.le_refl _)
    obtain ⟨v3, d3, e3, a3, b3, c3⟩ := hdr (k + 4) ns d2 c2 (B ++ [.lst [.str ":0", .str "", .str (Str.ofString ":" ++ Txt.mul (Str.ofString "3") 60)]]) 3 (by omega) (by omega)
    have hg : (hp ns d3 (B ++ [.lst [.str ":0", .str "", .str (Str.ofString ":" ++ Txt.mul (Str.ofString "3") 60)]]))[B.length + 2]? = some (.lst (([Str.ofString ":0", Str.ofString "", Str.ofString ":" ++ Txt.mul (Str.ofString "3") 60] : List Str).map AV.str)) := by simp [hp]
    obtain ⟨z, hz1, ez⟩ := pick_str hg a3 (by exact b3)
    have tz : TxOk 61 z := by
      simp only [List.mem_cons, List.not_mem_nil, or_false] at hz1
      rcases hz1 with rfl | rfl | rfl
      · exact ⟨by decide +kernel, by decide +kernel⟩
      · exact ⟨by decide +kernel, by decide +kernel⟩
      · exact t61
    have t7 : TxOk 61 (Txt.mul (Str.ofString "7") (57 + v2)) := mul_tx (c := 55) (by decide +kernel) (by omega) (by omega)
    have t1 : TxOk 1 (Str.ofString "1") := ⟨by decide +kernel, by decide +kernel⟩
    have k1 := t1.app t7 (Nat.le_refl _)
    have k2 := k1.app tz (Nat.le_refl _)
    have l7 : (Str.ofString "7").length ≤ 4000 := by decide +kernel
    have l3 : (Str.ofString "3").length ≤ 4000 := by decide +kernel
    have n1 : 0 ≤ 57 + v2 := by omega
    have n2 : 57 + v2 ≤ 4000 := by omega
    have w0 : (Str.ofString ":").length + (Txt.mul (Str.ofString "3") 60).length ≤ sizeLine := by have := tc.len; have := t3.len; omega
    have w1 : (Str.ofString "1").length + (Txt.mul (Str.ofString "7") (57 + v2)).length ≤ sizeLine := by have := t1.len; have := t7.len; omega
    have w2 : (Str.ofString "1" ++ Txt.mul (Str.ofString "7") (57 + v2)).length + z.length ≤ sizeLine := by have := k1.len; have := tz.len; omega
    obtain ⟨A', r⟩ := mid2_ok k ns d3 c3 (B ++ [.lst [.str ":0", .str "", .str (Str.ofString ":" ++ Txt.mul (Str.ofString "3") 60)]]) s2 s8 (k2.mono (by omega))
    refine ⟨A', ?_⟩
    rw [b19s3, exs_cons]
    refine Eq.trans (congrArg retA (congrArg (seqF _ _) (?_ : _ = F.nx [some (.ref 0), some (.ref 1), s2, some (.str (Str.ofString "1" ++ Txt.mul (Str.ofString "7") (57 + v2) ++ z)), none, none, none, none, s8] (hp ns d3 (B ++ [.lst [.str ":0", .str "", .str (Str.ofString ":" ++ Txt.mul (Str.ofString "3") 60)]]))))) ?_
    · simp [e1, e2, n1, n2, l7, l3, w0, w1, newL, h3, new, e3, ez, w2]
    · rw [seqF_nx]
      exact r
  · obtain ⟨A', r⟩ := mid2_ok k ns d1 c1 B s2 s8 hx
    refine ⟨A', ?_⟩
    rw [b19s3, exs_cons]
    refine Eq.trans (congrArg retA (congrArg (seqF _ _) (?_ : _ = F.nx [some (.ref 0), some (.ref 1), s2, some (.str x), none, none, none, none, s8] (hp ns d1 B)))) ?_
    · simp [e1, h0]
    · rw [seqF_nx]
      exact r
/-- the drawn numbers, as texts -/
theorem comp_ok (k : Nat) (ns : List Int) (d : Dr) (hd : d.ok) (B : AH) (w : Int) (w0 : 0 < w) (w1 : w ≤ 100000000000000000000) (s3 : Option AV) (n : Nat) (hn : n ≤ 5) :
    ∃ (ys : List Str) (d' : Dr), compN (clOf T (callN T (k + 5))) [some (.ref 0), some (.ref 1), some (.int w), s3, none, none, none, none, none] [8] (.nm 8) .nil (.blt .str (.cons (.call 13 (.cons (.var 1) (.cons (.var 2) .nil))) .nil)) (.fx (rangeL 0 n)) n (hp ns d B) = .ok (.ref (B.length + 2)) (hp ns d' (B ++ [.lst (ys.map AV.str)])) ∧ d'.ok ∧ ys.length = n ∧ ∀ y ∈ ys, TxOk 68 y := by
  have hdr := draw_ok (has 13 f13 rfl)
  have hz : (5 : Nat) < sizeLine := by decide +kernel
  have hlen : ∀ d : Dr, (hp ns d B).length = B.length + 2 := fun d => by simp [hp]
  have hD : ∀ (d : Dr) (acc : List AV), lstAt (hp ns d (B ++ [.lst acc])) (B.length + 2) = some acc := fun d acc => by rw [lstAt_iff]; simp [hp]
  have hS : ∀ (d : Dr) (acc acc' : List AV), setL (hp ns d (B ++ [.lst acc])) (B.length + 2) acc' = hp ns d (B ++ [.lst acc']) := fun d acc acc' => by unfold setL; simp [hp]
  obtain ⟨acc', A', k1, ⟨ys, d', ha, hl, hy, hA, hd'⟩, k3⟩ := compL_rule (step := cstep (clOf T (callN T (k + 5))) [some (.ref 0), some (.ref 1), some (.int w), s3, none, none, none, none, none] [8] (.nm 8) .nil (.blt .str (.cons (.call 13 (.cons (.var 1) (.cons (.var 2) .nil))) .nil))) (sr := .fx (rangeL 0 n)) (D := B.length + 2)
    (fun j acc A' => ∃ (ys : List Str) (d' : Dr), acc = ys.map AV.str ∧ ys.length = j ∧ (∀ y ∈ ys, TxOk 68 y) ∧ A' = hp ns d' (B ++ [.lst acc]) ∧ d'.ok) n
    (fun j hj acc A' ⟨ys, d', ha, hl, hy, hA, hd'⟩ hla => by
      subst hA
      obtain ⟨v, d2, e, v0, v1, c2⟩ := hdr (k + 4) ns d' hd' (B ++ [.lst acc]) w w0 (by omega)
      have hb : Bd 67 v := by unfold Bd; omega
      have hlog : v.natAbs.log2 < 1920 := by have := hb.log (by omega); omega
      refine ⟨.int j, by rw [at_range, if_pos hj], .inl ⟨.str (numS v), hp ns d2 (B ++ [.lst acc]), ?_, hD d2 acc, ?_, ?_⟩⟩
      · have ee : evE (clOf T (callN T (k + 5))) [some (.ref 0), some (.ref 1), some (.int w), s3, none, none, none, none, some (.int j)] (.blt .str (.cons (.call 13 (.cons (.var 1) (.cons (.var 2) .nil))) .nil)) (hp ns d' (B ++ [.lst acc])) = .ok (.str (numS v)) (hp ns d2 (B ++ [.lst acc])) := by
          simp [e, hlog]
        unfold cstep
        simp only [bindT, wipeA, List.set_cons_succ, List.set_cons_zero, evB, R.bind]
        rw [ee]
      · rw [ha, List.length_map, hl]; omega
      · rw [hS]
        refine ⟨ys ++ [numS v], d2, by simp [ha], by simp [hl], fun y hy' => ?_, rfl, c2⟩
        rcases List.mem_append.mp hy' with h | h
        · exact hy y h
        · rw [List.mem_singleton.mp h]
          exact num_ok (by omega) hb)
    (fun acc A' _ => by rw [at_range, if_neg (by omega)]) (fun B acc y h => lst_set h) n 0 (by omega) [] (hp ns d (B ++ [.lst []])) ⟨[], d, rfl, rfl, (fun y h => by cases h), rfl, hd⟩ (hD d [])
  refine ⟨ys, d', ?_, hd', hl, hy⟩
  show compL _ _ (hp ns d B).length n 0 (hp ns d B ++ [.lst []]) = _
  rw [hlen]
  rw [ha] at hA
  rw [← hA]
  exact k1
theorem law_ok (k : Nat) (ns : List Int) : ∃ A', callN T (k + 6) 19 [.ref 0] [.ro (ns.map AV.int)] = .ok (.bl true) A' := by
  have hdr := draw_ok (has 13 f13 rfl)
  have h4 : (4 : Nat) ≤ sizeLine := by decide +kernel
  obtain ⟨v1, d1, e1, a1, b1, c1⟩ := hdr (k + 4) ns (0, 0, 7) ⟨by decide, by decide⟩ [.lst [.int 2, .int 3, .int 40, .int 100000000000000000000]] 4 (by omega) (by omega)
  have hw : ∃ w : Int, idxA (hp ns d1 [.lst [.int 2, .int 3, .int 40, .int 100000000000000000000]]) (.ref 2) (.int v1) = some (.int w) ∧ 0 < w ∧ w ≤ 100000000000000000000 := by
    have hl : (hp ns d1 [.lst [.int 2, .int 3, .int 40, .int 100000000000000000000]])[2]? = some (.lst [.int 2, .int 3, .int 40, .int 100000000000000000000]) := rfl
    rw [idx_lst hl]
    rcases (show v1 = 0 ∨ v1 = 1 ∨ v1 = 2 ∨ v1 = 3 by omega) with rfl | rfl | rfl | rfl
    · exact ⟨2, by simp, by omega, by omega⟩
    · exact ⟨3, by simp, by omega, by omega⟩
    · exact ⟨40, by simp, by omega, by omega⟩
    · exact ⟨100000000000000000000, by simp, by omega, by omega⟩
  obtain ⟨w, ew, w0, w1⟩ := hw
  obtain ⟨v2, d2, e2, a2, b2, c2⟩ := hdr (k + 4) ns d1 c1 [.lst [.int 2, .int 3, .int 40, .int 100000000000000000000]] 5 (by omega) (by omega)
  obtain ⟨n, hn⟩ := Int.eq_ofNat_of_zero_le (show 0 ≤ 1 + v2 by omega)
  obtain ⟨ys, d3, e3, c3, hl, hy⟩ := comp_ok k ns d2 c2 [.lst [.int 2, .int 3, .int 40, .int 100000000000000000000]] w w0 w1 none n (by omega)
  have p20 : ∀ A : AH, opA A .pow (.int 10) (.int 20) = .ok (.int 100000000000000000000) A := fun _ => rfl
  have st : callN T (k + 5) 12 [.ref 0] [.ro (ns.map AV.int)] = .ok (.ref 1) (hp ns (0, 0, 7) []) := start_ok (k + 4) ns
  have sr : ∀ (A : AH), compS (clOf T (callN T (k + 5))) [some (.ref 0), some (.ref 1), some (.int w), none, none, none, none, none, none] [8] (.nm 8) .nil (.blt .str (.cons (.call 13 (.cons (.var 1) (.cons (.var 2) .nil))) .nil)) A (srcA A .range1 [.int (1 + v2)]) = compN (clOf T (callN T (k + 5))) [some (.ref 0), some (.ref 1), some (.int w), none, none, none, none, none, none] [8] (.nm 8) .nil (.blt .str (.cons (.call 13 (.cons (.var 1) (.cons (.var 2) .nil))) .nil)) (.fx (rangeL 0 n)) n A := fun A => by
    rw [hn]
    have e : srcA A .range1 [.int n] = some (.fx (rangeL 0 n)) := by
      show (if -big ≤ (n : Int) ∧ (n : Int) < big then some (Src.fx (rangeL 0 n)) else none) = _
      rw [if_pos (by unfold big; omega)]
    rw [e]
    show compN _ _ _ _ _ _ (.fx (rangeL 0 n)) (rangeL 0 n).length A = _
    have : (rangeL 0 (n : Int)).length = n := by simp [rangeL]
    rw [this]
  have tj : TxOk 1900 (Txt.join (Str.ofString ":") ys) := by
    rw [TL.join_eq]
    exact (join_tx ys hy).mono (by rw [hl]; omega)
  have ej : bmA (hp ns d3 ([.lst [.int 2, .int 3, .int 40, .int 100000000000000000000]] ++ [.lst (ys.map AV.str)])) .join (.str (Str.ofString ":")) [.ref 3] = .ok (.str (Txt.join (Str.ofString ":") ys)) (hp ns d3 ([.lst [.int 2, .int 3, .int 40, .int 100000000000000000000]] ++ [.lst (ys.map AV.str)])) := by
    refine join_lst rfl ?_
    have h1 := sum_le (ys := ys) (k := 68) fun y hy' => (hy y hy').len
    have h2 : (Str.ofString ":").length = 1 := by decide +kernel
    rw [h2]
    omega
  obtain ⟨A', r⟩ := mid1_ok k ns d3 c3 ([.lst [.int 2, .int 3, .int 40, .int 100000000000000000000]] ++ [.lst (ys.map AV.str)]) (some (.int w)) none tj
  refine ⟨A', ?_⟩
  have head : exSs (clOf T (callN T (k + 5))) [some (.ref 0), none, none, none, none, none, none, none, none] b19 [.ro (ns.map AV.int)] = exSs (clOf T (callN T (k + 5))) [some (.ref 0), some (.ref 1), some (.int w), some (.str (Txt.join (Str.ofString ":") ys)), none, none, none, none, none] b19s3 (hp ns d3 ([.lst [.int 2, .int 3, .int 40, .int 100000000000000000000]] ++ [.lst (ys.map AV.str)])) := by
    have e3' : compN (clOf T (callN T (k + 5))) [some (.ref 0), some (.ref 1), some (.int w), none, none, none, none, none, none] [8] (.nm 8) .nil (.blt .str (.cons (.call 13 (.cons (.var 1) (.cons (.var 2) .nil))) .nil)) (.fx (rangeL 0 n)) n (hp ns d2 [.lst [.int 2, .int 3, .int 40, .int 100000000000000000000]]) = .ok (.ref 3) (hp ns d3 ([.lst [.int 2, .int 3, .int 40, .int 100000000000000000000]] ++ [.lst (ys.map AV.str)])) := e3
    simp only [List.cons_append, List.nil_append] at e3' ej ⊢
    simp [b19, b19s0, b19s1, b19s2, st, newL, h4, new, p20, e1, ew, e2, sr, e3', ej]
  rw [(has 19 f19 rfl).call rfl]
  have sv : startA f19.N.length [.ref 0] = [some (.ref 0), none, none, none, none, none, none, none, none] := rfl
  rw [sv]
  show retA (exSs (clOf T (callN T (k + 5))) _ b19 _) = _
  rw [head]
  exact r
end Lk16

set_option maxRecDepth 100000
set_option maxHeartbeats 0
namespace Lk16
open PySem PySem.W MP
abbrev R : OpenRow := OpenLaw.row PySem.Challenge.rw_surmise_k16_beliefs_read
def loose : List PySem.Str := ["_wall", "Refused", "Misshapen", "BadBelief", "BadText", "FIGURES", "is_whole", "common", "common_of", "read_whole", "MOST_ROOMS", "first_fault", "Belief", "read_belief", "_law_whole", "_law_gcd", "_law_same_list", "_law_same_tuple", "_law_start", "_law_draw", "_law_lowest", "_law_is_belief", "_law_number", "_law_due", "_law_read"]
theorem run (w : World) : HandSHeadRun.RunEq R (view R.prog [29]) (hookM 6 T) (obM 6 T) 4000 loose w := by
  intro os
  kernel_rfl
end Lk16
open PySem PySem.W PySem.Calls PyProof.Rows
theorem PySem.Challenge.cw_surmise_k16_beliefs_read_holds : PySem.Challenge.rw_surmise_k16_beliefs_read.Holds := by
  w_on; o_law
  refine HandSHeadRun.head_any (r := OpenLaw.row PySem.Challenge.rw_surmise_k16_beliefs_read) (q := view (OpenLaw.row PySem.Challenge.rw_surmise_k16_beliefs_read).prog [29]) (H := MP.hookM 6 Lk16.T) (ob := MP.obM 6 Lk16.T) (M := 4000) (loose := Lk16.loose) (d := HandSHeadRun.topDef (OpenLaw.row PySem.Challenge.rw_surmise_k16_beliefs_read).prog 29) (kwd := []) (MP.obM_eq 6 Lk16.T)
    (by kernel_rfl) (fun s => by kernel_rfl) Lk16.run (by kernel_rfl) (by kernel_rfl) (by kernel_rfl) (by rfl) (by first | assumption | decide +kernel) (by decide +kernel) ⟨rfl, rfl, rfl, rfl, rfl, by decide +kernel⟩ ?hw ?hc
  case hw => w_witness2
  case hc =>
    exact MP.law_walk (l := PySem.Challenge.rw_surmise_k16_beliefs_read) (n := 63) (T := Lk16.T) (dl := Lk16.f19) (f := 19) (k := 19) (x := "_law_script") rfl (by decide) (by kernel_rfl) ⟨rfl, by decide, by decide⟩ rfl (by kernel_rfl) rfl rfl rfl Lk16.k19 Lk16.hat Lk16.binds Lk16.own (fun ns _ => Lk16.law_ok 14 ns)

